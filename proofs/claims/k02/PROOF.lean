import PyProof.Rows.All
import Wide.All
import OpenK.AllK
import Wide.FinOn
import HandS.ForMost
import HandS.ForExc
import HandS.Walk
import HandS.EndBits
import KE.KExcIs
import HandS.ExcIs
import HandS.Style
import HandS.TryOnly
import HandS.TupMul
import HandS.Wide
import HandS.WideBits
import HandS.TupAny
import HandS.IsInst
import HandS.Deep
import KE.DataMinMax
import KE.SortData
import KE.KTupSum
import KE.GoesNew
import KE.GoesMore
import HandS.Words
import HandS.WordsExc
import OpenK.KMore
import KE.IntBitsLaws
import PyProof.ReprLen
import PyProof.P3Eq
import KE.KItemsList
import HandS.ListItems
import HandS.Flow
import HandS.Dict
import HandS.Iter
import KE.KDictDisplayH
import KE.KDictPairs
import HandS.TupLen
import HandS.Conv
import KE.KDictSum
import KE.KDictCopyH
import KE.KBits
import PySem.Challenge.RW_twinheaps_k02_joins_and_splits
set_option Elab.async false
set_option linter.all false
set_option maxRecDepth 100000
set_option maxHeartbeats 4000000
namespace VI
open PySem PySem.Spec PyProof.Rows L2
/-- a def's promise, kept where nothing guards -/
structure FnG (P : Program) (W : World) (K : PySem.W.Frag) (mg : Str → Option Value) (base : Heap) (k : Nat) (f : Addr) (fd : FuncData) (ps : List Str) (sp : Sp) : Prop where
  len : ∀ vs H Q E, sp vs H Q E → vs.length = ps.length
  run : ∀ (A : Around) (out : List PySem.Env) (s : Shared) (H : Hp) (given : Args) (us : List Value) (vs : List V) (Q : VK) (E : XK), Room k A → A.guards = some [] → Env0 P W K mg base A out s H →
    BindsTo s fd given (ps.zip us) → Vals vs us → sp vs H Q E → codeAny (model P W) A (.call (.ref f) given) (CR (L2.CX P W) out P W H s Q E) s
theorem FnG.mono {P : Program} {W : World} {K : PySem.W.Frag} {mg : Str → Option Value} {base : Heap} {j k : Nat} {f : Addr} {fd : FuncData} {ps : List Str} {sp : Sp} (G : FnG P W K mg base j f fd ps sp) (h : j ≤ k) : FnG P W K mg base k f fd ps sp where
  len := G.len
  run := fun A out s H given us vs Q E hr => G.run A out s H given us vs Q E (hr.mono h)
section
variable {X : Cx} {k : Nat} {f : Addr} {fd : FuncData} {ps : List Str} {sp : Sp} {E : L2.St → XK} {x : Str} {p pos : Pos} {e : Expr} {es : List Expr} {t : TA}
/-- the body's own end, told to its caller -/
theorem cr_ends {pins : List (Addr × Obj)} {σ : L2.St} {H : Hp} {s : Shared} {Q : VK} {XE : XK} (I : Inv X pins σ H s) (hx : PassesAt (L2.CX X.prog X.w) X σ XE) {r : Result} {s' : Shared} (h : CR (L2.CX X.prog X.w) X.stack X.prog X.w H s Q XE r s') :
    (match r with | .ok (.ret u) => EP X pins σ Q u s' | .ok _ => False | .error z => X.xe z s') := by
  match r, h with
  | .ok (.ret u), h => exact I.after h
  | .ok .next, h => exact h
  | .ok .brk, h => exact h
  | .ok .cont, h => exact h
  | .error z, h => exact hx pins H s z s' I h
theorem pe_callG (G : FnG X.prog X.w X.K X.mg X.base k f fd ps sp) (hr : Room k X.A) (hu : X.A.guards = some []) (hg : Gl X x) (hm : X.mg x = some (.ref f)) (hk : PySem.W.keepIn X.K (.ref f) = true) (hb : Binds X.K fd ps []) (hx : ∀ σ, PassesAt (L2.CX X.prog X.w) X σ (E σ))
    (ha : PA X (e :: es) t) (hdb : (x == ("__debug__" : Str)) = false := by decide) (he : starEach (e :: es) X.env = (false, eval e X.env) :: starEach es X.env := by rfl) (hpl : (backTo pos (starEach es X.env)).any (·.1) = false := by rfl) :
    PE X (.Call (.Name x p) (e :: es) [] pos) (tCallS sp E t) where
  run := fun pins s σ H Q I h => wpAny_Call_Name_kw (ld_glob I hg hm (PySem.W.callWith_K (h₀ := X.base) I.ok.mod.kin hk (thn (ha.run pos pins s σ H _ I h) fun us s1 q => by
    obtain ⟨vs, H1, J, rv, hs⟩ := q
    refine ⟨J.kIn, ?_⟩
    have hl : us.length = ps.length := rv.length ▸ G.len _ _ _ _ hs
    have bb := hb s1 us J.kIn (by simpa using hl)
    simp only [List.append_nil] at bb
    refine wpAny_call (codeAny_mono (G.run X.A X.stack s1 H1 ⟨us, []⟩ us vs Q (E σ) hr hu J.env0 bb rv hs) fun r s2 hc => ?_)
    match r, hc with
    | .ok (.ret u), hc => exact cr_ends J (hx σ) hc
    | .ok .next, hc => exact False.elim hc
    | .ok .brk, hc => exact False.elim hc
    | .ok .cont, hc => exact False.elim hc
    | .error w, hc => exact cr_ends J (hx σ) hc) he hpl) hdb)
end
/-- the rule for a def of the text -/
theorem fn_ofG {P : Program} {W : World} {K : PySem.W.Frag} {mg : Str → Option Value} {base : Heap} {k : Nat} {f : Addr} {name qual : Str} {params : Arguments} {body : List Stmt} {scope : Scope} {dV kV doc pm cdv ct oc : Value} {an od : Option Addr}
    {osl : Array (Option Value)} {N ps : List Str} {sp : Sp} (lk : K.lookup f = some ⟨oc, od, .func (PySem.W.fnOf name qual params body scope dV kV doc pm an cdv ct), osl⟩) (hcd : PySem.W.codeIn K cdv qual = true) (S : FnScope N ps scope)
    (len : ∀ vs H Q E, sp vs H Q E → vs.length = ps.length)
    (hbody : ∀ (A : Around) (out : List PySem.Env) (s : Shared) (H : Hp) (vs : List V) (Q : VK) (E : XK), Room k (A.deeper (envOfC qual scope s.heap.objs.size f cdv)) → A.guards = some [] → sp vs H Q E →
      ∃ t, PSs (cxOf (L2.CX P W) P W K mg base N qual scope f cdv A out s H E) body t ∧ t { nx := fun _ H' => Q .non H', rt := Q } (L2.start N vs) H) :
    FnG P W K mg base (k + 1) f (PySem.W.fnOf name qual params body scope dV kV doc pm an cdv ct) ps sp where
  len := len
  run := by
    intro A out s H given us vs Q E hr hgd e0 bnd rv hsp
    have kin := e0.mod.kin.keeps fun b o z => (e0.bs b o z).1
    have lim := e0.mod.nolimit.keeps fun b o z => (e0.bs b o z).1
    have kinds : ∀ y ∈ ps.zip us, scope.names.lookup y.1 = some .local ∨ (scope.names.lookup y.1 = some .cell ∧ ((cellsFrom (s.heap.objs.size + 1) scope.names []).lookup y.1).isSome = true) := by
      intro y hy
      have hp := S.par y.1 (List.of_mem_zip (a := y.1) (b := y.2) hy).1
      exact hp.imp id fun q => ⟨q, PySem.W.cellsFrom_some _ _ _ (.inl q)⟩
    refine codeAny_call_function hr.depth (kin _ _ lk) rfl S.co S.gen rfl (PySem.W.codeRec_of kin hcd) (bnd _ _ _ _ (wpAny_newFunctionEnv_cells S.kind kinds ?_))
    intro env he s1 made
    cases he
    refine ⟨lim.keeps made.toInCall.keep, codeAny_func ?_⟩
    obtain ⟨t, ht, hq⟩ := hbody A out s H vs Q E (hr.deeper _) hgd hsp
    have J := inv_start (CX := L2.CX P W) (E := E) (H := H) S hr.hd e0 (len _ _ _ _ hsp) rv made
    refine wpAny_mono (ht.run [] s1 _ H _ J hq) ?_ fun _ _ z => z
    intro fl s2 hs
    have told : ∀ {σ2 : L2.St} {H2 : Hp} {v : V} {u : Value}, Inv (cxOf (L2.CX P W) P W K mg base N qual scope f cdv A out s H E) [] σ2 H2 s2 → RelV v u → Q v H2 → CE out P W H s Q u s2 := by
      intro σ2 H2 v u J2 r2 q2
      exact ⟨v, H2, J2.os, J2.bare, J2.base, J2.hok, r2, q2⟩
    match fl, hs with
    | .ret u, ⟨v, σ2, H2, J2, r2, q2⟩ => exact told J2 r2 q2
    | .next, ⟨σ2, H2, J2, q2⟩ => exact told (v := V.non) J2 rfl q2
    | .brk, ⟨_, _, _, q2⟩ => exact q2.elim
    | .cont, ⟨_, _, _, q2⟩ => exact q2.elim
theorem Fun.okG {P : Program} {W : World} {K : PySem.W.Frag} {mg : Str → Option Value} {base : Heap} {x qual : Str} {st : Stmt} {f : Addr} {fd : FuncData} {N ps : List Str} {k : Nat} {sp : Sp} (FF : Fun K x qual st f fd) (S : FnScope N ps (defScope st)) (len : ∀ vs H Q E, sp vs H Q E → vs.length = ps.length)
    (hbody : ∀ (cdv : Value) (A : Around) (out : List PySem.Env) (s : Shared) (H : Hp) (vs : List V) (Q : VK) (E : XK), Room k (A.deeper (envOfC qual (defScope st) s.heap.objs.size f cdv)) → A.guards = some [] → sp vs H Q E →
      ∃ t, PSs (cxOf (L2.CX P W) P W K mg base N qual (defScope st) f cdv A out s H E) (defBody st) t ∧ t { nx := fun _ H' => Q .non H', rt := Q } (L2.start N vs) H) : FnG P W K mg base (k + 1) f fd ps sp := by
  obtain ⟨oc, od, kV, doc, pm, an, cdv, ct, osl, rfl, lk, hcd⟩ := FF.ex
  exact fn_ofG lk hcd S len fun A out s H vs Q E => hbody cdv A out s H vs Q E
/-- the written part holds no list: the script is none of the module's own -/
def noLst (K : PySem.W.Frag) : Bool := K.all fun p => match p.2.cls with
  | .type n => n != "list"
  | _ => true
theorem lookup_mem {α β : Type} [BEq α] [LawfulBEq α] {l : List (α × β)} {a : α} {b : β} (h : l.lookup a = some b) : (a, b) ∈ l := by
  induction l with
  | nil => cases h
  | cons p r ih =>
    obtain ⟨c, d⟩ := p
    by_cases q : a = c
    · subst q
      simp only [List.lookup, beq_self_eq_true] at h
      cases h; exact List.mem_cons_self
    · have : (a == c) = false := by simpa using q
      simp only [List.lookup, this] at h
      exact List.mem_cons_of_mem _ (ih h)
theorem noLst_at {K : PySem.W.Frag} (h : noLst K = true) {a : Addr} {o : Obj} (e : K.lookup a = some o) : o.cls ≠ .type "list" := by
  intro z
  have := List.all_eq_true.mp h _ (lookup_mem e)
  simp only [z] at this
  simp at this
/-- the heap in which nothing is known but the script -/
def scriptHp (a : Addr) (o : Obj) (ns : List Int) : Hp := fun b => if b = a then some (.frz o (.lst (ns.map V.int))) else none
theorem scriptHp_at {a : Addr} {o : Obj} {ns : List Int} : scriptHp a o ns a = some (.frz o (.lst (ns.map V.int))) := if_pos rfl
theorem scriptHp_ne {a b : Addr} {o : Obj} {ns : List Int} (h : b ≠ a) : scriptHp a o ns b = none := if_neg h
def spLaw (n : Nat) : Sp := fun vs H Q _ => ∃ a o ns, vs = [.ref a] ∧ ns.length ≤ n ∧ (∀ k ∈ ns, Builtin.Int.intBits k ≤ 1048576) ∧ H = scriptHp a o ns ∧ ∀ H', Q (.bl true) H'
theorem law_end {l : PySem.W.OpenLaw} {n k : Nat} {q : Program} {loose : List Str} {XP : (Str → Option Value) → Heap → Prop} {YP : World → Heap → Prop} {d : DefRec} {K : Params → PySem.W.Frag} {x : Str}
    (hn : l.most = some n) (hn2 : n ≤ sizeLine) (hdf : d.params.defaults = []) (hr : Room k callerA) (hY : ∀ (w : World) (h : Heap), YP w h → (K w.params).In h) (hL : ∀ w : World, noLst (K w.params) = true)
    (F : ∀ (w : World) (mg : Str → Option Value) (fa : Addr) (h : Heap), (K w.params).In h → h.Ns mainGlobals mg → mg d.name = some (.ref fa) →
      ∃ fd : FuncData, Binds (K w.params) fd [x] [] ∧ ∀ base : Heap, (K w.params).In base → base.Ns mainGlobals mg → FnG l.prog w (K w.params) mg base k fa fd [x] (spLaw n)) :
    PySem.W.WalkO q loose XP YP l.row.toRowW d [] (fun f vs => PySem.call f vs) := by
  refine Att.attach_callB hn hdf fun w s₀ s1 mg mb fa o pm cd doc a vs ns G Y ho hd hcd hmg hobj hints hlen hbits hgen => ?_
  have kin := hY w _ Y
  obtain ⟨fd, hbnd, hF⟩ := F w mg fa _ kin G.T.g hmg
  have free : (K w.params).lookup a = none := by
    cases e : (K w.params).lookup a with
    | none => rfl
    | some o' =>
      have := kin _ _ e
      rw [hobj] at this
      cases this
      exact absurd rfl (noLst_at (hL w) e)
  -- the heap, the script locked
  generalize hob : ({ cls := .type "list", data := .seq vs.toArray } : Obj) = ob at hobj
  have sH : ∀ b u, scriptHp a ob ns b = some u → b = a ∧ u = .frz ob (.lst (ns.map V.int)) := by
    intro b u z
    by_cases hb : b = a
    · subst hb; rw [scriptHp_at] at z; exact ⟨rfl, (Option.some.inj z).symm⟩
    · rw [scriptHp_ne hb] at z; cases z
  have ok : HOk l.prog w (scriptHp a ob ns) s1.heap := by
    intro b u z
    obtain ⟨rfl, rfl⟩ := sH b u z
    exact ⟨hobj, by rw [List.length_map]; exact Nat.le_trans hlen hn2, vs, 0, L2.vals_ints hints, by rw [hobj, ← hob]⟩
  have shown : ∀ {b : Addr} {o : Obj}, s1.heap.get? b = some o → b ≠ a → (hidT s1.heap (scriptHp a ob ns)).get? b = some o := fun e n => hidT_get e (scriptHp_ne n)
  have dictNe : ∀ {b : Addr} {m : Str → Option Value}, s1.heap.Ns b m → b ≠ a := by
    rintro b m ⟨o, es, ep, e, dd, _⟩ rfl
    rw [hobj, ← hob] at e
    cases e
    cases dd
  have ns' : ∀ {b : Addr} {m : Str → Option Value}, s1.heap.Ns b m → (hidT s1.heap (scriptHp a ob ns)).Ns b m := by
    intro b m z
    have nb := dictNe z
    obtain ⟨o, es, ep, e, r⟩ := z
    exact ⟨o, es, ep, shown e nb, r⟩
  have kb : (K w.params).In (hidT s1.heap (scriptHp a ob ns)) := by
    intro b o e
    refine shown (kin b o e) ?_
    rintro rfl
    rw [free] at e; cases e
  have md : Mod (K w.params) mg (hidT s1.heap (scriptHp a ob ns)) :=
    { kin := kb, glob := ns' G.T.g, blt := ⟨mb, ns' G.T.b, G.T.builtins⟩, nolimit := by obtain ⟨mc, h1, h2⟩ := G.T.nolimit; exact ⟨mc, ns' h1, h2⟩ }
  have e0 : Env0 l.prog w (K w.params) mg (hidT s1.heap (scriptHp a ob ns)) callerA [] s1 (scriptHp a ob ns) :=
    { frames := rfl, mod := md, bs := fun b o e => of_hidT e, bsz := Nat.le_of_eq (hidT_size _ _), funs := trivial, frf := fun b hb => (by cases hb), hok := ok, bare := .of_eq hgen }
  refine codeAny_mono ((hF _ kb (ns' G.T.g)).run callerA [] s1 (scriptHp a ob ns) ⟨[.ref a], []⟩ [.ref a] [.ref a] (fun v _ => v = .bl true) (fun _ _ _ => False) hr rfl e0 (hbnd s1 [.ref a] kin rfl) (.cons rfl .nil) ⟨a, ob, ns, rfl, hlen, hbits, rfl, fun _ => rfl⟩) ?_
  intro r s2 h
  match r, h with
  | .error z, h => exact (by obtain ⟨_, _, _, _, _, _, _, _, _, _, _, _, zz⟩ := h; exact zz.elim)
  | .ok (.ret u), ⟨v, H', os, bare, un, hok', rv, qv⟩ =>
    have qv : v = .bl true := qv
    subst qv
    cases rv
    refine ⟨rfl, OldK.of_keep fun b o e => ?_, os, bare⟩
    by_cases hb : b = a
    · subst hb
      have z := hok' b _ (un.frzs b ob _ scriptHp_at)
      rw [hobj] at e; cases e
      exact z.1
    · exact un.keep b o e (scriptHp_ne hb) (fun z => by cases z) (fun z => by cases z)
end VI
set_option Elab.async false
set_option linter.all false
set_option maxRecDepth 100000
set_option maxHeartbeats 4000000
namespace VI
open PySem PySem.Spec PyProof.Rows L2
/-- an error of the class at C, its dict at d -/
def exk (a C d : Addr) : HO := .ext fun h => ∃ oe vs, h.get? a = some oe ∧ Zc (.ref C) (some d) oe ∧ oe.data = .fields vs
theorem exk_ok {P : Program} {w : World} {H : Hp} {h : Heap} {a C d : Addr} {oe : Obj} {vs : Array Value} (e : h.get? a = some oe) (z : Zc (.ref C) (some d) oe) (v : oe.data = .fields vs) : ObjOk P w H h a (exk a C d) :=
  ⟨⟨oe, vs, e, z, v⟩, ⟨_, e⟩, fun h1 h2 p k => by
    obtain ⟨o, ws, q, r⟩ := p
    exact ⟨o, ws, k _ q, r⟩⟩
theorem exk_at {P : Program} {w : World} {H : Hp} {h : Heap} {a C d : Addr} (hok : HOk P w H h) (e : H a = some (exk a C d)) : ∃ oe vs, h.get? a = some oe ∧ Zc (.ref C) (some d) oe ∧ oe.data = .fields vs := by
  have x : ObjOk P w H h a (.ext fun h => ∃ oe vs, h.get? a = some oe ∧ Zc (.ref C) (some d) oe ∧ oe.data = .fields vs) := hok a _ e
  exact x.1
/-- the base of an own class of error, by name -/
def excBase (n : Str) : String :=
  if n = "NoStone" ∨ n = "NoPlace" ∨ n = "NoNumber" ∨ n = "NoDeed" then "LookupError"
  else if n = "Unlike" ∨ n = "Odd" ∨ n = "Barred" then "RuntimeError"
  else if n = "TooMany" ∨ n = "Full" then "OverflowError" else "ValueError"
/-- the built-in classes that are asked for -/
def askedB : List String := ["int", "bool", "str", "list", "tuple", "LookupError", "ValueError", "RuntimeError", "OverflowError", "KeyError", "IndexError", "NotImplementedError"]
/-- the own classes of the written part, by name -/
def clsNm (K : PySem.W.Frag) (C : Addr) : Option Str := (PySem.W.clsIn K C).map (·.qualname)
/-- the fields of own errors -/
def excFlds : List Str := ["stone", "place", "number", "many", "heap", "other", "index", "at", "text", "stones"]
/-- what the written part says of an own class of error -/
structure ExK (K : PySem.W.Frag) (C : Addr) (n : Str) : Prop where
  nm : clsNm K C = some n
  ex : ExcC K C
  ty : PySem.W.typeIn K (.ref C) = some (.type "type")
  asked : ∀ T ∈ askedB, PySem.W.kitOne K (.ref C) (.type T) = some (decide (T = excBase n))
  fl : ∀ f ∈ excFlds, PySem.W.findIn K (.ref C) f = some none
  own : ∀ S m, clsNm K S = some m → PySem.W.typeIn K (.ref S) = some (.type "type") → PySem.W.subIn K (.ref C) (.ref S) = some (decide (n = m))
/-- keys of a dict, as data -/
def keyD : Key → PyData
  | .inl i => .int i
  | .inr s => .str s
def keysD (l : List Key) : PyData := .tuple (l.map keyD)
end VI
set_option Elab.async false
set_option linter.all false
set_option maxRecDepth 100000
set_option maxHeartbeats 4000000
namespace VI
open PySem PySem.Spec PyProof.Rows L2
abbrev D := PyData
abbrev Ext (H H' : Hp) : Prop := ∀ a o, H a = some o → H' a = some o
theorem Ext.refl (H : Hp) : Ext H H := fun _ _ h => h
theorem Ext.trans {H H1 H2 : Hp} (a : Ext H H1) (b : Ext H1 H2) : Ext H H2 := fun x o h => b x o (a x o h)
theorem Ext.new {H : Hp} {p : Addr} {o : HO} (h : H p = none) : Ext H (upd H p o) := fun a u e => by
  rw [upd_ne (ne_of_none e h)]; exact e
/-- an object that F does not know may change -/
theorem Ext.mut {F H : Hp} {p : Addr} {o : HO} (e : Ext F H) (h : F p = none) : Ext F (upd H p o) := fun a u ha => by
  rw [upd_ne (ne_of_none ha h)]; exact e a u ha
theorem Ext.free {H H' : Hp} {p : Addr} (e : Ext H H') (h : H' p = none) : H p = none := by
  cases h1 : H p with
  | none => rfl
  | some o => rw [e p o h1] at h; cases h
theorem Ext.both {F H : Hp} {p : Addr} {o : HO} (e : Ext F H) : Ext (upd F p o) (upd H p o) := fun a u ha => by
  by_cases hp : a = p
  · subst hp; rw [upd_same] at ha ⊢; exact ha
  · rw [upd_ne hp] at ha ⊢; exact e a u ha
theorem ext_rd {H H' : Hp} {a : Addr} {u : HO} (e : Ext H H') (h : Rd H a u) : Rd H' a u := by
  rcases h with h | ⟨o, h⟩
  · exact .inl (e a _ h)
  · exact .inr ⟨o, e a _ h⟩
variable {K : PySem.W.Frag}
theorem ext_l {H H' : Hp} {a : Addr} {xs : List V} (e : Ext H H') (h : SqL K H a xs) : SqL K H' a xs := by
  rcases h with h | h
  · exact .inl (ext_rd e h)
  · exact .inr h
theorem ext_t {H H' : Hp} {a : Addr} {xs : List V} (e : Ext H H') (h : H a = some (.tup xs)) : SqT K H' a xs := .inl (.inl (e _ _ h))
mutual
/-- data at a heap: lists that are tracked (or locked), tuples (the module's own too) -/
inductive Dp (K : PySem.W.Frag) (H : Hp) : V → PyData → Prop
  | non : Dp K H .non .none
  | bl (b : Bool) : Dp K H (.bl b) (.bool b)
  | int (i : Int) : Dp K H (.int i) (.int i)
  | str (x : Str) : Dp K H (.str x) (.str x)
  | lst {a : Addr} {xs : List V} {ds : List PyData} : Rd H a (.lst xs) → DpAll K H xs ds → Dp K H (.ref a) (.list ds)
  | tup {a : Addr} {xs : List V} {ds : List PyData} : H a = some (.tup xs) → DpAll K H xs ds → Dp K H (.ref a) (.tuple ds)
  | exc {a C d : Addr} {n : Str} {fs : List (Str × V)} {ds : List PyData} : ExK K C n → H a = some (exk a C d) → H d = some (.xd fs) → DpAll K H (fs.map (·.2)) ds → Dp K H (.ref a) (.dict ((.none, .str n) :: (fs.map fun p => PyData.str p.1).zip ds))
  | dcT {a : Addr} {od : Obj} {kvs : List (List Key × V)} {ds : List PyData} : H a = some (.frz od (.dT kvs)) → DpAll K H (kvs.map (·.2)) ds → Dp K H (.ref a) (.dict ((kvs.map fun p => keysD p.1).zip ds))
  | dcK {a : Addr} {od : Obj} {kvs : List (Key × V)} {ds : List PyData} : H a = some (.frz od (.dK kvs)) → DpAll K H (kvs.map (·.2)) ds → Dp K H (.ref a) (.dict ((.none, .none) :: (kvs.map fun p => keyD p.1).zip ds))
inductive DpAll (K : PySem.W.Frag) (H : Hp) : List V → List PyData → Prop
  | nil : DpAll K H [] []
  | cons {v : V} {vs : List V} {d : PyData} {ds : List PyData} : Dp K H v d → DpAll K H vs ds → DpAll K H (v :: vs) (d :: ds)
end
mutual
/-- no dict, no error within -/
def plainD : D → Bool
  | .none => true
  | .bool _ => true
  | .int _ => true
  | .str _ => true
  | .list ds => plainA ds
  | .tuple ds => plainA ds
  | .dict _ => false
def plainA : List D → Bool
  | [] => true
  | d :: ds => plainD d && plainA ds
end
mutual
theorem Dp.l2 {H : Hp} : ∀ {d : D} {v : V}, Dp K H v d → plainD d = true → L2.Dp K H v d
  | _, _, .non, _ => .non
  | _, _, .bl b, _ => .bl b
  | _, _, .int i, _ => .int i
  | _, _, .str x, _ => .str x
  | _, _, .lst h r, p => .lst (.inl h) (DpAll.l2 r (by unfold plainD at p; exact p))
  | _, _, .tup h r, p => .tup (.inl (.inl h)) (DpAll.l2 r (by unfold plainD at p; exact p))
  | _, _, .exc _ _ _ _, p => by unfold plainD at p; cases p
  | _, _, .dcT _ _, p => by unfold plainD at p; cases p
  | _, _, .dcK _ _, p => by unfold plainD at p; cases p
theorem DpAll.l2 {H : Hp} : ∀ {ds : List D} {vs : List V}, DpAll K H vs ds → plainA ds = true → L2.DpAll K H vs ds
  | _, _, .nil, _ => .nil
  | _, _, .cons h r, p => by
    unfold plainA at p
    rw [Bool.and_eq_true] at p
    exact .cons (Dp.l2 h p.1) (DpAll.l2 r p.2)
end
mutual
theorem plain_lay : ∀ d : D, d.canLay0 = true → plainD d = true
  | .none, _ => by unfold plainD; rfl
  | .bool _, _ => by unfold plainD; rfl
  | .int _, _ => by unfold plainD; rfl
  | .str _, _ => by unfold plainD; rfl
  | .list ds, h => by unfold plainD; unfold PyData.canLay0 at h; exact plainA_lay ds h
  | .tuple ds, h => by unfold plainD; unfold PyData.canLay0 at h; exact plainA_lay ds h
  | .dict _, h => by unfold PyData.canLay0 at h; cases h
theorem plainA_lay : ∀ ds : List D, PyData.canLayAll0 ds = true → plainA ds = true
  | [], _ => by unfold plainA; rfl
  | d :: ds, h => by
    unfold PyData.canLayAll0 at h
    rw [Bool.and_eq_true] at h
    unfold plainA
    rw [plain_lay d h.1, plainA_lay ds h.2]; rfl
end
theorem plain_shaped {d : D} (h : SeqAt.shaped d = true) : plainD d = true := by
  unfold SeqAt.shaped at h
  rw [Bool.and_eq_true] at h
  exact plain_lay d h.1
mutual
theorem plain_hd : ∀ d : D, d.hasDict = false → plainD d = true
  | .none, _ => by unfold plainD; rfl
  | .bool _, _ => by unfold plainD; rfl
  | .int _, _ => by unfold plainD; rfl
  | .str _, _ => by unfold plainD; rfl
  | .list ds, h => by unfold plainD; unfold PyData.hasDict at h; exact plainA_hd ds h
  | .tuple ds, h => by unfold plainD; unfold PyData.hasDict at h; exact plainA_hd ds h
  | .dict _, h => by unfold PyData.hasDict at h; cases h
theorem plainA_hd : ∀ ds : List D, PyData.hasDictAll ds = false → plainA ds = true
  | [], _ => by unfold plainA; rfl
  | d :: ds, h => by
    unfold PyData.hasDictAll at h
    rw [Bool.or_eq_false_iff] at h
    unfold plainA
    rw [plain_hd d h.1, plainA_hd ds h.2]; rfl
end
mutual
theorem Dp.ext {H H' : Hp} (e : Ext H H') : ∀ {d : D} {v : V}, Dp K H v d → Dp K H' v d
  | _, _, .non => .non
  | _, _, .bl b => .bl b
  | _, _, .int i => .int i
  | _, _, .str x => .str x
  | _, _, .lst h r => .lst (ext_rd e h) (DpAll.ext e r)
  | _, _, .tup h r => .tup (e _ _ h) (DpAll.ext e r)
  | _, _, .exc x h1 h2 r => .exc x (e _ _ h1) (e _ _ h2) (DpAll.ext e r)
  | _, _, .dcT h r => .dcT (e _ _ h) (DpAll.ext e r)
  | _, _, .dcK h r => .dcK (e _ _ h) (DpAll.ext e r)
theorem DpAll.ext {H H' : Hp} (e : Ext H H') : ∀ {ds : List D} {vs : List V}, DpAll K H vs ds → DpAll K H' vs ds
  | _, _, .nil => .nil
  | _, _, .cons h r => .cons (Dp.ext e h) (DpAll.ext e r)
end
theorem DpAll.length {H : Hp} : ∀ {vs : List V} {ds : List D}, DpAll K H vs ds → vs.length = ds.length
  | _, _, .nil => rfl
  | _, _, .cons _ r => by rw [List.length_cons, List.length_cons, r.length]
theorem DpAll.append {H : Hp} : ∀ {vs : List V} {ds : List D} {ws : List V} {es : List D}, DpAll K H vs ds → DpAll K H ws es → DpAll K H (vs ++ ws) (ds ++ es)
  | _, _, _, _, .nil, q => q
  | _, _, _, _, .cons h r, q => .cons h (DpAll.append r q)
theorem DpAll.get {H : Hp} : ∀ {vs : List V} {ds : List D} {i : Nat} {d : D}, DpAll K H vs ds → ds[i]? = some d → ∃ v, vs[i]? = some v ∧ Dp K H v d
  | _, _, _, _, .nil, e => by simp at e
  | _, _, 0, d, .cons h _, e => by simp at e; subst e; exact ⟨_, rfl, h⟩
  | _, _, i + 1, d, .cons _ r, e => by
    obtain ⟨v, h1, h2⟩ := DpAll.get (i := i) (d := d) r (by simpa using e)
    exact ⟨v, by simpa using h1, h2⟩
theorem DpAll.get' {H : Hp} : ∀ {vs : List V} {ds : List D} {i : Nat} {v : V}, DpAll K H vs ds → vs[i]? = some v → ∃ d, ds[i]? = some d ∧ Dp K H v d
  | _, _, _, _, .nil, e => by simp at e
  | _, _, 0, d, .cons h _, e => by simp at e; subst e; exact ⟨_, rfl, h⟩
  | _, _, i + 1, d, .cons _ r, e => by
    obtain ⟨v, h1, h2⟩ := DpAll.get' (i := i) (v := d) r (by simpa using e)
    exact ⟨v, by simpa using h1, h2⟩
theorem DpAll.take {H : Hp} : ∀ {vs : List V} {ds : List D} (n : Nat), DpAll K H vs ds → DpAll K H (vs.take n) (ds.take n)
  | _, _, 0, _ => .nil
  | _, _, _ + 1, .nil => .nil
  | _, _, n + 1, .cons h r => .cons h (DpAll.take n r)
theorem DpAll.drop {H : Hp} : ∀ {vs : List V} {ds : List D} (n : Nat), DpAll K H vs ds → DpAll K H (vs.drop n) (ds.drop n)
  | _, _, 0, r => r
  | _, _, _ + 1, .nil => .nil
  | _, _, n + 1, .cons _ r => DpAll.drop n r
theorem DpAll.set {H : Hp} {v : V} {d : D} (h : Dp K H v d) : ∀ {vs : List V} {ds : List D} (n : Nat), DpAll K H vs ds → DpAll K H (vs.set n v) (ds.set n d)
  | _, _, _, .nil => .nil
  | _, _, 0, .cons _ r => .cons h r
  | _, _, n + 1, .cons q r => .cons q (DpAll.set h n r)
theorem DpAll.eraseIdx {H : Hp} : ∀ {vs : List V} {ds : List D} (n : Nat), DpAll K H vs ds → DpAll K H (vs.eraseIdx n) (ds.eraseIdx n)
  | _, _, _, .nil => .nil
  | _, _, 0, .cons _ r => r
  | _, _, n + 1, .cons q r => .cons q (DpAll.eraseIdx n r)
theorem DpAll.reverse {H : Hp} {vs : List V} {ds : List D} (h : DpAll K H vs ds) : DpAll K H vs.reverse ds.reverse := by
  induction ds generalizing vs with
  | nil => cases h; exact .nil
  | cons d ds ih =>
    cases h with
    | cons a r =>
      rw [List.reverse_cons, List.reverse_cons]
      exact (ih r).append (.cons a .nil)
theorem DpAll.ints {H : Hp} : ∀ {ns : List Int} {vs : List V}, DpAll K H vs (ns.map PyData.int) → vs = ns.map V.int
  | [], _, h => by cases h; rfl
  | n :: ns, _, h => by
    cases h with
    | cons a r => cases a; rw [DpAll.ints r]; rfl
theorem DpAll.of_ints {H : Hp} : ∀ (ns : List Int), DpAll K H (ns.map V.int) (ns.map PyData.int)
  | [] => .nil
  | n :: ns => .cons (.int n) (DpAll.of_ints ns)
theorem DpAll.bls {H : Hp} : ∀ {ns : List Bool} {vs : List V}, DpAll K H vs (ns.map PyData.bool) → vs = ns.map V.bl
  | [], _, h => by cases h; rfl
  | n :: ns, _, h => by
    cases h with
    | cons a r => cases a; rw [DpAll.bls r]; rfl
theorem DpAll.strs {H : Hp} : ∀ {ns : List Str} {vs : List V}, DpAll K H vs (ns.map PyData.str) → vs = ns.map V.str
  | [], _, h => by cases h; rfl
  | n :: ns, _, h => by
    cases h with
    | cons a r => cases a; rw [DpAll.strs r]; rfl
/-- data whose first level may be a thing of our own (H), the rest lies still (F) -/
inductive Dh (K : PySem.W.Frag) (F H : Hp) : V → D → Prop
  | non : Dh K F H .non .none
  | bl (b : Bool) : Dh K F H (.bl b) (.bool b)
  | int (i : Int) : Dh K F H (.int i) (.int i)
  | str (x : Str) : Dh K F H (.str x) (.str x)
  | lst {a : Addr} {xs : List V} {ds : List D} : Rd H a (.lst xs) → DpAll K F xs ds → Dh K F H (.ref a) (.list ds)
  | tup {a : Addr} {xs : List V} {ds : List D} : F a = some (.tup xs) → DpAll K F xs ds → Dh K F H (.ref a) (.tuple ds)
  | oth {v : V} {kvs : List (D × D)} : Dp K F v (.dict kvs) → Dh K F H v (.dict kvs)
theorem Dp.dh {F H : Hp} (e : Ext F H) {v : V} {d : D} (h : Dp K F v d) : Dh K F H v d := by
  cases h with
  | non => exact .non
  | bl b => exact .bl b
  | int i => exact .int i
  | str x => exact .str x
  | lst h r => exact .lst (ext_rd e h) r
  | tup h r => exact .tup h r
  | exc x h1 h2 r => exact .oth (.exc x h1 h2 r)
  | dcT h r => exact .oth (.dcT h r)
  | dcK h r => exact .oth (.dcK h r)
theorem Dh.dp {F H : Hp} (e : Ext F H) {v : V} {d : D} (h : Dh K F H v d) : Dp K H v d := by
  cases h with
  | non => exact .non
  | bl b => exact .bl b
  | int i => exact .int i
  | str x => exact .str x
  | lst h r => exact .lst h (r.ext e)
  | tup h r => exact .tup (e _ _ h) (r.ext e)
  | oth h => exact h.ext e
theorem Dh.ext {F F' H H' : Hp} (e : Ext F F') (e' : Ext H H') {v : V} {d : D} (h : Dh K F H v d) : Dh K F' H' v d := by
  cases h with
  | non => exact .non
  | bl b => exact .bl b
  | int i => exact .int i
  | str x => exact .str x
  | lst h r => exact .lst (ext_rd e' h) (r.ext e)
  | tup h r => exact .tup (e _ _ h) (r.ext e)
  | oth h => exact .oth (h.ext e)
/-- a thing of our own, at every depth: data that lies still; a list; a dict; an instance of an own class -/
inductive OT where
  | fz (d : D)
  | lst (ts : List OT)
  | dT (ks : List (List Key)) (ts : List OT)
  | dK (ks : List Key) (ts : List OT)
  | ins (n : Str) (fs : List Str) (ts : List OT)
mutual
/-- t stands at v, made of the objects at fp (each once); its data lies still in F -/
inductive Ow (K : PySem.W.Frag) (F H : Hp) : OT → V → List Addr → Prop
  | fz {d : D} {v : V} : Dp K F v d → Ow K F H (.fz d) v []
  | lst {p : Addr} {ts : List OT} {vs : List V} {fp : List Addr} : H p = some (.lst vs) → OwL K F H ts vs fp → Ow K F H (.lst ts) (.ref p) (p :: fp)
  | dT {p : Addr} {ks : List (List Key)} {ts : List OT} {vs : List V} {fp : List Addr} : H p = some (.dT (ks.zip vs)) → ks.length = vs.length → OwL K F H ts vs fp → Ow K F H (.dT ks ts) (.ref p) (p :: fp)
  | dK {p : Addr} {ks : List Key} {ts : List OT} {vs : List V} {fp : List Addr} : H p = some (.dK (ks.zip vs)) → ks.length = vs.length → OwL K F H ts vs fp → Ow K F H (.dK ks ts) (.ref p) (p :: fp)
  | ins {p C dx : Addr} {n : Str} {fs : List Str} {ts : List OT} {vs : List V} {fp : List Addr} : clsNm K C = some n → H p = some (.ins C dx (fs.zip vs)) → H dx = some (.own p) → fs.length = vs.length → OwL K F H ts vs fp → Ow K F H (.ins n fs ts) (.ref p) (p :: dx :: fp)
inductive OwL (K : PySem.W.Frag) (F H : Hp) : List OT → List V → List Addr → Prop
  | nil : OwL K F H [] [] []
  | cons {t : OT} {v : V} {ts : List OT} {vs : List V} {f1 f2 : List Addr} : Ow K F H t v f1 → OwL K F H ts vs f2 → OwL K F H (t :: ts) (v :: vs) (f1 ++ f2)
end
theorem OwL.length {F H : Hp} : ∀ {ts : List OT} {vs : List V} {fp : List Addr}, OwL K F H ts vs fp → ts.length = vs.length
  | _, _, _, .nil => rfl
  | _, _, _, .cons _ r => by rw [List.length_cons, List.length_cons, r.length]
theorem zip_inj {α β : Type} : ∀ {ks : List α} {xs ys : List β}, ks.length = xs.length → ks.length = ys.length → ks.zip xs = ks.zip ys → xs = ys
  | [], [], [], _, _, _ => rfl
  | [], _ :: _, _, h, _, _ => by simp at h
  | [], [], _ :: _, _, h, _ => by simp at h
  | k :: ks, [], _, h, _, _ => by simp at h
  | k :: ks, _ :: _, [], _, h, _ => by simp at h
  | k :: ks, x :: xs, y :: ys, h, h', e => by
    simp only [List.zip_cons_cons, List.cons.injEq, Prod.mk.injEq] at e
    rw [e.1.2, zip_inj (by simpa using h) (by simpa using h') e.2]
mutual
/-- where it stands is told by the heap alone -/
theorem Ow.uniq {F F' H : Hp} : ∀ {t : OT} {v : V} {f1 f2 : List Addr}, Ow K F H t v f1 → Ow K F' H t v f2 → f1 = f2
  | _, _, _, _, .fz _, .fz _ => rfl
  | _, _, _, _, .lst h r, .lst h' r' => by
    rw [h] at h'; cases h'
    rw [OwL.uniq r r']
  | _, _, _, _, .dT h l r, .dT h' l' r' => by
    rw [h] at h'
    have := zip_inj l l' (by injection (Option.some.inj h'))
    subst this
    rw [OwL.uniq r r']
  | _, _, _, _, .dK h l r, .dK h' l' r' => by
    rw [h] at h'
    have := zip_inj l l' (by injection (Option.some.inj h'))
    subst this
    rw [OwL.uniq r r']
  | _, _, _, _, .ins _ h _ l r, .ins _ h' _ l' r' => by
    rw [h] at h'
    have q := Option.some.inj h'
    injection q with q1 q2 q3
    have := zip_inj l l' q3
    subst this; subst q2
    rw [OwL.uniq r r']
theorem OwL.uniq {F F' H : Hp} : ∀ {ts : List OT} {vs : List V} {f1 f2 : List Addr}, OwL K F H ts vs f1 → OwL K F' H ts vs f2 → f1 = f2
  | _, _, _, _, .nil, .nil => rfl
  | _, _, _, _, .cons h r, .cons h' r' => by rw [Ow.uniq h h', OwL.uniq r r']
end
mutual
theorem Ow.ext {F F' H H' : Hp} (E : Ext F F') : ∀ {t : OT} {v : V} {fp : List Addr}, Ow K F H t v fp → (∀ a ∈ fp, H' a = H a) → Ow K F' H' t v fp
  | _, _, _, .fz q, _ => .fz (q.ext E)
  | _, _, _, .lst h r, k => .lst ((k _ List.mem_cons_self).trans h) (OwL.ext E r fun a ha => k a (List.mem_cons_of_mem _ ha))
  | _, _, _, .dT h l r, k => .dT ((k _ List.mem_cons_self).trans h) l (OwL.ext E r fun a ha => k a (List.mem_cons_of_mem _ ha))
  | _, _, _, .dK h l r, k => .dK ((k _ List.mem_cons_self).trans h) l (OwL.ext E r fun a ha => k a (List.mem_cons_of_mem _ ha))
  | _, _, _, .ins c h h2 l r, k => .ins c ((k _ List.mem_cons_self).trans h) ((k _ (List.mem_cons_of_mem _ List.mem_cons_self)).trans h2) l (OwL.ext E r fun a ha => k a (List.mem_cons_of_mem _ (List.mem_cons_of_mem _ ha)))
theorem OwL.ext {F F' H H' : Hp} (E : Ext F F') : ∀ {ts : List OT} {vs : List V} {fp : List Addr}, OwL K F H ts vs fp → (∀ a ∈ fp, H' a = H a) → OwL K F' H' ts vs fp
  | _, _, _, .nil, _ => .nil
  | _, _, _, .cons h r, k => .cons (Ow.ext E h fun a ha => k a (List.mem_append_left _ ha)) (OwL.ext E r fun a ha => k a (List.mem_append_right _ ha))
end
mutual
theorem Ow.some {F H : Hp} : ∀ {t : OT} {v : V} {fp : List Addr}, Ow K F H t v fp → ∀ a ∈ fp, H a ≠ none
  | _, _, _, .fz _, a, h => by cases h
  | _, _, _, .lst h r, a, ha => by
    rcases List.mem_cons.mp ha with rfl | ha
    · rw [h]; exact fun z => by cases z
    · exact OwL.some r a ha
  | _, _, _, .dT h _ r, a, ha => by
    rcases List.mem_cons.mp ha with rfl | ha
    · rw [h]; exact fun z => by cases z
    · exact OwL.some r a ha
  | _, _, _, .dK h _ r, a, ha => by
    rcases List.mem_cons.mp ha with rfl | ha
    · rw [h]; exact fun z => by cases z
    · exact OwL.some r a ha
  | _, _, _, .ins _ h h2 _ r, a, ha => by
    rcases List.mem_cons.mp ha with rfl | ha
    · rw [h]; exact fun z => by cases z
    · rcases List.mem_cons.mp ha with rfl | ha
      · rw [h2]; exact fun z => by cases z
      · exact OwL.some r a ha
theorem OwL.some {F H : Hp} : ∀ {ts : List OT} {vs : List V} {fp : List Addr}, OwL K F H ts vs fp → ∀ a ∈ fp, H a ≠ none
  | _, _, _, .nil, a, h => by cases h
  | _, _, _, .cons h r, a, ha => by
    rcases List.mem_append.mp ha with ha | ha
    · exact Ow.some h a ha
    · exact OwL.some r a ha
end
/-- what a name holds: data that lies still; a list of our own; one that is being walked; one that was handed in and may be changed -/
inductive Sv where
  | fz (d : D)
  | own (ds : List D)
  | lent (ds : List D)
  | io (ds : List D)
  | tr (io : Bool) (t : OT)
abbrev Env := List (Option Sv)
def Sv.mu : Sv → Bool
  | .own _ => true
  | .io _ => true
  | _ => false
/-- M: what others own (as in G); lam: where the lent (Ml) and the handed in lists stand -/
structure Cf where
  M : Addr → Prop
  G : Hp
  lam : Nat → Addr
  Ml : Nat → Prop
/-- F: what lies still; M: what others own (as in G); lam: where the lent and the handed in lists stand -/
def SvR (K : PySem.W.Frag) (C : Cf) (F H : Hp) (i : Nat) : Sv → V → Prop
  | .fz d, v => Dp K F v d
  | .own ds, v => ∃ p vs, v = .ref p ∧ H p = some (.lst vs) ∧ DpAll K F vs ds ∧ F p = none ∧ ¬ C.M p
  | .lent ds, v => ∃ vs, v = .ref (C.lam i) ∧ H (C.lam i) = some (.lst vs) ∧ DpAll K F vs ds ∧ C.Ml i
  | .io ds, v => ∃ vs, v = .ref (C.lam i) ∧ H (C.lam i) = some (.lst vs) ∧ DpAll K F vs ds ∧ F (C.lam i) = none ∧ ¬ C.M (C.lam i)
  | .tr b t, v => ∃ fp, Ow K F H t v fp ∧ fp.Nodup ∧ (∀ a ∈ fp, F a = none ∧ ¬ C.M a) ∧ (b = true → v = .ref (C.lam i) ∧ C.lam i ∈ fp)
/-- the thing at slot i is made of the objects at fp -/
def TrAt (K : PySem.W.Frag) (H : Hp) (e : Env) (σ : L2.St) (i : Nat) (fp : List Addr) : Prop := ∃ b t v F', e[i]? = some (some (.tr b t)) ∧ σ[i]? = some (some v) ∧ Ow K F' H t v fp
/-- no changeable name but those that i lies in stands at p -/
def Apart (e : Env) (σ : L2.St) (v : V) : Prop := ∀ (i : Nat) (x : Sv), e[i]? = some (some x) → x.mu = true → σ[i]? ≠ some (some v)
/-- .. nor is a thing of our own made of it -/
def ApT (K : PySem.W.Frag) (H : Hp) (e : Env) (σ : L2.St) (p : Addr) : Prop := ∀ i fp, TrAt K H e σ i fp → p ∉ fp
abbrev Apar (K : PySem.W.Frag) (H : Hp) (e : Env) (σ : L2.St) (p : Addr) : Prop := Apart e σ (.ref p) ∧ ApT K H e σ p
/-- every tuple lies still -/
def TupIn (F H : Hp) : Prop := ∀ a xs, H a = some (.tup xs) → F a = some (.tup xs)
theorem TupIn.mut {F H : Hp} {p : Addr} {o : HO} (h : TupIn F H) (ho : ∀ xs, o ≠ .tup xs) : TupIn F (upd H p o) := fun a xs e => by
  by_cases q : a = p
  · subst q; rw [upd_same] at e; exact absurd (Option.some.inj e) (ho xs)
  · rw [upd_ne q] at e; exact h a xs e
theorem TupIn.both {F H : Hp} {p : Addr} {o : HO} (h : TupIn F H) : TupIn (upd F p o) (upd H p o) := fun a xs e => by
  by_cases q : a = p
  · subst q; rw [upd_same] at e ⊢; exact e
  · rw [upd_ne q] at e ⊢; exact h a xs e
theorem TupIn.more {F H : Hp} {p : Addr} {o : HO} (h : TupIn F H) (hp : H p = some o) : TupIn (upd F p o) H := fun a xs e => by
  by_cases q : a = p
  · subst q; rw [upd_same, ← hp]; exact e
  · rw [upd_ne q]; exact h a xs e
structure Rp (K : PySem.W.Frag) (C : Cf) (F H : Hp) (e : Env) (σ : L2.St) : Prop where
  len : e.length = σ.length
  ext : Ext F H
  off : ∀ a, C.M a → F a = none
  frm : ∀ a, C.M a → H a = C.G a ∧ C.G a ≠ none
  sl : ∀ (i : Nat) (x : Sv), e[i]? = some (some x) → ∃ v, σ[i]? = some (some v) ∧ SvR K C F H i x v
  ml : ∀ i, C.Ml i → C.M (C.lam i)
  ne : ∀ (i j : Nat) (x y : Sv), i ≠ j → e[i]? = some (some x) → e[j]? = some (some y) → x.mu = true → y.mu = true → σ[i]? ≠ σ[j]?
  tn : ∀ (i : Nat) (fp : List Addr), TrAt K H e σ i fp → (∀ a ∈ fp, Apart e σ (.ref a)) ∧ ∀ (j : Nat) (fp' : List Addr), i ≠ j → TrAt K H e σ j fp' → ∀ a ∈ fp, a ∉ fp'
  tup : TupIn F H
/-- an expression's worth: data that lies still; a new list; a name whose list is read -/
inductive Rv where
  | fz (d : D)
  | fresh (ds : List D)
  | bor (i : Nat)
/-- the list that a name holds -/
def lsOf (e : Env) (i : Nat) : Option (List D) := match e[i]? with
  | some (some (.own ds)) => some ds
  | some (some (.lent ds)) => some ds
  | some (some (.io ds)) => some ds
  | some (some (.fz (.list ds))) => some ds
  | _ => none
def RvR (K : PySem.W.Frag) (C : Cf) (F H : Hp) (e : Env) (σ : L2.St) : Rv → V → Prop
  | .fz d, v => Dp K F v d
  | .fresh ds, v => ∃ p vs, v = .ref p ∧ H p = some (.lst vs) ∧ DpAll K F vs ds ∧ F p = none ∧ ¬ C.M p ∧ Apar K H e σ p
  | .bor i, v => σ[i]? = some (some v)
variable {C : Cf} {F H : Hp} {e : Env} {σ : L2.St}
theorem Rp.trFp (R : Rp K C F H e σ) {i : Nat} {fp : List Addr} (h : TrAt K H e σ i fp) : (∀ a ∈ fp, F a = none ∧ ¬ C.M a ∧ H a ≠ none) ∧ fp.Nodup := by
  obtain ⟨b, t, v, F', he, hv, o⟩ := h
  obtain ⟨u, hu, fp', o', nd, hF, _⟩ := R.sl _ _ he
  rw [hv] at hu; cases hu
  cases o.uniq o'
  exact ⟨fun a ha => ⟨(hF a ha).1, (hF a ha).2, o'.some a ha⟩, nd⟩
/-- where the things stand is told alike in a later heap that keeps their objects -/
theorem Rp.trBack (R : Rp K C F H e σ) {H' : Hp} (k : ∀ a, H a ≠ none → F a = none → ¬ C.M a → (∃ i fp, TrAt K H e σ i fp ∧ a ∈ fp) → H' a = H a) {i : Nat} {fp : List Addr} (h : TrAt K H' e σ i fp) : TrAt K H e σ i fp := by
  obtain ⟨b, t, v, F', he, hv, o⟩ := h
  obtain ⟨u, hu, fp', o', nd, hF, _⟩ := R.sl _ _ he
  rw [hv] at hu; cases hu
  have T : TrAt K H e σ i fp' := ⟨b, t, v, F, he, hv, o'⟩
  have o2 : Ow K F H' t v fp' := o'.ext (.refl F) fun a ha => k a (o'.some a ha) (hF a ha).1 (hF a ha).2 ⟨i, fp', T, ha⟩
  cases o.uniq o2
  exact T
theorem Rp.lsv (R : Rp K C F H e σ) {i : Nat} {v : V} {ds : List D} (h : lsOf e i = some ds) (hv : σ[i]? = some (some v)) : Dh K F H v (.list ds) := by
  unfold lsOf at h
  split at h <;> first | (cases h; done) | skip
  all_goals
    cases h
    rename_i hs
    obtain ⟨w, hw, q⟩ := R.sl _ _ hs
    rw [hv] at hw; cases hw
  · obtain ⟨p, vs, rfl, hp, hd, _⟩ := q; exact .lst (.of hp) hd
  · obtain ⟨vs, rfl, hp, hd, _⟩ := q; exact .lst (.of hp) hd
  · obtain ⟨vs, rfl, hp, hd, _⟩ := q; exact .lst (.of hp) hd
  · exact Dp.dh R.ext q
end VI
set_option Elab.async false
set_option linter.all false
set_option maxRecDepth 100000
set_option maxHeartbeats 4000000
namespace VI
open PySem PySem.Spec PyProof.Rows L2
variable {K : PySem.W.Frag} {C : Cf} {F H : Hp} {e e' : Env} {σ : L2.St}
/-- an error: its class by name, its fields -/
structure Xc where
  cls : Str
  fs : List (Str × D)
/-- what a step comes to -/
inductive Rs (α : Type) where
  | no
  | ok (a : α) (e : Env)
  | ex (x : Xc) (e : Env)
def Rs.bind {α β : Type} (r : Rs α) (f : α → Env → Rs β) : Rs β := match r with
  | .no => .no
  | .ok a e => f a e
  | .ex x e => .ex x e
def ofO {α : Type} (o : Option α) (e : Env) : Rs α := match o with
  | none => .no
  | some a => .ok a e
abbrev Sem1 (α : Type) := Env → Rs α
abbrev Ev := Sem1 Rv
theorem getset {α : Type} {l : List α} {i j : Nat} {x y : α} (h : (l.set i x)[j]? = some y) : (i = j ∧ x = y) ∨ (i ≠ j ∧ l[j]? = some y) := by
  by_cases q : i = j
  · subst q
    refine .inl ⟨rfl, ?_⟩
    rw [List.getElem?_set] at h
    simp only [if_true] at h
    split at h
    · exact Option.some.inj h
    · cases h
  · exact .inr ⟨q, by rw [List.getElem?_set_ne q] at h; exact h⟩
theorem SvR.ext {F' : Hp} (E : Ext F F') (hf : ∀ a, F a = none → ((C.M a ∨ ∃ (j : Nat) (y : Sv), e[j]? = some (some y) ∧ y.mu = true ∧ σ[j]? = some (some (V.ref a))) ∨ ∃ j fp, TrAt K H e σ j fp ∧ a ∈ fp) → F' a = none) {i : Nat} {x : Sv} {v : V} (he : e[i]? = some (some x)) (hv : σ[i]? = some (some v))
    (q : SvR K C F H i x v) : SvR K C F' H i x v := by
  cases x with
  | fz d => exact Dp.ext E q
  | own ds => obtain ⟨p, vs, rfl, h1, h2, h3, h4⟩ := q; exact ⟨p, vs, rfl, h1, h2.ext E, hf p h3 (.inl (.inr ⟨i, _, he, rfl, hv⟩)), h4⟩
  | lent ds => obtain ⟨vs, rfl, h1, h2, h3⟩ := q; exact ⟨vs, rfl, h1, h2.ext E, h3⟩
  | io ds => obtain ⟨vs, rfl, h1, h2, h3, h4⟩ := q; exact ⟨vs, rfl, h1, h2.ext E, hf _ h3 (.inl (.inr ⟨i, _, he, rfl, hv⟩)), h4⟩
  | tr b t => obtain ⟨fp, o, nd, h, hb⟩ := q; exact ⟨fp, o.ext E fun _ _ => rfl, nd, fun a ha => ⟨hf a (h a ha).1 (.inr ⟨i, fp, ⟨b, t, v, F, he, hv, o⟩, ha⟩), (h a ha).2⟩, hb⟩
/-- fewer things, no other -/
theorem tn_sub {e2 : Env} {σ2 : L2.St} (tn : ∀ (i : Nat) (fp : List Addr), TrAt K H e σ i fp → (∀ a ∈ fp, Apart e σ (.ref a)) ∧ ∀ (j : Nat) (fp' : List Addr), i ≠ j → TrAt K H e σ j fp' → ∀ a ∈ fp, a ∉ fp')
    (ht : ∀ (j : Nat) (y : Bool × OT), e2[j]? = some (some (Sv.tr y.1 y.2)) → e[j]? = some (some (Sv.tr y.1 y.2))) (hm : ∀ (j : Nat) (y : Sv), e2[j]? = some (some y) → y.mu = true → ∃ y' : Sv, e[j]? = some (some y') ∧ y'.mu = true ∧ σ2[j]? = σ[j]?)
    (hv : ∀ (j : Nat) (y : Bool × OT), e2[j]? = some (some (Sv.tr y.1 y.2)) → σ2[j]? = σ[j]? := by intros; rfl) :
    ∀ (i : Nat) (fp : List Addr), TrAt K H e2 σ2 i fp → (∀ a ∈ fp, Apart e2 σ2 (.ref a)) ∧ ∀ (j : Nat) (fp' : List Addr), i ≠ j → TrAt K H e2 σ2 j fp' → ∀ a ∈ fp, a ∉ fp' := fun i fp h => by
  have up : ∀ {i fp}, TrAt K H e2 σ2 i fp → TrAt K H e σ i fp := fun {i fp} h => by
    obtain ⟨b, t, v, F', he, hv', o⟩ := h
    exact ⟨b, t, v, F', ht i (b, t) he, by rw [← hv i (b, t) he]; exact hv', o⟩
  obtain ⟨h1, h2⟩ := tn i fp (up h)
  refine ⟨fun a ha j y hy my hs => ?_, fun j fp' hj h' => h2 j fp' hj (up h')⟩
  obtain ⟨y', k1, k2, k3⟩ := hm j y hy my
  exact h1 a ha j y' k1 k2 (by rw [← k3]; exact hs)
/-- what lies still grows by the object at p -/
theorem Rp.more (R : Rp K C F H e σ) {p : Addr} {o : HO} (hp : H p = some o) (hF : F p = none) (hM : ¬ C.M p) (ap : Apar K H e σ p) : Rp K C (upd F p o) H e σ := by
  refine ⟨R.len, fun a u h => ?_, fun a ha => ?_, R.frm, fun i x hx => ?_, R.ml, R.ne, R.tn, R.tup.more hp⟩
  · by_cases q : a = p
    · subst q; rw [upd_same] at h; rw [hp]; exact h
    · rw [upd_ne q] at h; exact R.ext a u h
  · rw [upd_ne (show a ≠ p from fun z => hM (z ▸ ha))]; exact R.off a ha
  · obtain ⟨v, hv, q⟩ := R.sl i x hx
    refine ⟨v, hv, SvR.ext (e := e) (σ := σ) (Ext.new hF) (fun a h0 h1 => ?_) hx hv q⟩
    rcases h1 with (h1 | ⟨j, y, h2, h3, h4⟩) | ⟨j, fp, h2, h3⟩
    · rw [upd_ne (show a ≠ p from fun z => hM (z ▸ h1))]; exact h0
    · rw [upd_ne (show a ≠ p from fun z => ap.1 j y h2 h3 (z ▸ h4))]; exact h0
    · rw [upd_ne (show a ≠ p from fun z => ap.2 j fp h2 (z ▸ h3))]; exact h0
/-- a name's own list comes to rest -/
theorem Rp.rest (R : Rp K C F H e σ) {i : Nat} {ds : List D} (h : e[i]? = some (some (.own ds))) : ∃ F' v, Rp K C F' H (e.set i (some (.fz (.list ds)))) σ ∧ Ext F F' ∧ σ[i]? = some (some v) ∧ Dp K F' v (.list ds) := by
  obtain ⟨v, hv, p, vs, rfl, hp, hd, hF, hM⟩ := R.sl _ _ h
  have E : Ext F (upd F p (.lst vs)) := Ext.new hF
  have dp : Dp K (upd F p (.lst vs)) (.ref p) (.list ds) := .lst (.of upd_same) (hd.ext E)
  refine ⟨upd F p (.lst vs), .ref p, ⟨by rw [List.length_set]; exact R.len, fun a u ha => ?_, fun a ha => ?_, R.frm, fun j x hx => ?_, R.ml, fun j k x y hjk hx hy mx my => ?_, tn_sub R.tn (fun j y hy => ?_) (fun j y hy my => ?_), R.tup.more hp⟩, E, hv, dp⟩
  · by_cases q : a = p
    · subst q; rw [upd_same] at ha; rw [hp]; exact ha
    · rw [upd_ne q] at ha; exact R.ext a u ha
  · rw [upd_ne (show a ≠ p from fun z => hM (z ▸ ha))]; exact R.off a ha
  · rcases getset hx with ⟨rfl, hx'⟩ | ⟨hj, hx⟩
    · cases hx'; exact ⟨_, hv, dp⟩
    · obtain ⟨w, hw, q⟩ := R.sl j x hx
      refine ⟨w, hw, ?_⟩
      cases x with
      | fz d => exact Dp.ext E q
      | own ds' =>
        obtain ⟨p', vs', rfl, h1, h2, h3, h4⟩ := q
        have : p' ≠ p := fun z => R.ne i j _ _ hj h hx rfl rfl (by rw [hv, hw, z])
        exact ⟨p', vs', rfl, h1, h2.ext E, by rw [upd_ne this]; exact h3, h4⟩
      | lent ds' => obtain ⟨vs', rfl, h1, h2, h3⟩ := q; exact ⟨vs', rfl, h1, h2.ext E, h3⟩
      | io ds' =>
        obtain ⟨vs', rfl, h1, h2, h3, h4⟩ := q
        have : C.lam j ≠ p := fun z => R.ne i j _ _ hj h hx rfl rfl (by rw [hv, hw, z])
        exact ⟨vs', rfl, h1, h2.ext E, by rw [upd_ne this]; exact h3, h4⟩
      | tr b t =>
        obtain ⟨fp, o, nd, h, hb⟩ := q
        refine ⟨fp, o.ext E fun _ _ => rfl, nd, fun a ha => ⟨?_, (h a ha).2⟩, hb⟩
        have : a ≠ p := fun z => (R.tn j fp ⟨b, t, w, F, hx, hw, o⟩).1 a ha i _ ‹_› rfl (by rw [hv, z])
        rw [upd_ne this]; exact (h a ha).1
  · rcases getset hx with ⟨rfl, hx'⟩ | ⟨hj, hx⟩
    · cases hx'; cases mx
    · rcases getset hy with ⟨rfl, hy'⟩ | ⟨hk, hy⟩
      · cases hy'; cases my
      · exact R.ne j k x y hjk hx hy mx my
  · rcases getset hy with ⟨rfl, hy'⟩ | ⟨hj, hy⟩
    · cases hy'
    · exact hy
  · rcases getset hy with ⟨rfl, hy'⟩ | ⟨hj, hy⟩
    · cases hy'; cases my
    · exact ⟨_, hy, my, rfl⟩
def look (e : Env) (i : Nat) : Option D := match e[i]? with
  | some (some (.fz d)) => some d
  | some (some (.own ds)) => some (.list ds)
  | some (some (.lent ds)) => some (.list ds)
  | some (some (.io ds)) => some (.list ds)
  | _ => none
def peek : Rv → Env → Option D
  | .fz d, _ => some d
  | .fresh ds, _ => some (.list ds)
  | .bor i, e => look e i
def frz : Rv → Env → Rs D
  | .fz d, e => .ok d e
  | .fresh ds, e => .ok (.list ds) e
  | .bor i, e => match e[i]? with
    | some (some (.fz d)) => .ok d e
    | some (some (.own ds)) => .ok (.list ds) (e.set i (some (.fz (.list ds))))
    | _ => .no
def toD (a : Ev) : Sem1 D := fun e => (a e).bind frz
/-- as an operand: a new list has come to rest -/
def calmR : Rv → Rv
  | .fresh ds => .fz (.list ds)
  | r => r
def opd (a : Ev) : Ev := fun e => (a e).bind fun x e1 => .ok (calmR x) e1
/-- no new list -/
def Rv.still : Rv → Bool
  | .fresh _ => false
  | _ => true
theorem calm_still (r : Rv) : (calmR r).still = true := by cases r <;> rfl
/-- the written part, what is wanted of an error at given slots, how an error lies -/
structure Wd where
  K : PySem.W.Frag
  W : WX
  XR : Hp → Hp → Xc → Value → Option Addr → Prop
def Post {α β : Type} (w : Wd) (RA : Cf → Hp → Hp → Env → L2.St → α → β → Prop) (C : Cf) (F : Hp) (σ : L2.St) (Q : β → Hp → Prop) : Rs α → Prop
  | .no => False
  | .ok a e' => ∀ v F' H', Rp w.K C F' H' e' σ → Ext F F' → RA C F' H' e' σ a v → Q v H'
  | .ex x e' => ∀ F' H' cv od, Rp w.K C F' H' e' σ → Ext F F' → w.XR F' H' x cv od → w.W cv od σ H'
def Rd {α β : Type} (w : Wd) (RA : Cf → Hp → Hp → Env → L2.St → α → β → Prop) (a : Sem1 α) : L2.St → Hp → (β → Hp → Prop) → Prop := fun σ H Q =>
  ∃ C F e, Rp w.K C F H e σ ∧ Post w RA C F σ Q (a e)
section
variable {w : Wd} {α β γ δ : Type} {RA : Cf → Hp → Hp → Env → L2.St → α → β → Prop} {RB : Cf → Hp → Hp → Env → L2.St → γ → δ → Prop}
theorem Post.mono {F1 : Hp} (E : Ext F F1) {Q : β → Hp → Prop} {r : Rs α} (h : Post w RA C F σ Q r) : Post w RA C F1 σ Q r := by
  cases r with
  | no => exact h
  | ok a e' => exact fun v F' H' R E' q => h v F' H' R (E.trans E') q
  | ex x e' => exact fun F' H' cv od R E' q => h F' H' cv od R (E.trans E') q
theorem bindP {Q : δ → Hp → Prop} {Q1 : β → Hp → Prop} {a : Sem1 α} {f : α → Env → Rs γ} (R : Rp w.K C F H e σ) (P : Post w RB C F σ Q ((a e).bind f))
    (k : ∀ F1 H1 e1 x v, a e = .ok x e1 → Rp w.K C F1 H1 e1 σ → Ext F F1 → RA C F1 H1 e1 σ x v → Post w RB C F1 σ Q (f x e1) → Q1 v H1) : Rd w RA a σ H Q1 := by
  refine ⟨C, F, e, R, ?_⟩
  cases h1 : a e with
  | no => rw [h1] at P; exact False.elim P
  | ok x e1 =>
    rw [h1] at P
    exact fun v F' H' R' E q => k F' H' e1 x v h1 R' E q (Post.mono E P)
  | ex x e1 => rw [h1] at P; exact fun F' H' cv od R E q => P F' H' cv od R E q
end
abbrev RD (K : PySem.W.Frag) : Cf → Hp → Hp → Env → L2.St → D → V → Prop := fun _ F _ _ _ d v => Dp K F v d
abbrev RB : Cf → Hp → Hp → Env → L2.St → Bool → Bool → Prop := fun _ _ _ _ _ a b => a = b
abbrev RR (K : PySem.W.Frag) : Cf → Hp → Hp → Env → L2.St → Rv → V → Prop := fun C F H e σ r v => RvR K C F H e σ r v
abbrev rdR (w : Wd) (a : Ev) : TE := Rd w (RR w.K) a
abbrev rdD (w : Wd) (a : Sem1 D) : TE := Rd w (RD w.K) a
abbrev rdT (w : Wd) (a : Sem1 Bool) : TT := Rd w RB a
theorem pe_mono {X : Cx} {ex : Expr} {t t' : TE} (h : PE X ex t) (w : ∀ σ H Q, t' σ H Q → t σ H Q) : PE X ex t' := ⟨fun pins s σ H Q I q => h.run pins s σ H Q I (w σ H Q q)⟩
theorem pt_mono {X : Cx} {ex : Expr} {t t' : TT} (h : PT X ex t) (w : ∀ σ H Q, t' σ H Q → t σ H Q) : PT X ex t' := ⟨fun pins s σ H Q I q => h.run pins s σ H Q I (w σ H Q q)⟩
theorem pa_mono {X : Cx} {ex : List Expr} {t t' : TA} (h : PA X ex t) (w : ∀ σ H Q, t' σ H Q → t σ H Q) : PA X ex t' := ⟨fun pos pins s σ H Q I q => h.run pos pins s σ H Q I (w σ H Q q)⟩
theorem ps_mono {X : Cx} {st : Stmt} {t t' : TS} (h : PS X st t) (w : ∀ D σ H, t' D σ H → t D σ H) : PS X st t' := ⟨fun pins s σ H Q I q => h.run pins s σ H Q I (w Q σ H q)⟩
theorem pss_mono {X : Cx} {st : List Stmt} {t t' : TS} (h : PSs X st t) (w : ∀ D σ H, t' D σ H → t D σ H) : PSs X st t' := ⟨fun pins s σ H Q I q => h.run pins s σ H Q I (w Q σ H q)⟩
/-- a new list comes to rest -/
theorem RvR.rest (R : Rp K C F H e σ) {ds : List D} {v : V} (h : RvR K C F H e σ (.fresh ds) v) : ∃ F', Rp K C F' H e σ ∧ Ext F F' ∧ Dp K F' v (.list ds) := by
  obtain ⟨p, vs, rfl, hp, hd, hF, hM, ap⟩ := h
  exact ⟨upd F p (.lst vs), R.more hp hF hM ap, Ext.new hF, .lst (.of upd_same) (hd.ext (Ext.new hF))⟩
theorem RvR.calm (R : Rp K C F H e σ) {r : Rv} {v : V} (h : RvR K C F H e σ r v) : ∃ F', Rp K C F' H e σ ∧ Ext F F' ∧ RvR K C F' H e σ (calmR r) v := by
  cases r with
  | fz d' => exact ⟨F, R, .refl F, h⟩
  | fresh ds => exact h.rest R
  | bor i => exact ⟨F, R, .refl F, h⟩
section
variable {w : Wd}
theorem Post.calm {r : Rv} {v : V} (R : Rp w.K C F H e σ) (h : RvR w.K C F H e σ r v) {Q : V → Hp → Prop} (P : Post w (RR w.K) C F σ Q (.ok (calmR r) e)) : Q v H := by
  obtain ⟨F2, R2, E2, q2⟩ := h.calm R
  exact P v F2 H R2 E2 q2
theorem Post.frz {r : Rv} {v : V} (R : Rp w.K C F H e σ) (h : RvR w.K C F H e σ r v) {Q : V → Hp → Prop} (P : Post w (RD w.K) C F σ Q (frz r e)) : Q v H := by
  cases r with
  | fz d' => exact P v F H R (.refl F) h
  | fresh ds =>
    obtain ⟨F2, R2, E2, q2⟩ := h.rest R
    exact P v F2 H R2 E2 q2
  | bor i =>
    unfold VI.frz at P
    simp only at P
    have h' : σ[i]? = some (some v) := h
    split at P
    · rename_i d' hd
      obtain ⟨w, hw, z⟩ := R.sl _ _ hd
      rw [h'] at hw; cases hw
      exact P v F H R (.refl F) z
    · rename_i ds hd
      obtain ⟨F', w, R', E, hw, z⟩ := R.rest hd
      rw [h'] at hw; cases hw
      exact P v F' H R' E z
    · exact P.elim
theorem rd_toD {a : Ev} {Q : VK} (h : rdD w (toD a) σ H Q) : rdR w a σ H Q := by
  obtain ⟨C, F, e, R, P⟩ := h
  exact bindP R P fun _ _ _ _ _ _ R _ q P => P.frz R q
theorem rd_opd {a : Ev} {Q : VK} (h : rdR w (opd a) σ H Q) : rdR w a σ H Q := by
  obtain ⟨C, F, e, R, P⟩ := h
  exact bindP R P fun _ _ _ _ _ _ R _ q P => P.calm R q
theorem opd_still {a : Ev} {e e' : Env} {r : Rv} (h : opd a e = .ok r e') : r.still = true := by
  unfold opd at h
  cases h1 : a e with
  | no => rw [h1] at h; cases h
  | ok x e1 => rw [h1] at h; cases h; exact calm_still x
  | ex x e1 => rw [h1] at h; cases h
end
/-- what is no new list stays what it is -/
theorem RvR.later {e e' : Env} {F' H' : Hp} {r : Rv} {v : V} (hs : r.still = true) (E : Ext F F') (h : RvR K C F H e σ r v) : RvR K C F' H' e' σ r v := by
  cases r with
  | fz d => exact Dp.ext E h
  | fresh ds => cases hs
  | bor i => exact h
theorem RvR.peek (R : Rp K C F H e σ) {r : Rv} {v : V} {d : D} (hs : r.still = true) (h : RvR K C F H e σ r v) (q : peek r e = some d) : Dh K F H v d := by
  cases r with
  | fz d' => cases q; exact Dp.dh R.ext h
  | fresh ds => cases hs
  | bor i =>
    have h' : σ[i]? = some (some v) := h
    have q' : look e i = some d := q
    unfold look at q'
    split at q' <;> first | (cases q'; done) | skip
    all_goals
      cases q'
      rename_i hs
      obtain ⟨w, hw, q⟩ := R.sl _ _ hs
      rw [h'] at hw; cases hw
    · exact Dp.dh R.ext q
    · obtain ⟨p, vs, rfl, hp, hd, _⟩ := q; exact .lst (.of hp) hd
    · obtain ⟨vs, rfl, hp, hd, _⟩ := q; exact .lst (.of hp) hd
    · obtain ⟨vs, rfl, hp, hd, _⟩ := q; exact .lst (.of hp) hd
inductive Res (K : PySem.W.Frag) (F H : Hp) : Rv → V → Hp → Prop
  | old {v : V} {d : D} : Dp K F v d → Res K F H (.fz d) v H
  | tup {p : Addr} {zs : List V} {ds : List D} : H p = none → DpAll K F zs ds → Res K F H (.fz (.tuple ds)) (.ref p) (upd H p (.tup zs))
  | lst {p : Addr} {zs : List V} {ds : List D} : H p = none → DpAll K F zs ds → Res K F H (.fresh ds) (.ref p) (upd H p (.lst zs))
/-- a new object that lies still at once -/
theorem Rp.growT (R : Rp K C F H e σ) {p : Addr} {o : HO} (hp : H p = none) : Rp K C (upd F p o) (upd H p o) e σ := by
  have hM : ¬ C.M p := fun h => (R.frm p h).2 ((R.frm p h).1 ▸ hp)
  have hF : F p = none := R.ext.free hp
  have keep : ∀ a u, H a = some u → upd H p o a = some u := fun a u h => by rw [upd_ne (ne_of_none h hp)]; exact h
  have keepT : ∀ a, H a ≠ none → upd H p o a = H a := fun a h => upd_ne (fun z => h (z ▸ hp))
  have nF : ∀ a, H a ≠ none → F a = none → upd F p o a = none := fun a h h' => by rw [upd_ne (show a ≠ p from fun z => h (z ▸ hp))]; exact h'
  refine ⟨R.len, R.ext.both, fun a ha => ?_, fun a ha => ?_, fun i x hx => ?_, R.ml, R.ne, fun i fp h => ?_, R.tup.both⟩
  · rw [upd_ne (show a ≠ p from fun z => hM (z ▸ ha))]; exact R.off a ha
  · rw [upd_ne (show a ≠ p from fun z => hM (z ▸ ha))]; exact R.frm a ha
  · obtain ⟨v, hv, q⟩ := R.sl i x hx
    refine ⟨v, hv, ?_⟩
    have E : Ext F (upd F p o) := Ext.new hF
    cases x with
    | fz d => exact Dp.ext E q
    | own ds => obtain ⟨p', vs, rfl, h1, h2, h3, h4⟩ := q; exact ⟨p', vs, rfl, keep _ _ h1, h2.ext E, nF _ (by rw [h1]; exact fun z => by cases z) h3, h4⟩
    | lent ds => obtain ⟨vs, rfl, h1, h2, h3⟩ := q; exact ⟨vs, rfl, keep _ _ h1, h2.ext E, h3⟩
    | io ds => obtain ⟨vs, rfl, h1, h2, h3, h4⟩ := q; exact ⟨vs, rfl, keep _ _ h1, h2.ext E, nF _ (by rw [h1]; exact fun z => by cases z) h3, h4⟩
    | tr b t => obtain ⟨fp, o', nd, h, hb⟩ := q; exact ⟨fp, o'.ext E fun a ha => keepT a (o'.some a ha), nd, fun a ha => ⟨nF a (o'.some a ha) (h a ha).1, (h a ha).2⟩, hb⟩
  · obtain ⟨h1, h2⟩ := R.tn i fp (R.trBack (fun a h _ _ _ => keepT a h) h)
    exact ⟨h1, fun j fp' hj h' => h2 j fp' hj (R.trBack (fun a h _ _ _ => keepT a h) h')⟩
theorem Rp.grow (R : Rp K C F H e σ) {p : Addr} {o : HO} (hp : H p = none) (ho : ∀ xs, o ≠ .tup xs := by intro xs z; cases z) : Rp K C F (upd H p o) e σ ∧ ¬ C.M p ∧ F p = none ∧ Apar K (upd H p o) e σ p := by
  have hM : ¬ C.M p := fun h => (R.frm p h).2 ((R.frm p h).1 ▸ hp)
  have keep : ∀ a u, H a = some u → upd H p o a = some u := fun a u h => by rw [upd_ne (ne_of_none h hp)]; exact h
  have keepT : ∀ a, H a ≠ none → upd H p o a = H a := fun a h => upd_ne (fun z => h (z ▸ hp))
  refine ⟨⟨R.len, fun a u h => keep a u (R.ext a u h), R.off, fun a ha => ?_, fun i x hx => ?_, R.ml, R.ne, fun i fp h => ?_, R.tup.mut ho⟩, hM, R.ext.free hp, fun i x hx mx hv => ?_, fun i fp h hp' => ?_⟩
  · rw [upd_ne (show a ≠ p from fun z => hM (z ▸ ha))]; exact R.frm a ha
  · obtain ⟨v, hv, q⟩ := R.sl i x hx
    refine ⟨v, hv, ?_⟩
    cases x with
    | fz d => exact q
    | own ds => obtain ⟨p', vs, rfl, h1, h2⟩ := q; exact ⟨p', vs, rfl, keep _ _ h1, h2⟩
    | lent ds => obtain ⟨vs, rfl, h1, h2⟩ := q; exact ⟨vs, rfl, keep _ _ h1, h2⟩
    | io ds => obtain ⟨vs, rfl, h1, h2⟩ := q; exact ⟨vs, rfl, keep _ _ h1, h2⟩
    | tr b t => obtain ⟨fp, o, q⟩ := q; exact ⟨fp, o.ext (.refl F) fun a ha => keepT a (o.some a ha), q⟩
  · obtain ⟨h1, h2⟩ := R.tn i fp (R.trBack (fun a h _ _ _ => keepT a h) h)
    exact ⟨h1, fun j fp' hj h' => h2 j fp' hj (R.trBack (fun a h _ _ _ => keepT a h) h')⟩
  · obtain ⟨v, hv', q⟩ := R.sl i x hx
    rw [hv] at hv'; cases hv'
    cases x with
    | fz d => cases mx
    | own ds => obtain ⟨p', vs, h0, h1, h2⟩ := q; cases h0; rw [hp] at h1; cases h1
    | lent ds => cases mx
    | io ds => obtain ⟨vs, h0, h1, h2⟩ := q; cases h0; rw [hp] at h1; cases h1
    | tr b t => cases mx
  · exact ((R.trFp (R.trBack (fun a h _ _ _ => keepT a h) h)).1 p hp').2.2 hp
theorem Res.rp (R : Rp K C F H e σ) {r : Rv} {v : V} {H' : Hp} (h : Res K F H r v H') : ∃ F', Rp K C F' H' e σ ∧ Ext F F' ∧ RvR K C F' H' e σ r v := by
  cases h with
  | old h => exact ⟨F, R, .refl F, h⟩
  | tup hp hd =>
    have hF := R.ext.free hp
    exact ⟨_, R.growT hp, Ext.new hF, .tup upd_same (hd.ext (Ext.new hF))⟩
  | lst hp hd =>
    obtain ⟨R', hM, hF, ap⟩ := R.grow (o := .lst _) hp
    exact ⟨F, R', .refl F, _, _, rfl, upd_same, hd, hF, hM, ap⟩
theorem Post.res {w : Wd} (R : Rp w.K C F H e σ) {r : Rv} {v : V} {H' : Hp} (h : Res w.K F H r v H') {Q : V → Hp → Prop} (P : Post w (RR w.K) C F σ Q (.ok r e)) : Q v H' := by
  obtain ⟨F', R', E, q⟩ := h.rp R
  exact P v F' H' R' E q
theorem post_ofO {α β : Type} {w : Wd} {RA : Cf → Hp → Hp → Env → L2.St → α → β → Prop} {Q : β → Hp → Prop} {o : Option α} (P : Post w RA C F σ Q (ofO o e)) : ∃ a, o = some a ∧ Post w RA C F σ Q (.ok a e) := by
  cases o with
  | none => exact False.elim P
  | some a => exact ⟨a, rfl, P⟩
abbrev F2 := D → D → Option Rv
abbrev F1 := D → Option Rv
def ap2 (f : F2) (x y : Rv) (e : Env) : Option Rv := (peek x e).bind fun dx => (peek y e).bind fun dy => f dx dy
def ap1 (f : F1) (x : Rv) (e : Env) : Option Rv := (peek x e).bind fun dx => f dx
def bin2 (f : F2) (a b : Ev) : Ev := fun e => (opd a e).bind fun x e1 => (opd b e1).bind fun y e2 => ofO (ap2 f x y e2) e2
def un1 (f : F1) (a : Ev) : Ev := fun e => (opd a e).bind fun x e1 => ofO (ap1 f x e1) e1
def OpS (K : PySem.W.Frag) (f : F2) (r : R2) : Prop := ∀ F H x y dx dy z, Ext F H → Dh K F H x dx → Dh K F H y dy → f dx dy = some z → ∀ Q : VK, (∀ v H', Res K F H z v H' → Q v H') → r x y H Q
def UnS (K : PySem.W.Frag) (f : F1) (r : V → Hp → VK → Prop) : Prop := ∀ F H x dx z, Ext F H → Dh K F H x dx → f dx = some z → ∀ Q : VK, (∀ v H', Res K F H z v H' → Q v H') → r x H Q
theorem ap2_some {f : F2} {x y z : Rv} (h : ap2 f x y e = some z) : ∃ dx dy, peek x e = some dx ∧ peek y e = some dy ∧ f dx dy = some z := by
  obtain ⟨dx, h1, h⟩ := Option.bind_eq_some_iff.mp h
  obtain ⟨dy, h2, h⟩ := Option.bind_eq_some_iff.mp h
  exact ⟨dx, dy, h1, h2, h⟩
theorem ap1_some {f : F1} {x z : Rv} (h : ap1 f x e = some z) : ∃ dx, peek x e = some dx ∧ f dx = some z := Option.bind_eq_some_iff.mp h
theorem rd_bin2 {w : Wd} {f : F2} {r : R2} {a b : Ev} (hs : OpS w.K f r) {Q : VK} (h : rdR w (bin2 f a b) σ H Q) : tOp r (rdR w a) (rdR w b) σ H Q := by
  obtain ⟨C, F, e, R, P⟩ := h
  refine rd_opd (bindP R P fun F1 H1 e1 x v1 h1 R1 E1 q1 P1 => ?_)
  refine rd_opd (bindP R1 P1 fun F2 H2 e2 y v2 h2 R2 E2 q2 P2 => ?_)
  obtain ⟨z, hz, P3⟩ := post_ofO P2
  obtain ⟨dx, dy, hx, hy, hf⟩ := ap2_some hz
  exact hs F2 H2 v1 v2 dx dy z R2.ext (RvR.peek R2 (opd_still h1) (RvR.later (opd_still h1) E2 q1) hx) (RvR.peek R2 (opd_still h2) q2 hy) hf Q fun v H' q => P3.res R2 q
theorem rd_un1 {w : Wd} {f : F1} {r : V → Hp → VK → Prop} {a : Ev} (hs : UnS w.K f r) {Q : VK} (h : rdR w (un1 f a) σ H Q) : rdR w a σ H fun x H1 => r x H1 Q := by
  obtain ⟨C, F, e, R, P⟩ := h
  refine rd_opd (bindP R P fun F1 H1 e1 x v1 h1 R1 E1 q1 P1 => ?_)
  obtain ⟨z, hz, P3⟩ := post_ofO P1
  obtain ⟨dx, hx, hf⟩ := ap1_some hz
  exact hs F1 H1 v1 dx z R1.ext (RvR.peek R1 (opd_still h1) q1 hx) hf Q fun v H' q => P3.res R1 q
section
variable {w : Wd} {X : Cx} {a b : Expr} {ea eb : Ev} {pos : Pos}
theorem ve_bin {op : Operator} {f : F2} {r : R2} (ho : OpR X (binaryOp op) r) (hs : OpS w.K f r) (ha : PE X a (rdR w ea)) (hb : PE X b (rdR w eb)) : PE X (.BinOp a op b pos) (rdR w (bin2 f ea eb)) :=
  pe_mono (pe_op ho ha hb) fun _ _ _ h => rd_bin2 hs h
theorem ve_un {op : UnaryOp} {f : F1} {r : V → Hp → VK → Prop} (ho : UnR X (unaryOp op) r) (hs : UnS w.K f r) (ha : PE X a (rdR w ea)) : PE X (.UnaryOp op a pos) (rdR w (un1 f ea)) :=
  pe_mono (pe_un ho ha) fun _ _ _ h => rd_un1 hs h
theorem ve_cmp {op : CmpOp} {f : F2} {r : R2} (ho : OpR X (compareOp op) r) (hs : OpS w.K f r) (ha : PE X a (rdR w ea)) (hb : PE X b (rdR w eb)) (hm : behindInMarks op b = false) : PE X (.Compare a [op] [b] pos) (rdR w (bin2 f ea eb)) :=
  pe_mono (pe_cmpR ho ha hb hm) fun _ _ _ h => rd_bin2 hs h
theorem ve_ix {f : F2} {r : R2} (hr : IxR X r) (hs : OpS w.K f r) (ha : PE X a (rdR w ea)) (hb : PE X b (rdR w eb)) (hx : PlainIx b) : PE X (.Subscript a b pos) (rdR w (bin2 f ea eb)) :=
  pe_mono (pe_ix hr ha hb hx) fun _ _ _ h => rd_bin2 hs h
end
end VI
set_option Elab.async false
set_option linter.all false
set_option maxRecDepth 100000
set_option maxHeartbeats 4000000
namespace VI
open PySem PySem.Spec PyProof.Rows L2
variable {K : PySem.W.Frag} {C : Cf} {F H : Hp} {e e' : Env} {σ : L2.St}
/-- a one-step reading with what is known -/
theorem Post.ok' {α β : Type} {w : Wd} {RA : Cf → Hp → Hp → Env → L2.St → α → β → Prop} {Q : β → Hp → Prop} {a : α} (P : Post w RA C F σ Q (.ok a e)) (R : Rp w.K C F H e σ) {v : β} (q : RA C F H e σ a v) : Q v H := P v F H R (.refl F) q
def eV (i : Nat) : Ev := fun e => match e[i]? with
  | some (some (.fz d)) => .ok (.fz d) e
  | some (some _) => .ok (.bor i) e
  | _ => .no
def eC (d : D) : Ev := fun e => .ok (.fz d) e
theorem rd_var {w : Wd} {i : Nat} {Q : VK} (h : rdR w (eV i) σ H Q) : tVar i σ H Q := by
  obtain ⟨C, F, e, R, P⟩ := h
  unfold eV at P
  split at P
  · rename_i d hd
    obtain ⟨v, hv, q⟩ := R.sl _ _ hd
    exact ⟨v, hv, P.ok' R q⟩
  · rename_i x hn hx
    obtain ⟨v, hv, q⟩ := R.sl _ _ hx
    exact ⟨v, hv, P.ok' R (show RvR _ _ _ _ _ _ (.bor i) v from hv)⟩
  · exact P.elim
theorem rd_c {w : Wd} {d : D} {v : V} (hd : ∀ F, Dp w.K F v d) {Q : VK} (h : rdR w (eC d) σ H Q) : tC v σ H Q := by
  obtain ⟨C, F, e, R, P⟩ := h
  exact P.ok' R (hd F)
def opds : List Ev → Sem1 (List Rv)
  | [] => fun e => .ok [] e
  | a :: as => fun e => (opd a e).bind fun x e1 => (opds as e1).bind fun xs e2 => .ok (x :: xs) e2
def toDs : List Ev → Sem1 (List D)
  | [] => fun e => .ok [] e
  | a :: as => fun e => (toD a e).bind fun x e1 => (toDs as e1).bind fun xs e2 => .ok (x :: xs) e2
abbrev RRs (K : PySem.W.Frag) : Cf → Hp → Hp → Env → L2.St → List Rv → List V → Prop := fun C F H e σ rs vs => Paired (fun r v => r.still = true ∧ RvR K C F H e σ r v) rs vs
abbrev RDs (K : PySem.W.Frag) : Cf → Hp → Hp → Env → L2.St → List D → List V → Prop := fun _ F _ _ _ ds vs => DpAll K F vs ds
abbrev rdRs (w : Wd) (a : Sem1 (List Rv)) : TA := Rd w (RRs w.K) a
abbrev rdDs (w : Wd) (a : Sem1 (List D)) : TA := Rd w (RDs w.K) a
theorem paired_mono {α β : Type} {R S : α → β → Prop} (h : ∀ a b, R a b → S a b) : ∀ {l : List α} {m : List β}, Paired R l m → Paired S l m
  | _, _, .nil => .nil
  | _, _, .cons a r => .cons (h _ _ a) (paired_mono h r)
theorem rd_opds_nil {w : Wd} {Q : List V → Hp → Prop} (h : rdRs w (opds []) σ H Q) : tNil σ H Q := by
  obtain ⟨C, F, e, R, P⟩ := h
  exact P.ok' R .nil
theorem rd_opds_cons {w : Wd} {a : Ev} {as : List Ev} {Q : List V → Hp → Prop} (h : rdRs w (opds (a :: as)) σ H Q) : tCons (rdR w a) (rdRs w (opds as)) σ H Q := by
  obtain ⟨C, F, e, R, P⟩ := h
  refine rd_opd (bindP R P fun F1 H1 e1 x v1 h1 R1 E1 q1 P1 => ?_)
  refine bindP R1 P1 fun F2 H2 e2 xs vs h2 R2 E2 q2 P2 => ?_
  exact P2.ok' R2 (.cons ⟨opd_still h1, RvR.later (opd_still h1) E2 q1⟩ q2)
theorem rd_toDs_nil {w : Wd} {Q : List V → Hp → Prop} (h : rdDs w (toDs []) σ H Q) : tNil σ H Q := by
  obtain ⟨C, F, e, R, P⟩ := h
  exact P.ok' R .nil
theorem rd_toDs_cons {w : Wd} {a : Ev} {as : List Ev} {Q : List V → Hp → Prop} (h : rdDs w (toDs (a :: as)) σ H Q) : tCons (rdR w a) (rdDs w (toDs as)) σ H Q := by
  obtain ⟨C, F, e, R, P⟩ := h
  refine rd_toD (bindP R P fun F1 H1 e1 x v1 h1 R1 E1 q1 P1 => ?_)
  refine bindP R1 P1 fun F2 H2 e2 xs vs h2 R2 E2 q2 P2 => ?_
  exact P2.ok' R2 (.cons (Dp.ext E2 q1) q2)
section
variable {w : Wd} {X : Cx} {ex : Expr} {es : List Expr} {a : Ev} {as : List Ev} {pos : Pos}
theorem va_nil : PA X [] (rdRs w (opds [])) := pa_mono pa_nil fun _ _ _ h => rd_opds_nil h
theorem va_cons (ha : PE X ex (rdR w a)) (hr : PA X es (rdRs w (opds as))) (hs : starEach (ex :: es) X.env = (false, eval ex X.env) :: starEach es X.env := by rfl) : PA X (ex :: es) (rdRs w (opds (a :: as))) :=
  pa_mono (pa_cons ha hr hs) fun _ _ _ h => rd_opds_cons h
theorem vd_nil : PA X [] (rdDs w (toDs [])) := pa_mono pa_nil fun _ _ _ h => rd_toDs_nil h
theorem vd_cons (ha : PE X ex (rdR w a)) (hr : PA X es (rdDs w (toDs as))) (hs : starEach (ex :: es) X.env = (false, eval ex X.env) :: starEach es X.env := by rfl) : PA X (ex :: es) (rdDs w (toDs (a :: as))) :=
  pa_mono (pa_cons ha hr hs) fun _ _ _ h => rd_toDs_cons h
end
def eTup (as : Sem1 (List D)) : Ev := fun e => (as e).bind fun ds e1 => if ds.length ≤ sizeLine then .ok (.fz (.tuple ds)) e1 else .no
def eLst (as : Sem1 (List D)) : Ev := fun e => (as e).bind fun ds e1 => if ds.length ≤ sizeLine then .ok (.fresh ds) e1 else .no
theorem rd_tup {w : Wd} {as : Sem1 (List D)} {Q : VK} (h : rdR w (eTup as) σ H Q) : tTup (rdDs w as) σ H Q := by
  obtain ⟨C, F, e, R, P⟩ := h
  refine bindP R P fun F1 H1 e1 ds vs h1 R1 E1 q1 P1 => ?_
  split at P1
  · rename_i hl
    exact ⟨by rw [q1.length]; exact hl, fun p hp => P1.res R1 (.tup hp q1)⟩
  · exact P1.elim
theorem rd_lst {w : Wd} {as : Sem1 (List D)} {Q : VK} (h : rdR w (eLst as) σ H Q) : tLst (rdDs w as) σ H Q := by
  obtain ⟨C, F, e, R, P⟩ := h
  refine bindP R P fun F1 H1 e1 ds vs h1 R1 E1 q1 P1 => ?_
  split at P1
  · rename_i hl
    exact ⟨by rw [q1.length]; exact hl, fun p hp => P1.res R1 (.lst hp q1)⟩
  · exact P1.elim
def peeks : List Rv → Env → Option (List D)
  | [], _ => some []
  | r :: rs, e => (peek r e).bind fun d => (peeks rs e).bind fun ds => some (d :: ds)
inductive DhAll (K : PySem.W.Frag) (F H : Hp) : List V → List D → Prop
  | nil : DhAll K F H [] []
  | cons {v : V} {vs : List V} {d : D} {ds : List D} : Dh K F H v d → DhAll K F H vs ds → DhAll K F H (v :: vs) (d :: ds)
theorem peeks_dh (R : Rp K C F H e σ) : ∀ {rs : List Rv} {vs : List V} {ds : List D}, Paired (fun r v => r.still = true ∧ RvR K C F H e σ r v) rs vs → peeks rs e = some ds → DhAll K F H vs ds
  | _, _, _, .nil, h => by cases h; exact .nil
  | _, _, _, .cons a r, h => by
    obtain ⟨d, h1, h⟩ := Option.bind_eq_some_iff.mp h
    obtain ⟨ds, h2, h⟩ := Option.bind_eq_some_iff.mp h
    cases h
    exact .cons (RvR.peek R a.1 a.2 h1) (peeks_dh R r h2)
def eB (f : List D → Option Rv) (as : Sem1 (List Rv)) : Ev := fun e => (as e).bind fun rs e1 => ofO ((peeks rs e1).bind f) e1
def CallS (K : PySem.W.Frag) (f : List D → Option Rv) (r : List V → Hp → VK → Prop) : Prop := ∀ F H vs ds z, Ext F H → DhAll K F H vs ds → f ds = some z → ∀ Q : VK, (∀ v H', Res K F H z v H' → Q v H') → r vs H Q
theorem rd_blt {w : Wd} {f : List D → Option Rv} {r : List V → Hp → VK → Prop} {as : Sem1 (List Rv)} (hs : CallS w.K f r) {Q : VK} (h : rdR w (eB f as) σ H Q) : tCB r (rdRs w as) σ H Q := by
  obtain ⟨C, F, e, R, P⟩ := h
  refine bindP R P fun F1 H1 e1 rs vs h1 R1 E1 q1 P1 => ?_
  obtain ⟨z, hz, P2⟩ := post_ofO P1
  obtain ⟨ds, hd, hf⟩ := Option.bind_eq_some_iff.mp hz
  exact hs F1 H1 vs ds z R1.ext (peeks_dh R1 q1 hd) hf Q fun v H' q => P2.res R1 q
/-- a method of a built-in type, that changes nothing: the receiver first -/
def MtS (K : PySem.W.Frag) (T : String) (f : D → List D → Option Rv) (r : V → List V → Hp → VK → Prop) : Prop := ∀ F H x vs dx ds z, Ext F H → Dh K F H x dx → DhAll K F H vs ds → f dx ds = some z → tyV K T x H ∧ ∀ Q : VK, (∀ v H', Res K F H z v H' → Q v H') → r x vs H Q
inductive Ret where
  | ok (r : Rv)
  | ex (x : Xc)
/-- behind a call: what lay still lies so, what others own stands -/
structure After (F F' H H' : Hp) : Prop where
  ext : Ext F F'
  ext' : Ext F' H'
  frm : ∀ a, H a ≠ none → F a = none → H' a = H a ∧ F' a = none
  tup : TupIn F' H'
def RetR (K : PySem.W.Frag) (F' H H' : Hp) : Rv → V → Prop
  | .fz d, v => Dp K F' v d
  | .fresh ds, v => ∃ p vs, v = .ref p ∧ H' p = some (.lst vs) ∧ DpAll K F' vs ds ∧ F' p = none ∧ H p = none
  | .bor _, _ => False
/-- the promise of a def that changes nothing that stood -/
def spF (K : PySem.W.Frag) (XR : Hp → Hp → Xc → Value → Option Addr → Prop) (n : Nat) (fn : List D → Option Ret) : Sp := fun vs H Q E => vs.length = n ∧ ∃ F ds, Ext F H ∧ TupIn F H ∧ DpAll K F vs ds ∧ match fn ds with
  | none => False
  | some (.ok r) => ∀ v F' H', After F F' H H' → RetR K F' H H' r v → Q v H'
  | some (.ex x) => ∀ F' H' cv od, After F F' H H' → XR F' H' x cv od → E cv od H'
/-- .. of one that may change the list that is its first argument -/
def spI (K : PySem.W.Frag) (XR : Hp → Hp → Xc → Value → Option Addr → Prop) (n : Nat) (fn : List D → List D → Option (Ret × List D)) : Sp := fun vs H Q E => vs.length = n ∧ ∃ p ws bs F b ds, vs = .ref p :: ws ∧ Ext F H ∧ TupIn F H ∧ F p = none ∧ H p = some (.lst bs) ∧ DpAll K F bs b ∧ DpAll K F ws ds ∧ match fn b ds with
  | none => False
  | some (.ok r, b') => ∀ v F' H' bs', Ext F F' → Ext F' H' → TupIn F' H' → (∀ a, a ≠ p → H a ≠ none → F a = none → H' a = H a ∧ F' a = none) → H' p = some (.lst bs') → F' p = none → DpAll K F' bs' b' → RetR K F' H H' r v → Q v H'
  | some (.ex x, b') => ∀ F' H' bs' cv od, Ext F F' → Ext F' H' → TupIn F' H' → (∀ a, a ≠ p → H a ≠ none → F a = none → H' a = H a ∧ F' a = none) → H' p = some (.lst bs') → F' p = none → DpAll K F' bs' b' → XR F' H' x cv od → E cv od H'
theorem Rp.after (R : Rp K C F H e σ) {F' H' : Hp} (A : After F F' H H') : Rp K C F' H' e σ := by
  have keep : ∀ a, H a ≠ none → F a = none → H' a = H a ∧ F' a = none := A.frm
  have back : ∀ {i fp}, TrAt K H' e σ i fp → TrAt K H e σ i fp := fun h => R.trBack (fun a h0 h1 _ _ => (keep a h0 h1).1) h
  refine ⟨R.len, A.ext', fun a ha => ?_, fun a ha => ?_, fun i x hx => ?_, R.ml, R.ne, fun i fp h => ⟨(R.tn i fp (back h)).1, fun j fp' hj h' => (R.tn i fp (back h)).2 j fp' hj (back h')⟩, A.tup⟩
  · have h := R.frm a ha
    exact (keep a (by rw [h.1]; exact h.2) (R.off a ha)).2
  · have h := R.frm a ha
    rw [(keep a (by rw [h.1]; exact h.2) (R.off a ha)).1]; exact h
  · obtain ⟨v, hv, q⟩ := R.sl i x hx
    refine ⟨v, hv, ?_⟩
    cases x with
    | fz d => exact Dp.ext A.ext q
    | own ds =>
      obtain ⟨p, vs, rfl, h1, h2, h3, h4⟩ := q
      have k := keep p (by rw [h1]; exact fun z => by cases z) h3
      exact ⟨p, vs, rfl, k.1.trans h1, h2.ext A.ext, k.2, h4⟩
    | lent ds =>
      obtain ⟨vs, rfl, h1, h2, h3⟩ := q
      have k := keep (C.lam i) (by rw [h1]; exact fun z => by cases z) (R.off _ (R.ml _ h3))
      exact ⟨vs, rfl, k.1.trans h1, h2.ext A.ext, h3⟩
    | io ds =>
      obtain ⟨vs, rfl, h1, h2, h3, h4⟩ := q
      have k := keep (C.lam i) (by rw [h1]; exact fun z => by cases z) h3
      exact ⟨vs, rfl, k.1.trans h1, h2.ext A.ext, k.2, h4⟩
    | tr b t =>
      obtain ⟨fp, o, nd, h, hb⟩ := q
      have k := fun a ha => keep a (o.some a ha) (h a ha).1
      exact ⟨fp, o.ext A.ext fun a ha => (k a ha).1, nd, fun a ha => ⟨(k a ha).2, (h a ha).2⟩, hb⟩
theorem Rp.apart (R : Rp K C F H e σ) {p : Addr} (hp : H p = none) : Apart e σ (.ref p) := (R.grow (o := .lst []) hp).2.2.2.1
/-- a new object is none of ours, in a later heap too -/
theorem Rp.apT (R : Rp K C F H e σ) {p : Addr} (hp : H p = none) {H' : Hp} (k : ∀ a, H a ≠ none → F a = none → ¬ C.M a → (∃ i fp, TrAt K H e σ i fp ∧ a ∈ fp) → H' a = H a) : ApT K H' e σ p := fun i fp h hq => ((R.trFp (R.trBack k h)).1 p hq).2.2 hp
theorem Rp.notM (R : Rp K C F H e σ) {p : Addr} (hp : H p = none) : ¬ C.M p := (R.grow (o := .lst []) hp).2.1
theorem RetR.rv (R : Rp K C F H e σ) {F' H' : Hp} {r : Rv} {v : V} (h : RetR K F' H H' r v) (A : After F F' H H') : RvR K C F' H' e σ r v := by
  cases r with
  | fz d => exact h
  | fresh ds =>
    obtain ⟨p, vs, rfl, h1, h2, h3, h4⟩ := h
    exact ⟨p, vs, rfl, h1, h2, h3, R.notM h4, R.apart h4, R.apT h4 fun a h0 h1 _ _ => (A.frm a h0 h1).1⟩
  | bor i => exact h.elim
def eF (fn : List D → Option Ret) (as : Sem1 (List D)) : Ev := fun e => (as e).bind fun ds e1 => match fn ds with
  | none => .no
  | some (.ok r) => .ok r e1
  | some (.ex x) => .ex x e1
theorem rd_call {w : Wd} {n : Nat} {fn : List D → Option Ret} {as : List Ev} (hn : as.length = n) {Q : VK} (h : rdR w (eF fn (toDs as)) σ H Q) : tCallS (spF w.K w.XR n fn) (WE w.W) (rdDs w (toDs as)) σ H Q := by
  obtain ⟨C, F, e, R, P⟩ := h
  refine bindP R P fun F1 H1 e1 ds vs h1 R1 E1 q1 P1 => ?_
  have hl : ∀ (as : List Ev) (e : Env) (ds : List D) (e1 : Env), toDs as e = .ok ds e1 → ds.length = as.length := by
    intro as
    induction as with
    | nil => intro e ds e1 h; cases h; rfl
    | cons a as ih =>
      intro e ds e1 h
      unfold toDs at h
      cases h2 : toD a e with
      | no => rw [h2] at h; cases h
      | ex x e2 => rw [h2] at h; cases h
      | ok x e2 =>
        rw [h2] at h
        have h : (toDs as e2).bind (fun xs e2 => .ok (x :: xs) e2) = .ok ds e1 := h
        cases h3 : toDs as e2 with
        | no => rw [h3] at h; cases h
        | ex y e3 => rw [h3] at h; cases h
        | ok xs e3 => rw [h3] at h; cases h; rw [List.length_cons, List.length_cons, ih _ _ _ h3]
  refine ⟨by rw [q1.length, hl _ _ _ _ h1]; exact hn, F1, ds, R1.ext, R1.tup, q1, ?_⟩
  split at P1
  · exact P1.elim
  · exact fun v F' H' A q => P1 v F' H' (R1.after A) A.ext (q.rv R1 A)
  · exact fun F' H' cv od A q => P1 F' H' cv od (R1.after A) A.ext q
/-- a def as it stands -/
structure Defn (P : Program) (W : World) (K : PySem.W.Frag) (mg : Str → Option Value) (base : Heap) (k : Nat) (x : Str) (n : Nat) (sp : Sp) : Prop where
  ex : ∃ (f : Addr) (fd : FuncData) (ps : List Str), mg x = some (.ref f) ∧ PySem.W.keepIn K (.ref f) = true ∧ Binds K fd ps [] ∧ ps.length = n ∧ FnG P W K mg base k f fd ps sp
section
variable {X : Cx} {W : WX} {XR : Hp → Hp → Xc → Value → Option Addr → Prop} {a b c : Expr} {es : List Expr} {ea eb ec : Ev} {as : List Ev} {pos p : Pos} {x : Str}
abbrev wd (X : Cx) (W : WX) (XR : Hp → Hp → Xc → Value → Option Addr → Prop) : Wd := ⟨X.K, W, XR⟩
theorem ve_call {k n : Nat} {fn : List D → Option Ret} (d : Defn X.prog X.w X.K X.mg X.base k x n (spF X.K XR n fn)) (hr : Room k X.A) (hu : X.A.guards = some []) (hg : Gl X x) (hx : ∀ σ, PassesAt (L2.CX X.prog X.w) X σ (WE W σ)) (hn : as.length = n)
    (ha : PA X (a :: es) (rdDs (wd X W XR) (toDs as))) (hdb : (x == ("__debug__" : Str)) = false := by decide) (he : starEach (a :: es) X.env = (false, eval a X.env) :: starEach es X.env := by rfl) (hpl : (backTo pos (starEach es X.env)).any (·.1) = false := by rfl) :
    PE X (.Call (.Name x p) (a :: es) [] pos) (rdR (wd X W XR) (eF fn (toDs as))) := by
  obtain ⟨f, fd, ps, hm, hk, hb, hl, F⟩ := d.ex
  exact pe_mono (pe_callG F hr hu hg hm hk hb hx ha hdb he hpl) fun _ _ _ h => rd_call hn h
theorem ve_var (i : Nat) (hN : X.N[i]? = some x := by rfl) (hv : Vis X.env.scope x := by first | exact Or.inl rfl | exact Or.inr (Or.inl rfl) | exact Or.inr (Or.inr rfl)) (hd : (x == ("__debug__" : Str)) = false := by decide)
    (hcd : (x == ("__classdict__" : Str)) = false := by decide) {w : Wd} : PE X (.Name x pos) (rdR w (eV i)) := pe_mono (pv i hN hv hd hcd) fun _ _ _ h => rd_var h
theorem ve_int {w : Wd} {i : Int} {j : Nat} : PE X (.Constant (.int i) j pos) (rdR w (eC (.int i))) := pe_mono pe_int fun _ _ _ h => rd_c (fun _ => .int i) h
theorem ve_bl {w : Wd} {i : Bool} {j : Nat} : PE X (.Constant (.bool i) j pos) (rdR w (eC (.bool i))) := pe_mono pe_bl fun _ _ _ h => rd_c (fun _ => .bl i) h
theorem ve_non {w : Wd} {j : Nat} : PE X (.Constant .none j pos) (rdR w (eC .none)) := pe_mono pe_non fun _ _ _ h => rd_c (fun _ => .non) h
theorem ve_str {w : Wd} {i : Str} {j : Nat} : PE X (.Constant (.str i) j pos) (rdR w (eC (.str i))) := pe_mono pe_str fun _ _ _ h => rd_c (fun _ => .str i) h
/-- a module's constant that is an int or a text -/
theorem ve_globI {w : Wd} {i : Int} {t : Tok} (hg : Gl X x) (hm : X.mg x = some (.int i t)) (hd : (x == ("__debug__" : Str)) = false := by decide) : PE X (.Name x pos) (rdR w (eC (.int i))) :=
  pe_mono (pe_glob (v := .int i) hg hm ⟨_, rfl⟩ hd) fun _ _ _ h => rd_c (fun _ => .int i) h
theorem ve_globS {w : Wd} {i : Str} {t : Tok} (hg : Gl X x) (hm : X.mg x = some (.str i t)) (hd : (x == ("__debug__" : Str)) = false := by decide) : PE X (.Name x pos) (rdR w (eC (.str i))) :=
  pe_mono (pe_glob (v := .str i) hg hm ⟨_, rfl⟩ hd) fun _ _ _ h => rd_c (fun _ => .str i) h
theorem ve_tup {w : Wd} {x1 : Nat} (h : PA X es (rdDs w (toDs as))) : PE X (.Tuple es x1 pos) (rdR w (eTup (toDs as))) := pe_mono (pe_tup h) fun _ _ _ h => rd_tup h
theorem ve_lst {w : Wd} (h : PA X es (rdDs w (toDs as))) : PE X (.List es pos) (rdR w (eLst (toDs as))) := pe_mono (pe_lst h) fun _ _ _ h => rd_lst h
theorem ve_blt {w : Wd} {id : String} {f : List D → Option Rv} {r : List V → Hp → VK → Prop} (hc : CallR X (.builtin id) r) (hs : CallS w.K f r) (hg : Gl X x) (hm : X.mg x = none) (hv : bootBuiltins x = some (.builtin id)) (ha : PA X (a :: es) (rdRs w (opds as)))
    (hn : x ≠ "__name__" := by decide) (hdb : (x == ("__debug__" : Str)) = false := by decide) (he : starEach (a :: es) X.env = (false, eval a X.env) :: starEach es X.env := by rfl) (hpl : (backTo pos (starEach es X.env)).any (·.1) = false := by rfl) :
    PE X (.Call (.Name x p) (a :: es) [] pos) (rdR w (eB f (opds as))) := pe_mono (pe_callB hc hg hm hv ha hn hdb he hpl) fun _ _ _ h => rd_blt hs h
theorem ve_bty {w : Wd} {T : String} {f : List D → Option Rv} {r : List V → Hp → VK → Prop} (hc : CallR X (.type T) r) (hs : CallS w.K f r) (hg : Gl X x) (hm : X.mg x = none) (hv : bootBuiltins x = some (.type T)) (ha : PA X (a :: es) (rdRs w (opds as)))
    (hn : x ≠ "__name__" := by decide) (hdb : (x == ("__debug__" : Str)) = false := by decide) (he : starEach (a :: es) X.env = (false, eval a X.env) :: starEach es X.env := by rfl) (hpl : (backTo pos (starEach es X.env)).any (·.1) = false := by rfl) :
    PE X (.Call (.Name x p) (a :: es) [] pos) (rdR w (eB f (opds as))) := pe_mono (pe_callTy hc hg hm hv ha hn hdb he hpl) fun _ _ _ h => rd_blt hs h
end
def asB : Rv → Env → Option Bool
  | .fz (.bool b), _ => some b
  | _, _ => none
def tst (a : Ev) : Sem1 Bool := fun e => (a e).bind fun x e1 => ofO (asB x e1) e1
def andT (a b : Sem1 Bool) : Sem1 Bool := fun e => (a e).bind fun x e1 => if x then b e1 else .ok false e1
def orT (a b : Sem1 Bool) : Sem1 Bool := fun e => (a e).bind fun x e1 => if x then .ok true e1 else b e1
def notT (a : Sem1 Bool) : Sem1 Bool := fun e => (a e).bind fun x e1 => .ok (!x) e1
def andV (a b : Ev) : Ev := fun e => (tst a e).bind fun x e1 => if x then b e1 else .ok (.fz (.bool false)) e1
def orV (a b : Ev) : Ev := fun e => (tst a e).bind fun x e1 => if x then .ok (.fz (.bool true)) e1 else b e1
def notV (a : Ev) : Ev := fun e => (tst a e).bind fun x e1 => .ok (.fz (.bool (!x))) e1
def iteV (c : Sem1 Bool) (a b : Ev) : Ev := fun e => (c e).bind fun x e1 => if x then a e1 else b e1
theorem Post.asB {w : Wd} {x : Rv} {v : V} (R : Rp w.K C F H e σ) (q : RvR w.K C F H e σ x v) {α β : Type} {RA : Cf → Hp → Hp → Env → L2.St → α → β → Prop} {Q : β → Hp → Prop} {f : Bool → Env → Rs α}
    (P : Post w RA C F σ Q ((ofO (asB x e) e).bind f)) : ∃ b, v = .bl b ∧ Post w RA C F σ Q (f b e) := by
  cases x with
  | fz d =>
    cases d with
    | bool b => cases q; exact ⟨b, rfl, P⟩
    | _ => exact P.elim
  | _ => exact P.elim
theorem rs_assoc {α β γ : Type} (r : Rs α) (f : α → Env → Rs β) (g : β → Env → Rs γ) : (r.bind f).bind g = r.bind fun a e => (f a e).bind g := by cases r <;> rfl
theorem rs_id {α : Type} (r : Rs α) : r.bind (fun a e => .ok a e) = r := by cases r <;> rfl
theorem rd_tst {w : Wd} {a : Ev} {Q : Bool → Hp → Prop} (h : rdT w (tst a) σ H Q) : rdR w a σ H fun x H' => ∃ k, x = .bl k ∧ Q k H' := by
  obtain ⟨C, F, e, R, P⟩ := h
  refine bindP R P fun F1 H1 e1 x v1 h1 R1 E1 q1 P1 => ?_
  rw [← rs_id (ofO (asB x e1) e1)] at P1
  obtain ⟨b, hb, P2⟩ := P1.asB R1 q1
  exact ⟨b, hb, P2.ok' R1 rfl⟩
section
variable {w : Wd} {X : Cx} {a b c : Expr} {rest : List Expr} {ea eb ec : Ev} {ta tb : Sem1 Bool} {pos : Pos}
/-- an expression's worth, as a test -/
theorem vt_val (h : PE X a (rdR w ea)) (he : ∀ whole, isTrue a X.env whole = (do let v ← whole; standAt a.pos; holding [v] (truthy v)) := by intro _; rfl) : PT X a (rdT w (tst ea)) :=
  pt_mono (pt_val h he) fun _ _ _ q => rd_tst q
theorem vt_cmp {op : CmpOp} {f : F2} {r : R2} (ho : OpR X (compareOp op) r) (hs : OpS w.K f r) (ha : PE X a (rdR w ea)) (hb : PE X b (rdR w eb)) (hm : behindInMarks op b = false) : PT X (.Compare a [op] [b] pos) (rdT w (tst (bin2 f ea eb))) :=
  pt_mono (pt_cmpR ho ha hb hm) fun _ _ _ q => rd_bin2 hs (rd_tst q)
theorem vt_not (h : PT X a (rdT w ta)) : PT X (.UnaryOp .Not a pos) (rdT w (notT ta)) := pt_mono (pt_not h) fun σ H Q q => by
  obtain ⟨C, F, e, R, P⟩ := q
  exact bindP R P fun F1 H1 e1 x v1 h1 R1 E1 q1 P1 => by cases q1; exact P1.ok' R1 rfl
theorem vt_andN (ha : PT X a (rdT w ta)) : PT X (.BoolOp .And [a] pos) (rdT w ta) := (pw_and1 ha).pt
theorem pw_mono {ex : Expr} {t t' : TT} (h : PW X ex t) (w : ∀ σ H Q, t' σ H Q → t σ H Q) : PW X ex t' := ⟨fun wh pins s σ H Q I q => h.run wh pins s σ H Q I (w σ H Q q)⟩
theorem vw_and1 (ha : PT X a (rdT w ta)) : PW X (.BoolOp .And [a] pos) (rdT w ta) := pw_and1 ha
theorem vw_or1 (ha : PT X a (rdT w ta)) : PW X (.BoolOp .Or [a] pos) (rdT w ta) := pw_or1 ha
theorem vw_and (ha : PT X a (rdT w ta)) (hb : PW X (.BoolOp .And (b :: rest) pos) (rdT w tb)) : PW X (.BoolOp .And (a :: b :: rest) pos) (rdT w (andT ta tb)) := pw_mono (pw_and ha hb) fun σ H Q q => by
  obtain ⟨C, F, e, R, P⟩ := q
  refine bindP R P fun F1 H1 e1 x v1 h1 R1 E1 q1 P1 => ?_
  cases q1
  cases x with
  | true => exact iteT ⟨C, F1, e1, R1, P1⟩
  | false => exact iteF (P1.ok' R1 rfl)
theorem vw_or (ha : PT X a (rdT w ta)) (hb : PW X (.BoolOp .Or (b :: rest) pos) (rdT w tb)) : PW X (.BoolOp .Or (a :: b :: rest) pos) (rdT w (orT ta tb)) := pw_mono (pw_or ha hb) fun σ H Q q => by
  obtain ⟨C, F, e, R, P⟩ := q
  refine bindP R P fun F1 H1 e1 x v1 h1 R1 E1 q1 P1 => ?_
  cases q1
  cases x with
  | true => exact iteT (P1.ok' R1 rfl)
  | false => exact iteF ⟨C, F1, e1, R1, P1⟩
theorem vt_bool (h : PW X a (rdT w ta)) : PT X a (rdT w ta) := h.pt
theorem rd_tst_bind {Q : VK} {f : Bool → Env → Rs Rv} (h : rdR w (fun e => (tst ea e).bind f) σ H Q) {Q1 : VK} (k : ∀ C F e1 H1 b, Rp w.K C F H1 e1 σ → Post w (RR w.K) C F σ Q (f b e1) → Q1 (.bl b) H1) : rdR w ea σ H Q1 := by
  obtain ⟨C, F, e, R, P⟩ := h
  have P : Post w (RR w.K) C F σ Q ((ea e).bind fun a e => (ofO (asB a e) e).bind f) := by rw [← rs_assoc]; exact P
  refine bindP R P fun F1 H1 e1 x v1 h1 R1 E1 q1 P1 => ?_
  obtain ⟨b, rfl, P2⟩ := P1.asB R1 q1
  exact k C F1 e1 H1 b R1 P2
theorem ve_one {op : BoolOp} (h : PE X a (rdR w ea)) : PE X (.BoolOp op [a] pos) (rdR w ea) := pe_one h
theorem ve_and (ha : PE X a (rdR w ea)) (hb : PE X (.BoolOp .And (b :: rest) pos) (rdR w eb)) : PE X (.BoolOp .And (a :: b :: rest) pos) (rdR w (andV ea eb)) := pe_mono (pe_and ha hb) fun σ H Q q => by
  refine rd_tst_bind q fun C F e1 H1 b R1 P1 => ⟨b, rfl, ?_⟩
  cases b with
  | true => exact iteT ⟨C, F, e1, R1, P1⟩
  | false => exact iteF (P1.ok' R1 (.bl false))
theorem ve_or (ha : PE X a (rdR w ea)) (hb : PE X (.BoolOp .Or (b :: rest) pos) (rdR w eb)) : PE X (.BoolOp .Or (a :: b :: rest) pos) (rdR w (orV ea eb)) := pe_mono (pe_or ha hb) fun σ H Q q => by
  refine rd_tst_bind q fun C F e1 H1 b R1 P1 => ⟨b, rfl, ?_⟩
  cases b with
  | true => exact iteT (P1.ok' R1 (.bl true))
  | false => exact iteF ⟨C, F, e1, R1, P1⟩
theorem ve_not (ha : PE X a (rdR w ea)) : PE X (.UnaryOp .Not a pos) (rdR w (notV ea)) := pe_mono (pe_not ha) fun σ H Q q => by
  exact rd_tst_bind q fun C F e1 H1 b R1 P1 => ⟨b, rfl, P1.ok' R1 (.bl _)⟩
theorem ve_ite (hc : PT X c (rdT w ta)) (ha : PE X a (rdR w ea)) (hb : PE X b (rdR w eb)) : PE X (.IfExp c a b pos) (rdR w (iteV ta ea eb)) := pe_mono (pe_ifExp hc ha hb) fun σ H Q q => by
  obtain ⟨C, F, e, R, P⟩ := q
  refine bindP R P fun F1 H1 e1 x v1 h1 R1 E1 q1 P1 => ?_
  cases q1
  cases x with
  | true => exact iteT ⟨C, F1, e1, R1, P1⟩
  | false => exact iteF ⟨C, F1, e1, R1, P1⟩
def chain2 (f g : F2) (a b c : Ev) : Ev := fun e => (opd a e).bind fun x e1 => (opd b e1).bind fun y e2 => (ofO ((ap2 f x y e2).bind fun r => asB r e2) e2).bind fun k e3 =>
  if k then (opd c e3).bind fun z e4 => ofO (ap2 g y z e4) e4 else .ok (.fz (.bool false)) e3
theorem rd_chain {f g : F2} {r r' : R2} (hs : OpS w.K f r) (hs' : OpS w.K g r') {Q : VK} (h : rdR w (chain2 f g ea eb ec) σ H Q) : tChain r r' (rdR w ea) (rdR w eb) (rdR w ec) σ H Q := by
  obtain ⟨C, F, e, R, P⟩ := h
  refine rd_opd (bindP R P fun F1 H1 e1 x v1 h1 R1 E1 q1 P1 => ?_)
  refine rd_opd (bindP R1 P1 fun F2 H2 e2 y v2 h2 R2 E2 q2 P2 => ?_)
  cases hk : (ap2 f x y e2).bind fun r => asB r e2 with
  | none => rw [hk] at P2; exact P2.elim
  | some k =>
    rw [hk] at P2
    obtain ⟨z, hz, hb⟩ := Option.bind_eq_some_iff.mp hk
    obtain ⟨dx, dy, hx, hy, hf⟩ := ap2_some hz
    refine hs F2 H2 v1 v2 dx dy z R2.ext (RvR.peek R2 (opd_still h1) (RvR.later (opd_still h1) E2 q1) hx) (RvR.peek R2 (opd_still h2) q2 hy) hf _ fun v H' q => ?_
    have hz' : z = .fz (.bool k) := by
      unfold asB at hb
      split at hb
      · cases hb; rfl
      · cases hb
    subst hz'
    cases q with
    | old q =>
      cases q
      refine ⟨k, rfl, ?_⟩
      cases k with
      | false => exact iteF (P2.ok' R2 (.bl false))
      | true =>
        refine iteT ?_
        have P2 : Post w (RR w.K) C F2 σ Q ((opd ec e2).bind fun z e4 => ofO (ap2 g y z e4) e4) := P2
        refine rd_opd (bindP R2 P2 fun F3 H3 e3 z v3 h3 R3 E3 q3 P3 => ?_)
        obtain ⟨z', hz', P4⟩ := post_ofO P3
        obtain ⟨dy', dz, hy', hz2, hf'⟩ := ap2_some hz'
        exact hs' F3 H3 v2 v3 dy' dz z' R3.ext (RvR.peek R3 (opd_still h2) (RvR.later (opd_still h2) E3 q2) hy') (RvR.peek R3 (opd_still h3) q3 hz2) hf' Q fun v H' q => P4.res R3 q
theorem ve_chain {op op' : CmpOp} {f g : F2} {r r' : R2} (ho : OpR X (compareOp op) r) (ho' : OpR X (compareOp op') r') (hs : OpS w.K f r) (hs' : OpS w.K g r') (ha : PE X a (rdR w ea)) (hb : PE X b (rdR w eb)) (hc : PE X c (rdR w ec))
    (hm : lastMarks [op, op'] [b, c] = false := by with_unfolding_all rfl) : PE X (.Compare a [op, op'] [b, c] pos) (rdR w (chain2 f g ea eb ec)) := pe_mono (pe_chain ho ho' ha hb hc hm) fun _ _ _ q => rd_chain hs hs' q
theorem vt_chain {op op' : CmpOp} {f g : F2} {r r' : R2} (ho : OpR X (compareOp op) r) (ho' : OpR X (compareOp op') r') (hs : OpS w.K f r) (hs' : OpS w.K g r') (ha : PE X a (rdR w ea)) (hb : PE X b (rdR w eb)) (hc : PE X c (rdR w ec))
    (hm : lastMarks [op, op'] [b, c] = false := by with_unfolding_all rfl) : PT X (.Compare a [op, op'] [b, c] pos) (rdT w (tst (chain2 f g ea eb ec))) := pt_mono (pt_chain ho ho' ha hb hc hm) fun _ _ _ q => rd_chain hs hs' (rd_tst q)
end
end VI
set_option Elab.async false
set_option linter.all false
set_option maxRecDepth 100000
set_option maxHeartbeats 4000000
namespace VI
open PySem PySem.Spec PyProof.Rows L2
variable {K : PySem.W.Frag} {C : Cf} {F H : Hp} {e e' : Env} {σ : L2.St}
inductive Fl where
  | nx | bk | ct
  | ret (r : Rv)
abbrev St1 := Sem1 Fl
def PostS (w : Wd) (C : Cf) (F : Hp) (D : Ends) : Rs Fl → Prop
  | .no => False
  | .ok .nx e' => ∀ F' H' σ', Rp w.K C F' H' e' σ' → Ext F F' → D.nx σ' H'
  | .ok .bk e' => ∀ F' H' σ', Rp w.K C F' H' e' σ' → Ext F F' → D.bk σ' H'
  | .ok .ct e' => ∀ F' H' σ', Rp w.K C F' H' e' σ' → Ext F F' → D.ct σ' H'
  | .ok (.ret r) e' => ∀ v F' H' σ', Rp w.K C F' H' e' σ' → Ext F F' → RvR w.K C F' H' e' σ' r v → r.still = false ∨ (∃ d, r = .fz d) → D.rt v H'
  | .ex x e' => ∀ F' H' σ' cv od, Rp w.K C F' H' e' σ' → Ext F F' → w.XR F' H' x cv od → w.W cv od σ' H'
def rdS (w : Wd) (a : St1) : TS := fun D σ H => ∃ C F e, Rp w.K C F H e σ ∧ PostS w C F D (a e)
section
variable {w : Wd} {D : Ends}
theorem PostS.mono {F1 : Hp} (E : Ext F F1) {r : Rs Fl} (h : PostS w C F D r) : PostS w C F1 D r := by
  cases r with
  | no => exact h
  | ok a e' =>
    cases a with
    | nx => exact fun F' H' σ' R E' => h F' H' σ' R (E.trans E')
    | bk => exact fun F' H' σ' R E' => h F' H' σ' R (E.trans E')
    | ct => exact fun F' H' σ' R E' => h F' H' σ' R (E.trans E')
    | ret r => exact fun v F' H' σ' R E' => h v F' H' σ' R (E.trans E')
  | ex x e' => exact fun F' H' σ' cv od R E' q => h F' H' σ' cv od R (E.trans E') q
/-- an expression, then what is done with its worth -/
theorem bindS {α β : Type} {RA : Cf → Hp → Hp → Env → L2.St → α → β → Prop} {Q1 : β → Hp → Prop} {a : Sem1 α} {f : α → Env → Rs Fl} (R : Rp w.K C F H e σ) (P : PostS w C F D ((a e).bind f))
    (k : ∀ F1 H1 e1 x v, a e = .ok x e1 → Rp w.K C F1 H1 e1 σ → Ext F F1 → RA C F1 H1 e1 σ x v → PostS w C F1 D (f x e1) → Q1 v H1) : Rd w RA a σ H Q1 := by
  refine ⟨C, F, e, R, ?_⟩
  cases h1 : a e with
  | no => rw [h1] at P; exact False.elim P
  | ok x e1 =>
    rw [h1] at P
    exact fun v F' H' R' E q => k F' H' e1 x v h1 R' E q (PostS.mono E P)
  | ex x e1 => rw [h1] at P; exact fun F' H' cv od R E q => P F' H' σ cv od R E q
theorem PostS.nx' {e : Env} (P : PostS w C F D (.ok .nx e)) (R : Rp w.K C F H e σ) : D.nx σ H := P F H σ R (.refl F)
end
/-- a name that may be stored: it holds no lent list, none that was handed in -/
def freeAt (e : Env) (i : Nat) : Bool := match e[i]? with
  | some (some (.lent _)) => false
  | some (some (.io _)) => false
  | some (some (.tr _ _)) => false
  | some _ => true
  | none => false
def put (i : Nat) (d : D) (e : Env) : Option Env := if freeAt e i then some (e.set i (some (.fz d))) else none
def store (i : Nat) (r : Rv) (e : Env) : Rs Fl := match r with
  | .fresh ds => if freeAt e i then .ok .nx (e.set i (some (.own ds))) else .no
  | r => (frz r e).bind fun d e1 => if freeAt e1 i then .ok .nx (e1.set i (some (.fz d))) else .no
theorem TrAt.unset {i j : Nat} {x : Sv} {o : Option V} {fp : List Addr} (hx : ∀ b t, x ≠ .tr b t) (h : TrAt K H (e.set i (some x)) (σ.set i o) j fp) : TrAt K H e σ j fp ∧ i ≠ j := by
  obtain ⟨b, t, v, F', he, hv, o⟩ := h
  rcases getset he with ⟨rfl, he'⟩ | ⟨hj, he⟩
  · exact absurd (Option.some.inj he') (hx b t)
  · exact ⟨⟨b, t, v, F', he, by rwa [List.getElem?_set_ne hj] at hv, o⟩, hj⟩
theorem ApT.set {p : Addr} {i : Nat} {x : Sv} {o : Option V} (h : ApT K H e σ p) (hx : ∀ b t, x ≠ .tr b t) : ApT K H (e.set i (some x)) (σ.set i o) p := fun j fp ht => h j fp (ht.unset hx).1
theorem Rp.put (R : Rp K C F H e σ) {i : Nat} {d : D} {v : V} (h : freeAt e i = true) (q : Dp K F v d) : Rp K C F H (e.set i (some (.fz d))) (σ.set i (some v)) := by
  refine ⟨by rw [List.length_set, List.length_set]; exact R.len, R.ext, R.off, R.frm, fun j x hx => ?_, R.ml, fun j k x y hjk hx hy mx my => ?_, tn_sub R.tn (fun j y hy => ?_) (fun j y hy my => ?_) (fun j y hy => ?_), R.tup⟩
  · rcases getset hx with ⟨rfl, hx'⟩ | ⟨hj, hx⟩
    · cases hx'
      have : i < σ.length := by
        rw [← R.len]
        unfold freeAt at h
        split at h <;> first | (cases h; done) | skip
        rename_i hs; exact (List.getElem?_eq_some_iff.mp hs).1
      exact ⟨v, by rw [List.getElem?_set_self this], q⟩
    · obtain ⟨u, hu, z⟩ := R.sl j x hx
      exact ⟨u, by rw [List.getElem?_set_ne hj]; exact hu, z⟩
  · rcases getset hx with ⟨rfl, hx'⟩ | ⟨hj, hx⟩
    · cases hx'; cases mx
    · rcases getset hy with ⟨rfl, hy'⟩ | ⟨hk, hy⟩
      · cases hy'; cases my
      · rw [List.getElem?_set_ne hj, List.getElem?_set_ne hk]; exact R.ne j k x y hjk hx hy mx my
  · rcases getset hy with ⟨rfl, hy'⟩ | ⟨hj, hy⟩
    · cases hy'
    · exact hy
  · rcases getset hy with ⟨rfl, hy'⟩ | ⟨hj, hy⟩
    · cases hy'; cases my
    · exact ⟨_, hy, my, List.getElem?_set_ne hj⟩
  · rcases getset hy with ⟨rfl, hy'⟩ | ⟨hj, hy⟩
    · cases hy'
    · exact List.getElem?_set_ne hj
theorem Rp.putOwn (R : Rp K C F H e σ) {i : Nat} {ds : List D} {p : Addr} {vs : List V} (h : freeAt e i = true) (hp : H p = some (.lst vs)) (hd : DpAll K F vs ds) (hF : F p = none) (hM : ¬ C.M p) (ap : Apar K H e σ p) :
    Rp K C F H (e.set i (some (.own ds))) (σ.set i (some (.ref p))) := by
  have up : ∀ {j fp}, TrAt K H (e.set i (some (.own ds))) (σ.set i (some (.ref p))) j fp → TrAt K H e σ j fp ∧ j ≠ i := fun {j fp} h => by
    obtain ⟨b, t, v, F', he, hv, o⟩ := h
    rcases getset he with ⟨rfl, he'⟩ | ⟨hj, he⟩
    · cases he'
    · exact ⟨⟨b, t, v, F', he, by rwa [List.getElem?_set_ne hj] at hv, o⟩, Ne.symm hj⟩
  refine ⟨by rw [List.length_set, List.length_set]; exact R.len, R.ext, R.off, R.frm, fun j x hx => ?_, R.ml, fun j k x y hjk hx hy mx my => ?_, fun j fp h => ⟨fun a ha k y hy my hs => ?_, fun k fp' hk h' => (R.tn j fp (up h).1).2 k fp' hk (up h').1⟩, R.tup⟩
  · rcases getset hx with ⟨rfl, hx'⟩ | ⟨hj, hx⟩
    · cases hx'
      have : i < σ.length := by
        rw [← R.len]
        unfold freeAt at h
        split at h <;> first | (cases h; done) | skip
        rename_i hs; exact (List.getElem?_eq_some_iff.mp hs).1
      exact ⟨.ref p, by rw [List.getElem?_set_self this], p, vs, rfl, hp, hd, hF, hM⟩
    · obtain ⟨u, hu, z⟩ := R.sl j x hx
      exact ⟨u, by rw [List.getElem?_set_ne hj]; exact hu, z⟩
  · have lt : i < σ.length := by
        rw [← R.len]
        unfold freeAt at h
        split at h <;> first | (cases h; done) | skip
        rename_i hs; exact (List.getElem?_eq_some_iff.mp hs).1
    rcases getset hx with ⟨rfl, hx'⟩ | ⟨hj, hx⟩
    · rcases getset hy with ⟨rfl, hy'⟩ | ⟨hk, hy⟩
      · exact absurd rfl hjk
      · rw [List.getElem?_set_self lt, List.getElem?_set_ne hk]; exact fun z => ap.1 k y hy my z.symm
    · rcases getset hy with ⟨rfl, hy'⟩ | ⟨hk, hy⟩
      · rw [List.getElem?_set_self lt, List.getElem?_set_ne hj]; exact fun z => ap.1 j x hx mx z
      · rw [List.getElem?_set_ne hj, List.getElem?_set_ne hk]; exact R.ne j k x y hjk hx hy mx my
  · have lt : i < σ.length := by
        rw [← R.len]
        unfold freeAt at *
        split at * <;> first | (simp at *; done) | skip
        rename_i hs; exact (List.getElem?_eq_some_iff.mp hs).1
    rcases getset hy with ⟨rfl, hy'⟩ | ⟨hk, hy⟩
    · rw [List.getElem?_set_self lt] at hs
      cases hs
      exact ap.2 j fp (up h).1 ha
    · rw [List.getElem?_set_ne hk] at hs
      exact (R.tn j fp (up h).1).1 a ha k y hy my hs
theorem PostS.store {w : Wd} {D : Ends} {i : Nat} {r : Rv} {v : V} (R : Rp w.K C F H e σ) (q : RvR w.K C F H e σ r v) (P : PostS w C F D (store i r e)) : D.nx (σ.set i (some v)) H := by
  have fin : ∀ {F : Hp} {e : Env}, Rp w.K C F H e σ → ∀ d, Dp w.K F v d → PostS w C F D (if freeAt e i then .ok .nx (e.set i (some (.fz d))) else .no) → D.nx (σ.set i (some v)) H := fun R d q P => by
    split at P
    · rename_i hf
      exact P.nx' (R.put hf q)
    · exact P.elim
  cases r with
  | fresh ds =>
    unfold VI.store at P
    simp only at P
    obtain ⟨p, vs, rfl, hp, hd, hF, hM, ap⟩ := q
    split at P
    · rename_i hf
      exact P.nx' (R.putOwn hf hp hd hF hM ap)
    · exact P.elim
  | fz d => exact fin R d q P
  | bor j =>
    have h' : σ[j]? = some (some v) := q
    have P : PostS w C F D ((VI.frz (.bor j) e).bind fun d e1 => if freeAt e1 i then .ok .nx (e1.set i (some (.fz d))) else .no) := P
    unfold VI.frz at P
    simp only at P
    split at P
    · rename_i d' hd
      obtain ⟨u, hu, z⟩ := R.sl _ _ hd
      rw [h'] at hu; cases hu
      exact fin R d' z P
    · rename_i ds hd
      obtain ⟨F', u, R', E, hu, z⟩ := R.rest hd
      rw [h'] at hu; cases hu
      exact fin R' _ z (PostS.mono E P)
    · exact P.elim
structure Tg where
  run : D → Env → Option Env
  ix : List Nat
def rdG (w : Wd) (t : Tg) : TG := fun v σ H Q => ∃ C F e d e', Rp w.K C F H e σ ∧ Dp w.K F v d ∧ t.run d e = some e' ∧ ∀ σ', Rp w.K C F H e' σ' → (∀ vs, (∀ i ∈ t.ix, i ∈ vs) → wipe σ' vs = wipe σ vs) → Q σ' H
def tgV (i : Nat) : Tg := ⟨put i, [i]⟩
theorem wipe_set {i : Nat} {x : Option V} : ∀ {vs : List Nat} {σ : L2.St}, i ∈ vs → wipe (σ.set i x) vs = wipe σ vs := by
  intro vs
  induction vs with
  | nil => intro σ h; cases h
  | cons j vs ih =>
    intro σ h
    unfold wipe
    by_cases hj : i ∈ vs
    · rw [ih hj]
    · have e : i = j := by rcases List.mem_cons.mp h with z | z; exact z; exact absurd z hj
      subst e
      have : ∀ (vs : List Nat) (σ : L2.St), i ∉ vs → wipe (σ.set i x) vs = (wipe σ vs).set i x := by
        intro vs
        induction vs with
        | nil => intro σ _; rfl
        | cons j vs ih2 =>
          intro σ h2
          unfold wipe
          have hij : i ≠ j := fun z => h2 (z ▸ List.mem_cons_self)
          by_cases q : i ∈ vs
          · exact absurd (List.mem_cons_of_mem _ q) h2
          · rw [ih2 σ q, List.set_comm _ _ hij]
      rw [this vs σ hj, List.set_set]
theorem rd_tgV {w : Wd} {i : Nat} {v : V} {Q : L2.St → Hp → Prop} (h : rdG w (tgV i) v σ H Q) : gName i v σ H Q := by
  obtain ⟨C, F, e, d, e', R, q, hr, k⟩ := h
  have hr : put i d e = some e' := hr
  unfold put at hr
  split at hr
  · rename_i hf
    cases hr
    exact k _ (R.put hf q) fun vs hv => wipe_set (hv i (by simp [tgV]))
  · cases hr
def tgRun : List Tg → List D → Env → Option Env
  | [], [], e => some e
  | t :: ts, d :: ds, e => (t.run d e).bind fun e1 => tgRun ts ds e1
  | _, _, _ => none
def tgL (ts : List Tg) : List D → Env → Option Env := tgRun ts
def tgT (ts : List Tg) : Tg := ⟨fun d e => match d with | .tuple ds => tgRun ts ds e | .list ds => tgRun ts ds e | _ => none, ts.flatMap (·.ix)⟩
def rdGs (w : Wd) (ts : List Tg) : TGs := fun vs σ H Q => ∃ C F e ds e', Rp w.K C F H e σ ∧ DpAll w.K F vs ds ∧ tgRun ts ds e = some e' ∧ ∀ σ', Rp w.K C F H e' σ' → (∀ vs, (∀ i ∈ ts.flatMap (·.ix), i ∈ vs) → wipe σ' vs = wipe σ vs) → Q σ' H
theorem rd_tgs_nil {w : Wd} {vs : List V} {Q : L2.St → Hp → Prop} (h : rdGs w [] vs σ H Q) : gNil vs σ H Q := by
  obtain ⟨C, F, e, ds, e', R, q, hr, k⟩ := h
  cases ds with
  | nil => cases q; cases hr; exact ⟨rfl, k σ R fun _ _ => rfl⟩
  | cons d ds => cases hr
theorem rd_tgs_cons {w : Wd} {t : Tg} {ts : List Tg} {vs : List V} {Q : L2.St → Hp → Prop} (h : rdGs w (t :: ts) vs σ H Q) : gCons (rdG w t) (rdGs w ts) vs σ H Q := by
  obtain ⟨C, F, e, ds, e', R, q, hr, k⟩ := h
  cases ds with
  | nil => cases hr
  | cons d ds =>
    cases q with
    | cons q1 q2 =>
      obtain ⟨e1, h1, h2⟩ := Option.bind_eq_some_iff.mp hr
      refine ⟨_, _, rfl, C, F, e, d, e1, R, q1, h1, fun σ1 R1 w1 => ⟨C, F, e1, ds, e', R1, q2, h2, fun σ2 R2 w2 => k σ2 R2 fun vs hv => ?_⟩⟩
      rw [w2 vs fun i hi => hv i (by simp only [List.flatMap_cons, List.mem_append]; exact .inr hi), w1 vs fun i hi => hv i (by simp only [List.flatMap_cons, List.mem_append]; exact .inl hi)]
theorem tgRun_len : ∀ {ts : List Tg} {ds : List D} {e e' : Env}, tgRun ts ds e = some e' → ds.length = ts.length
  | [], [], _, _, _ => rfl
  | t :: ts, d :: ds, e, e', h => by
    obtain ⟨e1, _, h2⟩ := Option.bind_eq_some_iff.mp h
    rw [List.length_cons, List.length_cons, tgRun_len h2]
  | [], _ :: _, _, _, h => by cases h
  | _ :: _, [], _, _, h => by cases h
theorem rd_tgT {w : Wd} {ts : List Tg} {v : V} {Q : L2.St → Hp → Prop} (h : rdG w (tgT ts) v σ H Q) : gTup w.K ts.length (rdGs w ts) v σ H Q ∨ gLst w.K ts.length (rdGs w ts) v σ H Q := by
  obtain ⟨C, F, e, d, e', R, q, hr, k⟩ := h
  cases q with
  | tup hs hd =>
    have hr : tgRun ts _ e = some e' := hr
    exact .inl ⟨_, _, rfl, ext_t R.ext hs, by rw [hd.length]; exact tgRun_len hr, C, F, e, _, e', R, hd, hr, k⟩
  | lst hs hd =>
    have hr : tgRun ts _ e = some e' := hr
    exact .inr ⟨_, _, rfl, .inl (ext_rd R.ext hs), by rw [hd.length]; exact tgRun_len hr, C, F, e, _, e', R, hd, hr, k⟩
  | _ => cases hr
section
variable {X : Cx} {w : Wd} {tg : Expr} {es : List Expr} {t : Tg} {ts : List Tg} {pos : Pos} {x : Str}
theorem pg_mono {t t' : TG} (h : PG X tg t) (w : ∀ v σ H Q, t' v σ H Q → t v σ H Q) : PG X tg t' := ⟨fun pins s σ H v u Q I r q => h.run pins s σ H v u Q I r (w v σ H Q q)⟩
theorem pgs_mono {t t' : TGs} (h : PGs X es t) (w : ∀ v σ H Q, t' v σ H Q → t v σ H Q) : PGs X es t' := ⟨fun pins s σ H v u Q I r q => h.run pins s σ H v u Q I r (w v σ H Q q)⟩
theorem pg_or {t t' : TG} (h : PG X tg t) (h' : PG X tg t') : PG X tg (fun v σ H Q => t v σ H Q ∨ t' v σ H Q) := ⟨fun pins s σ H v u Q I r q => q.elim (h.run pins s σ H v u Q I r) (h'.run pins s σ H v u Q I r)⟩
theorem vg_name {i : Nat} (hN : X.N.Nodup) (hi : X.N[i]? = some x) (hx : Loc X.env.scope x) (hf : X.fn x = true ∨ X.env.scope.names.lookup x = some .local := by first | exact .inl rfl | exact .inr rfl | assumption) : PG X (.Name x pos) (rdG w (tgV i)) :=
  pg_mono (pg_name hN hi hx hf) fun _ _ _ _ h => rd_tgV h
theorem vgs_nil : PGs X [] (rdGs w []) := pgs_mono pgs_nil fun _ _ _ _ h => rd_tgs_nil h
end
end VI
set_option Elab.async false
set_option linter.all false
set_option maxRecDepth 100000
set_option maxHeartbeats 4000000
namespace VI
open PySem PySem.Spec PyProof.Rows L2
variable {K : PySem.W.Frag} {C : Cf} {F H : Hp} {e e' : Env} {σ : L2.St}
section
variable {X : Cx} {w : Wd} {tg : Expr} {es : List Expr} {t : Tg} {ts : List Tg} {pos : Pos} {x : Str}
theorem vgs_cons (h1 : PG X tg (rdG w t)) (h2 : PGs X es (rdGs w ts)) (hs : (assignEach (tg :: es) X.env).map (·.2) = assign tg X.env :: (assignEach es X.env).map (·.2) := by rfl) : PGs X (tg :: es) (rdGs w (t :: ts)) :=
  pgs_mono (pgs_cons h1 h2 hs) fun _ _ _ _ h => rd_tgs_cons h
/-- a, b = a tuple or a list -/
theorem vg_tup {W : WX} {XR : Hp → Hp → Xc → Value → Option Addr → Prop} {k : Nat} (hc : X.calm = true) (h : PGs X es (rdGs (wd X W XR) ts)) (hn : (assignEach es X.env).length = ts.length := by rfl) (hst : (assignEach es X.env).findIdx? (·.1) = none := by rfl) :
    PG X (.Tuple es k pos) (rdG (wd X W XR) (tgT ts)) := pg_mono (pg_or (pg_tup hc h hn hst) (pg_lst hc h hn hst)) fun _ _ _ _ h => rd_tgT h
end
def skipS : St1 := fun e => .ok .nx e
def seqS (a b : St1) : St1 := fun e => (a e).bind fun f e1 => match f with
  | .nx => b e1
  | f => .ok f e1
def block : List St1 → St1
  | [] => skipS
  | [a] => a
  | a :: as => seqS a (block as)
section
variable {w : Wd} {D : Ends} {a b : St1}
theorem rd_skip (h : rdS w skipS D σ H) : tNext D σ H := by
  obtain ⟨C, F, e, R, P⟩ := h
  exact P.nx' R
theorem rd_seq (h : rdS w (seqS a b) D σ H) : tSeq (rdS w a) (rdS w b) D σ H := by
  obtain ⟨C, F, e, R, P⟩ := h
  refine ⟨C, F, e, R, ?_⟩
  unfold seqS at P
  cases h1 : a e with
  | no => rw [h1] at P; exact P
  | ok f e1 =>
    rw [h1] at P
    cases f with
    | nx => exact fun F' H' σ' R' E => ⟨C, F', e1, R', PostS.mono E P⟩
    | bk => exact P
    | ct => exact P
    | ret r => exact P
  | ex x e1 => rw [h1] at P; exact P
end
section
variable {X : Cx} {w : Wd} {st : Stmt} {rest : List Stmt} {a b : St1} {as : List St1}
theorem vss_nil : PSs X [] (rdS w (block [])) := pss_mono pss_nil fun _ _ _ h => rd_skip h
theorem vss_one (h : PS X st (rdS w a)) : PSs X [st] (rdS w (block [a])) := pss_one h
theorem vss_cons (h1 : PS X st (rdS w a)) (h2 : PSs X rest (rdS w (block (b :: as)))) : PSs X (st :: rest) (rdS w (block (a :: b :: as))) := pss_mono (pss_cons h1 h2) fun _ _ _ h => rd_seq h
end
def asgS (i : Nat) (a : Ev) : St1 := fun e => (a e).bind fun r e1 => store i r e1
def asgTS (t : Tg) (a : Ev) : St1 := fun e => (toD a e).bind fun d e1 => match t.run d e1 with
  | some e2 => .ok .nx e2
  | none => .no
def putR (i : Nat) (r : Rv) (e : Env) : Rs Fl := match r with
  | .fz d' => if freeAt e i then .ok .nx (e.set i (some (.fz d'))) else .no
  | _ => .no
def augS (f : F2) (i : Nat) (a : Ev) : St1 := fun e => match e[i]? with
  | some (some (.fz d)) => (opd a e).bind fun y e1 => match e1[i]? with
    | some (some (.fz _)) => (ofO ((peek y e1).bind fun dy => f d dy) e1).bind fun r e2 => putR i r e2
    | _ => .no
  | _ => .no
def exprS (a : Ev) : St1 := fun e => (a e).bind fun _ e1 => .ok .nx e1
def retS (a : Ev) : St1 := fun e => (a e).bind fun r e1 => match r with
  | .fz d => .ok (.ret (.fz d)) e1
  | .fresh ds => .ok (.ret (.fresh ds)) e1
  | .bor i => match e1[i]? with
    | some (some (.own ds)) => .ok (.ret (.fresh ds)) (e1.set i none)
    | some (some (.fz d)) => .ok (.ret (.fz d)) e1
    | _ => .no
def retN : St1 := fun e => .ok (.ret (.fz .none)) e
def bkS : St1 := fun e => .ok .bk e
def ctS : St1 := fun e => .ok .ct e
def noS : St1 := fun _ => .no
def ifS (c : Sem1 Bool) (a b : St1) : St1 := fun e => (c e).bind fun k e1 => if k then a e1 else b e1
section
variable {w : Wd} {D : Ends} {a : Ev} {i : Nat} {c : Sem1 Bool} {s1 s2 : St1}
theorem rd_asg (h : rdS w (asgS i a) D σ H) : tAsg (rdR w a) (gName i) D σ H := by
  obtain ⟨C, F, e, R, P⟩ := h
  exact bindS R P fun F1 H1 e1 x v h1 R1 E1 q1 P1 => P1.store R1 q1
theorem rd_asgT {t : Tg} (h : rdS w (asgTS t a) D σ H) : tAsg (rdR w a) (rdG w t) D σ H := by
  obtain ⟨C, F, e, R, P⟩ := h
  refine rd_toD (bindS R P fun F1 H1 e1 d v h1 R1 E1 q1 P1 => ?_)
  split at P1
  · rename_i e2 h2
    exact ⟨C, F1, e1, d, e2, R1, q1, h2, fun σ' R' _ => P1.nx' R'⟩
  · exact P1.elim
theorem rd_expr (h : rdS w (exprS a) D σ H) : tDrop (rdR w a) D σ H := by
  obtain ⟨C, F, e, R, P⟩ := h
  exact bindS R P fun F1 H1 e1 x v h1 R1 E1 q1 P1 => P1.nx' R1
theorem Rp.forget (R : Rp K C F H e σ) (i : Nat) : Rp K C F H (e.set i none) σ := by
  have low : ∀ {j : Nat} {y : Sv}, (e.set i none)[j]? = some (some y) → e[j]? = some (some y) := fun {j y} h => by
    rcases getset h with ⟨rfl, h'⟩ | ⟨hj, h⟩
    · cases h'
    · exact h
  refine ⟨by rw [List.length_set]; exact R.len, R.ext, R.off, R.frm, fun j x hx => ?_, R.ml, fun j k x y hjk hx hy mx my => ?_, tn_sub R.tn (fun j y hy => low hy) (fun j y hy my => ⟨y, low hy, my, rfl⟩), R.tup⟩
  · exact R.sl j x (low hx)
  · exact R.ne j k x y hjk (low hx) (low hy) mx my
theorem rd_ret (h : rdS w (retS a) D σ H) : tRet (rdR w a) D σ H := by
  obtain ⟨C, F, e, R, P⟩ := h
  refine bindS R P fun F1 H1 e1 x v h1 R1 E1 q1 P1 => ?_
  cases x with
  | fz d => exact P1 v F1 H1 σ R1 (.refl F1) q1 (.inr ⟨d, rfl⟩)
  | fresh ds => exact P1 v F1 H1 σ R1 (.refl F1) q1 (.inl rfl)
  | bor i =>
    have h' : σ[i]? = some (some v) := q1
    simp only at P1
    split at P1
    · rename_i ds hd
      obtain ⟨u, hu, p, vs, rfl, hp, hds, hF, hM⟩ := R1.sl _ _ hd
      rw [h'] at hu; cases hu
      refine P1 _ F1 H1 σ (R1.forget i) (.refl F1) ⟨p, vs, rfl, hp, hds, hF, hM, fun j y hy my hs => ?_, fun j fp ht hq => ?_⟩ (.inl rfl)
      · rcases getset hy with ⟨rfl, hy'⟩ | ⟨hj, hy⟩
        · cases hy'
        · exact R1.ne i j _ _ hj hd hy rfl my (by rw [h', hs])
      · obtain ⟨b, t, v, F', he, hv, o⟩ := ht
        rcases getset he with ⟨rfl, he'⟩ | ⟨hj, he⟩
        · cases he'
        · exact (R1.tn j fp ⟨b, t, v, F', he, hv, o⟩).1 p hq i _ hd rfl h'
    · rename_i d hd
      obtain ⟨u, hu, z⟩ := R1.sl _ _ hd
      rw [h'] at hu; cases hu
      exact P1 v F1 H1 σ R1 (.refl F1) z (.inr ⟨d, rfl⟩)
    · exact P1.elim
theorem rd_retN (h : rdS w retN D σ H) : tRetN D σ H := by
  obtain ⟨C, F, e, R, P⟩ := h
  exact P .non F H σ R (.refl F) .non (.inr ⟨_, rfl⟩)
theorem rd_if (h : rdS w (ifS c s1 s2) D σ H) : tIfS (rdT w c) (rdS w s1) (rdS w s2) D σ H := by
  obtain ⟨C, F, e, R, P⟩ := h
  refine bindS R P fun F1 H1 e1 x v h1 R1 E1 q1 P1 => ?_
  cases q1
  cases x with
  | true => exact iteT ⟨C, F1, e1, R1, P1⟩
  | false => exact iteF ⟨C, F1, e1, R1, P1⟩
/-- x op= e, by values -/
theorem rd_aug {f : F2} {r : R2} (hs : OpS w.K f r) (h : rdS w (augS f i a) D σ H) : tAug i (rdR w a) (fun x y H Q => r x y H Q) D σ H := by
  obtain ⟨C, F, e, R, P⟩ := h
  unfold augS at P
  split at P
  · rename_i d hd
    obtain ⟨v, hv, q⟩ := R.sl _ _ hd
    refine ⟨v, hv, rd_opd (bindS R P fun F1 H1 e1 y u h1 R1 E1 q1 P1 => ?_)⟩
    split at P1
    · cases hz : (peek y e1).bind fun dy => f d dy with
      | none => rw [hz] at P1; exact P1.elim
      | some z =>
        rw [hz] at P1
        obtain ⟨dy, hy, hf⟩ := Option.bind_eq_some_iff.mp hz
        refine hs F1 H1 v u d dy z R1.ext (Dp.dh R1.ext (Dp.ext E1 (show Dp w.K F v d from q))) (RvR.peek R1 (opd_still h1) q1 hy) hf _ fun v' H' q' => ?_
        obtain ⟨F2, R2, E2, q2⟩ := q'.rp R1
        have P2 : PostS w C F1 D (putR i z e1) := P1
        cases z with
        | fz d' =>
          unfold putR at P2
          simp only at P2
          split at P2
          · rename_i hf
            exact P2 F2 H' _ (R2.put hf q2) E2
          · exact P2.elim
        | fresh ds => exact P2.elim
        | bor j => exact P2.elim
    · exact P1.elim
  · exact P.elim
end
section
variable {X : Cx} {w : Wd} {ex c : Expr} {st : Stmt} {ss tt : List Stmt} {a : Ev} {s1 s2 : St1} {tc : Sem1 Bool} {t : Tg} {tg : Expr} {pos pos' : Pos} {x : Str} {i : Nat}
theorem vs_asg (hN : X.N.Nodup) (hi : X.N[i]? = some x) (hx : Loc X.env.scope x) (he : PE X ex (rdR w a)) (hs : swapsWith ex (some (.Name x pos')) pos.line X.env = pure false := by rfl) (hf : X.fn x = true ∨ X.env.scope.names.lookup x = some .local := by first | exact .inl rfl | exact .inr rfl | assumption) :
    PS X (.Assign [.Name x pos'] ex pos) (rdS w (asgS i a)) := ps_mono (ps_set hN hi hx he hs hf) fun _ _ _ h => rd_asg h
theorem vs_asgT (he : PE X ex (rdR w a)) (hg : PG X tg (rdG w t)) (hs : swapsWithSole [tg] ex pos.line X.env = pure false := by rfl) (hw : swappedStores [tg] ex X.env = pure none := by rfl) (h1 : (assignEach [tg] X.env).map (·.2) = [assign tg X.env] := by rfl) : PS X (.Assign [tg] ex pos) (rdS w (asgTS t a)) :=
  ps_mono (ps_asg he hg hs hw h1) fun _ _ _ h => rd_asgT h
theorem vs_expr (he : PE X ex (rdR w a)) (hs : swapsWith ex none pos.line X.env = pure false := by rfl) : PS X (.Expr ex pos) (rdS w (exprS a)) := ps_mono (ps_expr he hs) fun _ _ _ h => rd_expr h
theorem vs_ret (he : PE X ex (rdR w a)) : PS X (.Return (some ex) pos) (rdS w (retS a)) := ps_mono (ps_ret he) fun _ _ _ h => rd_ret h
theorem vs_retN : PS X (.Return none pos) (rdS w retN) := ps_mono ps_retN fun _ _ _ h => rd_retN h
theorem vs_pass : PS X (.Pass pos) (rdS w skipS) := ps_mono ps_pass fun _ _ _ h => rd_skip h
theorem vs_break : PS X (.Break pos) (rdS w bkS) := ps_mono ps_break fun _ σ H h => by
  obtain ⟨C, F, e, R, P⟩ := h
  exact P F H σ R (.refl F)
theorem vs_cont : PS X (.Continue pos) (rdS w ctS) := ps_mono ps_continue fun _ σ H h => by
  obtain ⟨C, F, e, R, P⟩ := h
  exact P F H σ R (.refl F)
theorem vs_no : PS X st (rdS w noS) := ps_mono ps_never fun _ σ H h => by
  obtain ⟨C, F, e, R, P⟩ := h
  exact P
theorem vs_if (hc : PT X c (rdT w tc)) (h1 : PSs X ss (rdS w s1)) (h2 : PSs X tt (rdS w s2)) : PS X (.If c ss tt pos) (rdS w (ifS tc s1 s2)) := ps_mono (ps_if hc h1 h2) fun _ _ _ h => rd_if h
theorem vs_aug {op : Operator} {f : F2} {r : R2} (hN : X.N.Nodup) (hi : X.N[i]? = some x) (hx : Loc X.env.scope x) (he : PE X ex (rdR w a)) (ho : PIp X op (fun x y H Q => r x y H Q)) (hs : OpS w.K f r) (hf : X.fn x = true ∨ X.env.scope.names.lookup x = some .local := by first | exact .inl rfl | exact .inr rfl | assumption) :
    PS X (.AugAssign (.Name x pos') op ex pos) (rdS w (augS f i a)) := ps_mono (ps_aug hN hi hx he ho hf) fun _ _ _ h => rd_aug hs h
end
def whS (c : Sem1 Bool) (b : St1) : Nat → St1
  | 0 => fun _ => .no
  | n + 1 => fun e => (c e).bind fun k e1 => if k then (b e1).bind fun f e2 => match f with
    | .nx => whS c b n e2
    | .ct => whS c b n e2
    | .bk => .ok .nx e2
    | .ret r => .ok (.ret r) e2
    else .ok .nx e1
theorem rd_while {w : Wd} {D : Ends} {c : Sem1 Bool} {b : St1} {n : Nat} (h : rdS w (whS c b n) D σ H) : tWhile (rdT w c) (rdS w b) D σ H := by
  obtain ⟨C, F, e, R, P⟩ := h
  refine ⟨fun m σ' H' => ∃ F' e', Rp w.K C F' H' e' σ' ∧ Ext F F' ∧ PostS w C F' D (whS c b m e'), ⟨n, F, e, R, .refl F, P⟩, ?_⟩
  rintro m σ1 H1 ⟨F1, e1, R1, E1, P1⟩
  cases m with
  | zero => exact P1.elim
  | succ m =>
    unfold whS at P1
    refine bindS R1 P1 fun F2 H2 e2 k k' h2 R2 E2 q2 P2 => ?_
    cases q2
    cases k with
    | false => exact iteF (P2.nx' R2)
    | true =>
      refine iteT ⟨fun σ' H' => ∃ F' e', Rp w.K C F' H' e' σ' ∧ Ext F F' ∧ PostS w C F' D (whS c b m e'), fun σ' H' ⟨F', e', R', E', P'⟩ => ⟨m, Nat.lt_succ_self m, F', e', R', E', P'⟩, C, F2, e2, R2, ?_⟩
      have E02 : Ext F F2 := E1.trans E2
      cases h3 : b e2 with
      | no => rw [h3] at P2; exact P2
      | ex x e3 => rw [h3] at P2; exact P2
      | ok f e3 =>
        rw [h3] at P2
        cases f with
        | nx => exact fun F' H' σ' R' E' => ⟨F', e3, R', E02.trans E', PostS.mono E' P2⟩
        | ct => exact fun F' H' σ' R' E' => ⟨F', e3, R', E02.trans E', PostS.mono E' P2⟩
        | bk => exact P2
        | ret r => exact P2
theorem vs_while {X : Cx} {w : Wd} {c : Expr} {body : List Stmt} {tc : Sem1 Bool} {b : St1} {n : Nat} {pos : Pos} (hp : PassesOwn (model X.prog X.w) X.A X.env X.xe) (hc : PT X c (rdT w tc)) (hb : PSs X body (rdS w b)) : PS X (.While c body [] pos) (rdS w (whS tc b n)) :=
  ps_mono (ps_while hp hc hb) fun _ _ _ h => rd_while h
structure Src where
  items : List D
  lend : List Nat
def unlend : List Nat → Env → Env
  | [], e => e
  | i :: is, e => match e[i]? with
    | some (some (.lent ds)) => unlend is (e.set i (some (.own ds)))
    | _ => unlend is e
/-- the iterator J gives these items, whatever happens to what is free -/
structure ItOk (K : PySem.W.Frag) (C : Cf) (F : Hp) (J : It) (items : List D) : Prop where
  ex : ∃ (Gd : Hp → Prop) (Y : Nat → Hp → V → Hp → Prop), Walk J items.length Gd Y ∧ (∀ F2 H2 e2 σ2, Rp K C F2 H2 e2 σ2 → Ext F F2 → Gd H2) ∧
    ∀ i x H1 H2 F1, Ext F F1 → Ext F1 H1 → TupIn F1 H1 → Y i H1 x H2 → i < items.length → ∃ d, items[i]? = some d ∧ Res K F1 H1 (.fz d) x H2
/-- what was lent comes back -/
structure Back (K : PySem.W.Frag) (C C' : Cf) (l : List Nat) : Prop where
  rp : ∀ F2 H2 e2 σ2, Rp K C' F2 H2 e2 σ2 → Rp K C F2 H2 (unlend l e2) σ2
  rv : ∀ F2 H2 e2 σ2 ds v, Rp K C' F2 H2 e2 σ2 → RvR K C' F2 H2 e2 σ2 (.fresh ds) v → RvR K C F2 H2 (unlend l e2) σ2 (.fresh ds) v
def PostI (w : Wd) (C : Cf) (F : Hp) (σ : L2.St) (Rr : It → Hp → Prop) : Rs Src → Prop
  | .no => False
  | .ok s e1 => ∀ (C' : Cf) J F' H', Rp w.K C' F' H' e1 σ → Ext F F' → Back w.K C C' s.lend → ItOk w.K C' F' J s.items → Rr J H'
  | .ex x e' => ∀ F' H' cv od, Rp w.K C F' H' e' σ → Ext F F' → w.XR F' H' x cv od → w.W cv od σ H'
def rdI (w : Wd) (it : Sem1 Src) : TI := fun σ H Rr => ∃ C F e, Rp w.K C F H e σ ∧ PostI w C F σ Rr (it e)
theorem PostI.mono {w : Wd} {F1 : Hp} {Rr : It → Hp → Prop} (E : Ext F F1) {r : Rs Src} (h : PostI w C F σ Rr r) : PostI w C F1 σ Rr r := by
  cases r with
  | no => exact h
  | ok a e' => exact fun C' J F' H' R E' => h C' J F' H' R (E.trans E')
  | ex x e' => exact fun F' H' cv od R E' q => h F' H' cv od R (E.trans E') q
theorem bindI {w : Wd} {α β : Type} {RA : Cf → Hp → Hp → Env → L2.St → α → β → Prop} {Q1 : β → Hp → Prop} {Rr : It → Hp → Prop} {a : Sem1 α} {f : α → Env → Rs Src} (R : Rp w.K C F H e σ) (P : PostI w C F σ Rr ((a e).bind f))
    (k : ∀ F1 H1 e1 x v, a e = .ok x e1 → Rp w.K C F1 H1 e1 σ → Ext F F1 → RA C F1 H1 e1 σ x v → PostI w C F1 σ Rr (f x e1) → Q1 v H1) : Rd w RA a σ H Q1 := by
  refine ⟨C, F, e, R, ?_⟩
  cases h1 : a e with
  | no => rw [h1] at P; exact False.elim P
  | ok x e1 =>
    rw [h1] at P
    exact fun v F' H' R' E q => k F' H' e1 x v h1 R' E q (PostI.mono E P)
  | ex x e1 => rw [h1] at P; exact fun F' H' cv od R E q => P F' H' cv od R E q
def Rs.fin {α : Type} (f : Env → Env) : Rs α → Rs α
  | .no => .no
  | .ok a e => .ok a (f e)
  | .ex x e => .ex x (f e)
/-- the turns of a loop over these items -/
def turns (t : Tg) (b : St1) : List D → St1
  | [] => fun e => .ok .nx e
  | d :: ds => fun e => match t.run d e with
    | none => .no
    | some e1 => (b e1).bind fun f e2 => match f with
      | .nx => turns t b ds e2
      | .ct => turns t b ds e2
      | .bk => .ok .nx e2
      | .ret r => .ok (.ret r) e2
def forS (it : Sem1 Src) (t : Tg) (b : St1) : St1 := fun e => (it e).bind fun s e1 => (turns t b s.items e1).fin (unlend s.lend)
theorem rd_for {w : Wd} {D : Ends} {it : Sem1 Src} {t : Tg} {b : St1} (h : rdS w (forS it t b) D σ H) : tFor (rdI w it) (rdG w t) (rdS w b) D σ H := by
  obtain ⟨C, F, e, R, P⟩ := h
  refine ⟨C, F, e, R, ?_⟩
  unfold forS at P
  cases h1 : it e with
  | no => rw [h1] at P; exact P
  | ex x e1 => rw [h1] at P; exact fun F' H' cv od R E q => P F' H' σ cv od R E q
  | ok s e1 =>
    rw [h1] at P
    intro C' J F' H' R' E back ok
    obtain ⟨Gd, Y, wk, hGd, hY⟩ := ok.ex
    have P : PostS w C F' D ((turns t b s.items e1).fin (unlend s.lend)) := PostS.mono E P
    refine for_it wk (fun i σ1 H1 => ∃ F1 e2, Rp w.K C' F1 H1 e2 σ1 ∧ Ext F' F1 ∧ PostS w C F1 D ((turns t b (s.items.drop i) e2).fin (unlend s.lend))) ⟨F', e1, R', .refl F', P⟩ (fun i σ1 H1 _ ⟨F1, e2, R1, E1, _⟩ => hGd F1 H1 e2 σ1 R1 E1) ?_ ?_
    · rintro i x σ1 H1 H2 hi ⟨F1, e2, R1, E1, P1⟩ y
      obtain ⟨d, hd, res⟩ := hY i x H1 H2 F1 E1 R1.ext R1.tup y hi
      obtain ⟨F2, R2, E2, q2⟩ := res.rp R1
      have hdrop : s.items.drop i = d :: s.items.drop (i + 1) := by
        rw [← List.getElem_cons_drop (h := hi)]
        rw [List.getElem?_eq_getElem hi] at hd
        rw [Option.some.inj hd]
      rw [hdrop] at P1
      unfold turns at P1
      cases h2 : t.run d e2 with
      | none => rw [h2] at P1; exact P1.elim
      | some e3 =>
        rw [h2] at P1
        refine ⟨C', F2, e2, d, e3, R2, q2, h2, fun σ2 R3 _ => ⟨C', F2, e3, R3, ?_⟩⟩
        have E02 : Ext F' F2 := E1.trans E2
        have P1 : PostS w C F2 D (((b e3).bind fun f e2 => match f with | .nx => turns t b (s.items.drop (i + 1)) e2 | .ct => turns t b (s.items.drop (i + 1)) e2 | .bk => .ok .nx e2 | .ret r => .ok (.ret r) e2).fin (unlend s.lend)) := PostS.mono E2 P1
        cases h3 : b e3 with
        | no => rw [h3] at P1; exact P1
        | ex x e4 => rw [h3] at P1; exact fun F' H' σ' cv od R E q => P1 F' H' σ' cv od (back.rp _ _ _ _ R) E q
        | ok f e4 =>
          rw [h3] at P1
          cases f with
          | nx => exact fun F3 H3 σ3 R4 E3 => ⟨F3, e4, R4, E02.trans E3, PostS.mono E3 P1⟩
          | ct => exact fun F3 H3 σ3 R4 E3 => ⟨F3, e4, R4, E02.trans E3, PostS.mono E3 P1⟩
          | bk => exact fun F3 H3 σ3 R4 E3 => P1 F3 H3 σ3 (back.rp _ _ _ _ R4) E3
          | ret r =>
            intro v F3 H3 σ3 R4 E3 q hr
            refine P1 v F3 H3 σ3 (back.rp _ _ _ _ R4) E3 ?_ hr
            cases r with
            | fz d => exact q
            | fresh ds => exact back.rv _ _ _ _ ds v R4 q
            | bor j => rcases hr with hr | ⟨_, hr⟩ <;> cases hr
    · rintro σ1 H1 ⟨F1, e2, R1, E1, P1⟩
      rw [List.drop_length] at P1
      exact P1 F1 H1 σ1 (back.rp _ _ _ _ R1) (.refl F1)
theorem vs_for {X : Cx} {w : Wd} {tg iter : Expr} {body : List Stmt} {it : Sem1 Src} {t : Tg} {b : St1} {pos : Pos} (hp : PassesOwn (model X.prog X.w) X.A X.env X.xe) (hc : X.calm = true) (hi : PI X tg iter (rdI w it)) (hg : PG X tg (rdG w t)) (hb : PSs X body (rdS w b))
    (hs : ∀ x, foldedSetIterable iter X.env x = pure x := by intro _; rfl) : PS X (.For tg iter body [] pos) (rdS w (forS it t b)) := ps_mono (ps_for hp hc hi hg hb hs) fun _ _ _ h => rd_for h
def srcR (r : Rv) (e : Env) : Rs Src := match r with
  | .fz (.list ds) => .ok ⟨ds, []⟩ e
  | .fz (.tuple ds) => .ok ⟨ds, []⟩ e
  | .bor i => match e[i]? with
    | some (some (.fz (.list ds))) => .ok ⟨ds, []⟩ e
    | some (some (.fz (.tuple ds))) => .ok ⟨ds, []⟩ e
    | some (some (.lent ds)) => .ok ⟨ds, []⟩ e
    | some (some (.own ds)) => .ok ⟨ds, [i]⟩ (e.set i (some (.lent ds)))
    | _ => .no
  | _ => .no
def srcE (a : Ev) : Sem1 Src := fun e => (opd a e).bind srcR
theorem back_nil : Back K C C [] := ⟨fun _ _ _ _ R => R, fun _ _ _ _ _ _ _ q => q⟩
/-- a list or a tuple that stands still, walked as it is -/
theorem itOk_list {F : Hp} {a : Addr} {xs : List V} {ds : List D} (hd : DpAll K F xs ds) (hs : ∀ F2 H2 e2 σ2, Rp K C F2 H2 e2 σ2 → Ext F F2 → SqL K H2 a xs) : ItOk K C F (Itl K a) ds := by
  refine ⟨fun H => SqL K H a xs, YAt xs, by rw [← hd.length]; exact walk_list, hs, fun i x H1 H2 F1 E _ _ y hi => ?_⟩
  obtain ⟨rfl, hx⟩ := y
  obtain ⟨d, h1, h2⟩ := hd.get' hx
  exact ⟨d, h1, .old (Dp.ext E h2)⟩
theorem itOk_tup {F : Hp} {a : Addr} {xs : List V} {ds : List D} (hd : DpAll K F xs ds) (hs : ∀ F2 H2 e2 σ2, Rp K C F2 H2 e2 σ2 → Ext F F2 → SqT K H2 a xs) : ItOk K C F (Itt K a) ds := by
  refine ⟨fun H => SqT K H a xs, YAt xs, by rw [← hd.length]; exact walk_tup, hs, fun i x H1 H2 F1 E _ _ y hi => ?_⟩
  obtain ⟨rfl, hx⟩ := y
  obtain ⟨d, h1, h2⟩ := hd.get' hx
  exact ⟨d, h1, .old (Dp.ext E h2)⟩
/-- the cfg in which i's list is lent -/
def Cf.lendC (C : Cf) (H : Hp) (i : Nat) (p : Addr) : Cf := ⟨fun a => C.M a ∨ a = p, H, fun j => if j = i then p else C.lam j, fun j => C.Ml j ∨ j = i⟩
theorem Rp.lend (R : Rp K C F H e σ) {i : Nat} {ds : List D} {p : Addr} {vs : List V} (he : e[i]? = some (some (.own ds))) (hv : σ[i]? = some (some (.ref p))) (hp : H p = some (.lst vs)) (hd : DpAll K F vs ds) (hF : F p = none) (hM : ¬ C.M p) :
    Rp K (C.lendC H i p) F H (e.set i (some (.lent ds))) σ ∧ Back K C (C.lendC H i p) [i] := by
  have ne : ∀ j y, j ≠ i → e[j]? = some (some y) → y.mu = true → σ[j]? ≠ some (some (.ref p)) := fun j y hj hy my z => R.ne i j _ _ (Ne.symm hj) he hy rfl my (by rw [hv, z])
  have lowT : ∀ {j : Nat} {y : Bool × OT}, (e.set i (some (.lent ds)))[j]? = some (some (Sv.tr y.1 y.2)) → e[j]? = some (some (Sv.tr y.1 y.2)) := fun {j y} h => by
    rcases getset h with ⟨rfl, h'⟩ | ⟨hj, h⟩
    · cases h'
    · exact h
  refine ⟨⟨by rw [List.length_set]; exact R.len, R.ext, fun a ha => ?_, fun a ha => ⟨rfl, ?_⟩, fun j x hx => ?_, fun j hj => ?_, fun j k x y hjk hx hy mx my => ?_, tn_sub R.tn (fun j y hy => lowT hy) (fun j y hy my => ?_), R.tup⟩, ⟨fun F2 H2 e2 σ2 R2 => ?_, fun F2 H2 e2 σ2 ds v R2 q => ?_⟩⟩
  · rcases ha with ha | rfl
    · exact R.off a ha
    · exact hF
  · rcases ha with ha | rfl
    · show H a ≠ none; rw [(R.frm a ha).1]; exact (R.frm a ha).2
    · show H a ≠ none; rw [hp]; exact fun z => by cases z
  · rcases getset hx with ⟨rfl, hx'⟩ | ⟨hj, hx⟩
    · cases hx'
      refine ⟨_, hv, vs, ?_, ?_, hd, .inr rfl⟩
      · show _ = V.ref (if _ then p else _); rw [if_pos rfl]
      · show H (if _ then p else _) = _; rw [if_pos rfl]; exact hp
    · obtain ⟨u, hu, q⟩ := R.sl j x hx
      refine ⟨u, hu, ?_⟩
      have hl : (C.lendC H i p).lam j = C.lam j := by show (if j = i then p else C.lam j) = _; rw [if_neg (Ne.symm hj)]
      cases x with
      | fz d => exact q
      | own ds' =>
        obtain ⟨p', vs', rfl, h1, h2, h3, h4⟩ := q
        refine ⟨p', vs', rfl, h1, h2, h3, fun z => ?_⟩
        rcases z with z | rfl
        · exact h4 z
        · exact ne j _ (Ne.symm hj) hx rfl hu
      | lent ds' =>
        obtain ⟨vs', rfl, h1, h2, h3⟩ := q
        exact ⟨vs', by rw [hl], by rw [hl]; exact h1, h2, .inl h3⟩
      | io ds' =>
        obtain ⟨vs', rfl, h1, h2, h3, h4⟩ := q
        refine ⟨vs', by rw [hl], by rw [hl]; exact h1, h2, by rw [hl]; exact h3, fun z => ?_⟩
        rw [hl] at z
        rcases z with z | z
        · exact h4 z
        · exact ne j _ (Ne.symm hj) hx rfl (by rw [hu, z])
      | tr b t =>
        obtain ⟨fp, o, nd, h, hb⟩ := q
        refine ⟨fp, o, nd, fun a ha => ⟨(h a ha).1, fun z => ?_⟩, by rw [hl]; exact hb⟩
        rcases z with z | z
        · exact (h a ha).2 z
        · exact (R.tn j fp ⟨b, t, u, F, hx, hu, o⟩).1 a ha i _ he rfl (by rw [hv, z])
  · show C.M _ ∨ _ = p
    rcases hj with hj | rfl
    · by_cases q : j = i
      · right; show (if j = i then p else _) = p; rw [if_pos q]
      · left; show C.M (if j = i then p else _); rw [if_neg q]; exact R.ml j hj
    · right; show (if _ then p else _) = p; rw [if_pos rfl]
  · rcases getset hx with ⟨rfl, hx'⟩ | ⟨hj, hx⟩
    · cases hx'; cases mx
    · rcases getset hy with ⟨rfl, hy'⟩ | ⟨hk, hy⟩
      · cases hy'; cases my
      · exact R.ne j k x y hjk hx hy mx my
  · rcases getset hy with ⟨rfl, hy'⟩ | ⟨hj, hy⟩
    · cases hy'; cases my
    · exact ⟨_, hy, my, rfl⟩
  -- back
  · have weak : Rp K C F2 H2 (match e2[i]? with | some (some (.lent ds)) => e2.set i (some (.own ds)) | _ => e2) σ2 ∨ True := .inr trivial
    have ofs : ∀ j x u, j ≠ i → SvR K (C.lendC H i p) F2 H2 j x u → SvR K C F2 H2 j x u := fun j x u hj q => by
      have hl : (C.lendC H i p).lam j = C.lam j := by show (if j = i then p else C.lam j) = _; rw [if_neg hj]
      cases x with
      | fz d => exact q
      | own ds' => obtain ⟨p', vs', rfl, h1, h2, h3, h4⟩ := q; exact ⟨p', vs', rfl, h1, h2, h3, fun z => h4 (.inl z)⟩
      | lent ds' =>
        obtain ⟨vs', rfl, h1, h2, h3⟩ := q
        rw [hl] at h1
        refine ⟨vs', by rw [hl], h1, h2, ?_⟩
        rcases h3 with h3 | h3
        · exact h3
        · exact absurd h3 hj
      | io ds' =>
        obtain ⟨vs', rfl, h1, h2, h3, h4⟩ := q
        rw [hl] at h1 h3 h4
        exact ⟨vs', by rw [hl], h1, h2, h3, fun z => h4 (.inl z)⟩
      | tr b t =>
        obtain ⟨fp, o, nd, h, hb⟩ := q
        rw [hl] at hb
        exact ⟨fp, o, nd, fun a ha => ⟨(h a ha).1, fun z => (h a ha).2 (.inl z)⟩, hb⟩
    have frm : ∀ a, C.M a → H2 a = C.G a ∧ C.G a ≠ none := fun a ha => by
      have h := R2.frm a (.inl ha)
      have h' := R.frm a ha
      exact ⟨h.1.trans h'.1, h'.2⟩
    have hl : (C.lendC H i p).lam i = p := by show (if i = i then p else _) = p; rw [if_pos rfl]
    cases hq : e2[i]? with
    | none => 
      have : unlend [i] e2 = e2 := by unfold unlend; rw [hq]; rfl
      rw [this]
      exact ⟨R2.len, R2.ext, fun a ha => R2.off a (.inl ha), frm, fun j x hx => by
        have hj : j ≠ i := fun z => by rw [z, hq] at hx; cases hx
        obtain ⟨u, hu, q⟩ := R2.sl j x hx
        exact ⟨u, hu, ofs j x u hj q⟩, R.ml, R2.ne, R2.tn, R2.tup⟩
    | some o =>
      by_cases hlent : ∃ ds', o = some (.lent ds')
      · obtain ⟨ds', rfl⟩ := hlent
        have : unlend [i] e2 = e2.set i (some (.own ds')) := by unfold unlend; rw [hq]; rfl
        rw [this]
        obtain ⟨u, hu, vs', hu', h1, h2, h3⟩ := R2.sl i _ hq
        rw [hl] at hu' h1
        subst hu'
        have pF : F2 p = none := R2.off p (.inr rfl)
        have apt : ∀ j y, j ≠ i → e2[j]? = some (some y) → y.mu = true → σ2[j]? ≠ some (some (.ref p)) := fun j y hj hy my z => by
          obtain ⟨u, hu, q⟩ := R2.sl j y hy
          rw [z] at hu; cases hu
          cases y with
          | fz d => cases my
          | own ds' => obtain ⟨p', vs', h0, _, _, _, h4⟩ := q; cases h0; exact h4 (.inr rfl)
          | lent ds' => cases my
          | io ds' => obtain ⟨vs', h0, _, _, _, h4⟩ := q; injection h0 with h0; rw [← h0] at h4; exact h4 (.inr rfl)
          | tr b t => cases my
        have upT : ∀ {j fp}, TrAt K H2 (e2.set i (some (.own ds'))) σ2 j fp → TrAt K H2 e2 σ2 j fp := fun {j fp} h => by
          obtain ⟨b, t, v, F', he, hv, o⟩ := h
          rcases getset he with ⟨rfl, he'⟩ | ⟨hj, he⟩
          · cases he'
          · exact ⟨b, t, v, F', he, hv, o⟩
        refine ⟨by rw [List.length_set]; exact R2.len, R2.ext, fun a ha => R2.off a (.inl ha), frm, fun j x hx => ?_, R.ml, fun j k x y hjk hx hy mx my => ?_, fun j fp h => ⟨fun a ha k y hy my hs => ?_, fun k fp' hk h' => (R2.tn j fp (upT h)).2 k fp' hk (upT h')⟩, R2.tup⟩
        · rcases getset hx with ⟨rfl, hx'⟩ | ⟨hj, hx⟩
          · cases hx'; exact ⟨_, hu, p, vs', rfl, h1, h2, pF, hM⟩
          · obtain ⟨u, hu, q⟩ := R2.sl j x hx
            exact ⟨u, hu, ofs j x u (Ne.symm hj) q⟩
        · rcases getset hx with ⟨rfl, hx'⟩ | ⟨hj, hx⟩
          · rcases getset hy with ⟨rfl, hy'⟩ | ⟨hk, hy⟩
            · exact absurd rfl hjk
            · rw [hu]; exact fun z => apt k y (Ne.symm hk) hy my z.symm
          · rcases getset hy with ⟨rfl, hy'⟩ | ⟨hk, hy⟩
            · rw [hu]; exact fun z => apt j x (Ne.symm hj) hx mx z
            · exact R2.ne j k x y hjk hx hy mx my
        · rcases getset hy with ⟨rfl, hy'⟩ | ⟨hk, hy⟩
          · rw [hu] at hs; cases hs
            exact ((R2.trFp (upT h)).1 _ ha).2.1 (.inr rfl)
          · exact (R2.tn j fp (upT h)).1 a ha k y hy my hs
      · have : unlend [i] e2 = e2 := by
          unfold unlend; rw [hq]
          cases o with
          | none => rfl
          | some x => cases x <;> first | rfl | exact absurd ⟨_, rfl⟩ hlent
        rw [this]
        refine ⟨R2.len, R2.ext, fun a ha => R2.off a (.inl ha), frm, fun j x hx => ?_, R.ml, R2.ne, R2.tn, R2.tup⟩
        obtain ⟨u, hu, q⟩ := R2.sl j x hx
        refine ⟨u, hu, ?_⟩
        by_cases hj : j = i
        · subst hj
          rw [hq] at hx; cases hx
          cases x with
          | fz d => exact q
          | own ds' => obtain ⟨p', vs', rfl, h1, h2, h3, h4⟩ := q; exact ⟨p', vs', rfl, h1, h2, h3, fun z => h4 (.inl z)⟩
          | lent ds' => exact absurd ⟨_, rfl⟩ hlent
          | io ds' => obtain ⟨vs', h0, h1, h2, h3, h4⟩ := q; rw [hl] at h4; exact absurd (.inr rfl) h4
          | tr b t =>
            obtain ⟨fp, o, nd, h, hb⟩ := q
            refine ⟨fp, o, nd, fun a ha => ⟨(h a ha).1, fun z => (h a ha).2 (.inl z)⟩, fun z => ?_⟩
            have := hb z
            rw [hl] at this
            exact absurd (.inr rfl) (h p this.2).2
        · exact ofs j x u hj q
  · obtain ⟨p', vs', rfl, h1, h2, h3, h4, ap⟩ := q
    refine ⟨p', vs', rfl, h1, h2, h3, fun z => h4 (.inl z), fun j y hy my hs => ?_, fun j fp h => ap.2 j fp ?_⟩
    rotate_left
    · obtain ⟨b, t, v, F', he, hv, o⟩ := h
      unfold unlend at he
      split at he
      · rename_i ds' hds
        have he : (e2.set i (some (.own ds')))[j]? = some (some (Sv.tr b t)) := he
        rcases getset he with ⟨rfl, he'⟩ | ⟨hj, he⟩
        · cases he'
        · exact ⟨b, t, v, F', he, hv, o⟩
      · exact ⟨b, t, v, F', he, hv, o⟩
    unfold unlend at hy
    split at hy
    · rename_i ds' hds
      have hy : (e2.set i (some (.own ds')))[j]? = some (some y) := hy
      rcases getset hy with ⟨rfl, hy'⟩ | ⟨hj, hy⟩
      · obtain ⟨u, hu, vs2, hu', q1, q2, q3⟩ := R2.sl _ _ hds
        have hl : (C.lendC H i p).lam i = p := by show (if i = i then p else _) = p; rw [if_pos rfl]
        rw [hs] at hu; cases hu
        rw [hl] at hu'; cases hu'
        exact h4 (.inr rfl)
      · exact ap.1 j y hy my hs
    · exact ap.1 j y hy my hs
/-- one that is to be walked: it stands at a -/
theorem PostI.src {w : Wd} {r : Rv} {v : V} {Rr : It → Hp → Prop} (R : Rp w.K C F H e σ) (hs : r.still = true) (q : RvR w.K C F H e σ r v) (P : PostI w C F σ Rr (srcR r e)) :
    ((∀ ds, peek r e ≠ some (.tuple ds)) → ∃ a, v = .ref a ∧ (∃ xs, SqL w.K H a xs) ∧ Rr (Itl w.K a) H) ∧ (∀ ds, peek r e = some (.tuple ds) → ∃ a, v = .ref a ∧ (∃ xs, SqT w.K H a xs) ∧ Rr (Itt w.K a) H) := by
  have lst : ∀ {ds : List D}, Dp w.K F v (.list ds) → PostI w C F σ Rr (.ok ⟨ds, []⟩ e) → ∃ a, v = .ref a ∧ (∃ xs, SqL w.K H a xs) ∧ Rr (Itl w.K a) H := fun {ds} z P => by
    cases z with
    | lst h1 h2 => exact ⟨_, rfl, ⟨_, .inl (ext_rd R.ext h1)⟩, P C (Itl w.K _) F H R (.refl F) back_nil (itOk_list h2 fun F2 H2 e2 σ2 R2 E2 => .inl (ext_rd (E2.trans R2.ext) h1))⟩
  have tup : ∀ {ds : List D}, Dp w.K F v (.tuple ds) → PostI w C F σ Rr (.ok ⟨ds, []⟩ e) → ∃ a, v = .ref a ∧ (∃ xs, SqT w.K H a xs) ∧ Rr (Itt w.K a) H := fun {ds} z P => by
    cases z with
    | tup h1 h2 => exact ⟨_, rfl, ⟨_, ext_t R.ext h1⟩, P C (Itt w.K _) F H R (.refl F) back_nil (itOk_tup h2 fun F2 H2 e2 σ2 R2 E2 => ext_t (E2.trans R2.ext) h1)⟩
  cases r with
  | fresh ds => cases hs
  | fz d =>
    cases d with
    | list ds => exact ⟨fun _ => lst q P, fun ds' z => by cases z⟩
    | tuple ds => exact ⟨fun z => absurd rfl (z ds), fun ds' z => tup q P⟩
    | _ => exact P.elim
  | bor i =>
    have h' : σ[i]? = some (some v) := q
    unfold srcR at P
    simp only at P
    split at P
    · rename_i ds hd
      obtain ⟨u, hu, z⟩ := R.sl _ _ hd
      rw [h'] at hu; cases hu
      refine ⟨fun _ => lst z P, fun ds' z => ?_⟩
      have z : look e i = some (.tuple ds') := z
      unfold look at z; rw [hd] at z; cases z
    · rename_i ds hd
      obtain ⟨u, hu, z⟩ := R.sl _ _ hd
      rw [h'] at hu; cases hu
      refine ⟨fun n => absurd ?_ (n ds), fun ds' _ => tup z P⟩
      show look e i = _
      unfold look; rw [hd]
    · rename_i ds hd
      obtain ⟨u, hu, vs, rfl, h1, h2, h3⟩ := R.sl _ _ hd
      rw [h'] at hu; cases hu
      refine ⟨fun _ => ⟨_, rfl, ⟨_, SqL.of h1⟩, P C (Itl w.K _) F H R (.refl F) back_nil (itOk_list h2 fun F2 H2 e2 σ2 R2 E2 => SqL.of ?_)⟩, fun ds' z => ?_⟩
      · have k1 := R.frm _ (R.ml _ h3)
        have k2 := R2.frm _ (R.ml _ h3)
        rw [k2.1, ← k1.1]; exact h1
      · have z : look e i = some (.tuple ds') := z
        unfold look at z; rw [hd] at z; cases z
    · rename_i ds hd
      obtain ⟨u, hu, p, vs, rfl, h1, h2, h3, h4⟩ := R.sl _ _ hd
      rw [h'] at hu; cases hu
      obtain ⟨R1, B⟩ := R.lend hd h' h1 h2 h3 h4
      refine ⟨fun _ => ⟨_, rfl, ⟨_, SqL.of h1⟩, P (C.lendC H i p) (Itl w.K p) F H R1 (.refl F) B (itOk_list h2 fun F2 H2 e2 σ2 R2 E2 => SqL.of ?_)⟩, fun ds' z => ?_⟩
      · rw [(R2.frm p (.inr rfl)).1]; exact h1
      · have z : look e i = some (.tuple ds') := z
        unfold look at z; rw [hd] at z; cases z
    · exact P.elim
theorem rd_src {w : Wd} {a : Ev} {Rr : It → Hp → Prop} (h : rdI w (srcE a) σ H Rr) : iList w.K (rdR w a) σ H Rr ∨ iTup w.K (rdR w a) σ H Rr := by
  obtain ⟨C, F, e, R, P⟩ := h
  by_cases ht : ∃ r e1 ds, opd a e = .ok r e1 ∧ peek r e1 = some (.tuple ds)
  · right
    refine rd_opd (bindI R P fun F1 H1 e1 r v h1 R1 E1 q1 P1 => ?_)
    obtain ⟨r', e1', ds, z1, z2⟩ := ht
    rw [z1] at h1; cases h1
    exact (P1.src R1 (opd_still z1) q1).2 ds z2
  · left
    refine rd_opd (bindI R P fun F1 H1 e1 r v h1 R1 E1 q1 P1 => ?_)
    exact (P1.src R1 (opd_still h1) q1).1 fun ds z => ht ⟨r, e1, ds, h1, z⟩
section
variable {X : Cx} {w : Wd} {tg iter a b c : Expr} {ea : Ev} {W : WX} {XR : Hp → Hp → Xc → Value → Option Addr → Prop}
theorem pi_mono {t t' : TI} (h : PI X tg iter t) (w : ∀ σ H R, t' σ H R → t σ H R) : PI X tg iter t' := ⟨fun pins s σ H R I q => h.run pins s σ H R I (w σ H R q)⟩
theorem pi_or {t t' : TI} (h : PI X tg iter t) (h' : PI X tg iter t') : PI X tg iter (fun σ H R => t σ H R ∨ t' σ H R) := ⟨fun pins s σ H R I q => q.elim (h.run pins s σ H R I) (h'.run pins s σ H R I)⟩
/-- over a list or a tuple -/
theorem vi_src (h : PE X iter (rdR (wd X W XR) ea)) : PI X tg iter (rdI (wd X W XR) (srcE ea)) := pi_mono (pi_or (pi_list h) (pi_tup h)) fun _ _ _ q => rd_src q
end
def intsOf (lo : Int) (n : Nat) : List D := (List.range n).map fun i => .int (lo + (i : Nat))
theorem itOk_range {F : Hp} {lo : Int} {n : Nat} : ItOk K C F (Itr lo n) (intsOf lo n) := by
  have hl : (intsOf lo n).length = n := by unfold intsOf; rw [List.length_map, List.length_range]
  refine ⟨fun _ => True, YFn fun i => .int (lo + i), by rw [hl]; exact walk_range, fun _ _ _ _ _ _ => trivial, fun i x H1 H2 F1 E _ _ y hi => ?_⟩
  obtain ⟨rfl, rfl⟩ := y
  refine ⟨.int (lo + (i : Nat)), ?_, .old (.int _)⟩
  unfold intsOf
  rw [hl] at hi
  rw [List.getElem?_map, List.getElem?_range hi]
  rfl
def inR (i : Int) : Bool := decide (-(2 ^ 62) ≤ i) && decide (i < 2 ^ 62)
def rng1 (a : Ev) : Sem1 Src := fun e => (opd a e).bind fun r e1 => match r with
  | .fz (.int j) => if inR j then .ok ⟨intsOf 0 j.toNat, []⟩ e1 else .no
  | _ => .no
def rng2 (a b : Ev) : Sem1 Src := fun e => (opd a e).bind fun r e1 => (opd b e1).bind fun s e2 => match r, s with
  | .fz (.int i), .fz (.int j) => if inR i && inR j then .ok ⟨intsOf i (j - i).toNat, []⟩ e2 else .no
  | _, _ => .no
theorem inR_ok {i : Int} (h : inR i = true) : -(2 ^ 62) ≤ i ∧ i < 2 ^ 62 := by
  unfold inR at h
  simpa using h
theorem rd_rng1 {w : Wd} {a : Ev} {Rr : It → Hp → Prop} (h : rdI w (rng1 a) σ H Rr) : iRng1 (tCons (rdR w a) tNil) σ H Rr := by
  obtain ⟨C, F, e, R, P⟩ := h
  refine rd_opd (bindI R P fun F1 H1 e1 r v h1 R1 E1 q1 P1 => ?_)
  split at P1
  · rename_i j
    split at P1
    · rename_i hj
      cases q1
      exact ⟨j, rfl, (inR_ok hj).1, (inR_ok hj).2, P1 C _ F1 H1 R1 (.refl F1) back_nil itOk_range⟩
    · exact P1.elim
  · exact P1.elim
theorem rd_rng2 {w : Wd} {a b : Ev} {Rr : It → Hp → Prop} (h : rdI w (rng2 a b) σ H Rr) : iRng2 (tCons (rdR w a) (tCons (rdR w b) tNil)) σ H Rr := by
  obtain ⟨C, F, e, R, P⟩ := h
  refine rd_opd (bindI R P fun F1 H1 e1 r v h1 R1 E1 q1 P1 => ?_)
  refine rd_opd (bindI R1 P1 fun F2 H2 e2 s u h2 R2 E2 q2 P2 => ?_)
  split at P2
  · rename_i i j
    split at P2
    · rename_i hj
      cases q1
      cases q2
      rw [Bool.and_eq_true] at hj
      exact ⟨i, j, rfl, ⟨(inR_ok hj.1).1, (inR_ok hj.1).2, (inR_ok hj.2).1, (inR_ok hj.2).2⟩, P2 C _ F2 H2 R2 (.refl F2) back_nil itOk_range⟩
    · exact P2.elim
  · exact P2.elim
section
variable {X : Cx} {w : Wd} {tg a b c : Expr} {ea eb : Ev} {p pos : Pos}
theorem vi_rng1 (hg : Gl X "range") (hm : X.mg "range" = none) (ha : PE X a (rdR w ea)) (h1 : starEach [a] X.env = (false, eval a X.env) :: starEach [] X.env := by rfl) (hs : starEach [a] X.env = [(false, eval a X.env)] := by rfl) : PI X tg (.Call (.Name "range" p) [a] [] pos) (rdI w (rng1 ea)) :=
  pi_mono (pi_range1 hg hm (pa_cons ha pa_nil h1) hs) fun _ _ _ q => rd_rng1 q
theorem vi_rng2 (hg : Gl X "range") (hm : X.mg "range" = none) (ha : PE X a (rdR w ea)) (hb : PE X b (rdR w eb)) (h1 : starEach [a, b] X.env = (false, eval a X.env) :: starEach [b] X.env := by rfl) (h2 : starEach [b] X.env = (false, eval b X.env) :: starEach [] X.env := by rfl)
    (hs : starEach [a, b] X.env = [(false, eval a X.env), (false, eval b X.env)] := by rfl) (hs2 : starEach [b] X.env = [(false, eval b X.env)] := by rfl) : PI X tg (.Call (.Name "range" p) [a, b] [] pos) (rdI w (rng2 ea eb)) :=
  pi_mono (pi_range2 hg hm (pa_cons ha (pa_cons hb pa_nil h2) h1) hs hs2) fun _ _ _ q => rd_rng2 q
end
end VI
set_option Elab.async false
set_option linter.all false
set_option maxRecDepth 100000
set_option maxHeartbeats 4000000
namespace VI
open PySem PySem.Spec PyProof.Rows L2
variable {K : PySem.W.Frag} {C : Cf} {F H : Hp} {e e' : Env} {σ : L2.St}
def wipeE (e : Env) : List Nat → Env
  | [] => e
  | v :: vs => (wipeE e vs).set v none
/-- the block's own names get back what they held, where that lay still -/
def backE (e0 : Env) : List Nat → Env → Env
  | [], e => e
  | v :: vs, e => match e0[v]? with
    | some (some (.fz d)) => (backE e0 vs e).set v (some (.fz d))
    | _ => (backE e0 vs e).set v none
def lcTurns (t : Tg) (c : Sem1 Bool) (elt : Ev) (own : List Nat) : List D → Env → Option (List D × Env)
  | [], e => some ([], e)
  | d :: ds, e => match t.run d e with
    | none => none
    | some e1 => match c e1 with
      | .ok true e2 => match toD elt e2 with
        | .ok y e3 => (lcTurns t c elt own ds (wipeE e3 own)).bind fun r => some (y :: r.1, r.2)
        | _ => none
      | .ok false e2 => lcTurns t c elt own ds (wipeE e2 own)
      | _ => none
def lcS (it : Sem1 Src) (t : Tg) (c : Sem1 Bool) (elt : Ev) (own : List Nat) : Ev := fun e => (it e).bind fun s e1 =>
  if s.items.length ≤ sizeLine ∧ (∀ i ∈ t.ix, i ∈ own) then match lcTurns t c elt own s.items (wipeE e1 own) with
    | none => .no
    | some (ds, e2) => .ok (.fresh ds) (unlend s.lend (backE e1 own e2))
  else .no
def yesT : Sem1 Bool := fun e => .ok true e
/-- in a block nothing is raised -/
def Wd.calm (w : Wd) : Wd := ⟨w.K, fun _ _ _ _ => False, w.XR⟩
theorem wipeE_get {e : Env} {i : Nat} {x : Sv} : ∀ {vs : List Nat}, (wipeE e vs)[i]? = some (some x) → e[i]? = some (some x) ∧ i ∉ vs
  | [], h => ⟨h, by simp⟩
  | v :: vs, h => by
    unfold wipeE at h
    rcases getset h with ⟨_, z⟩ | ⟨hn, h⟩
    · cases z
    · obtain ⟨h1, h2⟩ := wipeE_get h
      exact ⟨h1, by simp only [List.mem_cons, not_or]; exact ⟨fun z => hn z.symm, h2⟩⟩
theorem wipeE_len {e : Env} : ∀ {vs : List Nat}, (wipeE e vs).length = e.length
  | [] => rfl
  | v :: vs => by unfold wipeE; rw [List.length_set, wipeE_len]
theorem wipe_len {σ : L2.St} : ∀ {vs : List Nat}, (wipe σ vs).length = σ.length
  | [] => rfl
  | v :: vs => by unfold wipe; rw [List.length_set, wipe_len]
theorem Rp.wipe (R : Rp K C F H e σ) (vs : List Nat) : Rp K C F H (wipeE e vs) (L2.wipe σ vs) := by
  have at' : ∀ {i : Nat} {x : Sv}, (wipeE e vs)[i]? = some (some x) → e[i]? = some (some x) ∧ (L2.wipe σ vs)[i]? = σ[i]? := fun {i x} h => by
    obtain ⟨h1, h2⟩ := wipeE_get h
    exact ⟨h1, wipe_out h2⟩
  refine ⟨by rw [wipeE_len, wipe_len]; exact R.len, R.ext, R.off, R.frm, fun i x hx => ?_, R.ml, fun i j x y hij hx hy mx my => ?_, tn_sub R.tn (fun j y hy => (at' hy).1) (fun j y hy my => ⟨y, (at' hy).1, my, (at' hy).2⟩) (fun j y hy => (at' hy).2), R.tup⟩
  · obtain ⟨h1, h2⟩ := at' hx
    rw [h2]; exact R.sl i x h1
  · obtain ⟨h1, h2⟩ := at' hx
    obtain ⟨h3, h4⟩ := at' hy
    rw [h2, h4]; exact R.ne i j x y hij h1 h3 mx my
theorem backE_get {e0 e : Env} {i : Nat} {x : Sv} : ∀ {vs : List Nat}, (backE e0 vs e)[i]? = some (some x) → (i ∈ vs ∧ e0[i]? = some (some x) ∧ ∃ d, x = .fz d) ∨ (i ∉ vs ∧ e[i]? = some (some x))
  | [], h => .inr ⟨by simp, h⟩
  | v :: vs, h => by
    unfold backE at h
    have key : ∀ {o : Option Sv}, ((backE e0 vs e).set v o)[i]? = some (some x) → (v = i ∧ o = some x) ∨ (v ≠ i ∧ (backE e0 vs e)[i]? = some (some x)) := fun h => getset h
    have rest : v ≠ i → (backE e0 vs e)[i]? = some (some x) → (i ∈ v :: vs ∧ e0[i]? = some (some x) ∧ ∃ d, x = .fz d) ∨ (i ∉ v :: vs ∧ e[i]? = some (some x)) := fun hn h => by
      rcases backE_get h with ⟨h1, h2⟩ | ⟨h1, h2⟩
      · exact .inl ⟨List.mem_cons_of_mem _ h1, h2⟩
      · exact .inr ⟨by simp only [List.mem_cons, not_or]; exact ⟨fun z => hn z.symm, h1⟩, h2⟩
    split at h
    · rename_i d hd
      rcases key h with ⟨rfl, z⟩ | ⟨hn, h⟩
      · cases z; exact .inl ⟨List.mem_cons_self, hd, d, rfl⟩
      · exact rest hn h
    · rcases key h with ⟨rfl, z⟩ | ⟨hn, h⟩
      · cases z
      · exact rest hn h
theorem backE_len {e0 e : Env} : ∀ {vs : List Nat}, (backE e0 vs e).length = e.length
  | [] => rfl
  | v :: vs => by
    unfold backE
    split <;> rw [List.length_set, backE_len]
/-- behind the block -/
theorem Rp.unwipe {F1 H1 : Hp} {e0 e1 : Env} (R0 : Rp K C F H e0 σ) {vs : List Nat} (R : Rp K C F1 H1 e1 (L2.wipe σ vs)) (E : Ext F F1) : Rp K C F1 H1 (backE e0 vs e1) σ := by
  have lowT : ∀ {j : Nat} {y : Sv}, (∀ d, y ≠ .fz d) → (backE e0 vs e1)[j]? = some (some y) → e1[j]? = some (some y) ∧ (L2.wipe σ vs)[j]? = σ[j]? := fun {j y} nf hy => by
    rcases backE_get hy with ⟨_, _, d, rfl⟩ | ⟨h1, h2⟩
    · exact absurd rfl (nf d)
    · exact ⟨h2, wipe_out h1⟩
  refine ⟨by rw [backE_len, R.len, wipe_len], R.ext, R.off, R.frm, fun i x hx => ?_, R.ml, fun i j x y hij hx hy mx my => ?_, tn_sub R.tn (fun j y hy => (lowT (fun d z => by cases z) hy).1) (fun j y hy my => ⟨y, (lowT (fun d z => by subst z; cases my) hy).1, my, (lowT (fun d z => by subst z; cases my) hy).2.symm⟩) (fun j y hy => (lowT (fun d z => by cases z) hy).2.symm), R.tup⟩
  · rcases backE_get hx with ⟨h1, h2, d, rfl⟩ | ⟨h1, h2⟩
    · obtain ⟨v, hv, q⟩ := R0.sl i _ h2
      exact ⟨v, hv, Dp.ext E q⟩
    · obtain ⟨v, hv, q⟩ := R.sl i x h2
      rw [wipe_out h1] at hv
      exact ⟨v, hv, q⟩
  · rcases backE_get hx with ⟨h1, h2, d, rfl⟩ | ⟨h1, h2⟩
    · cases mx
    · rcases backE_get hy with ⟨h3, h4, d, rfl⟩ | ⟨h3, h4⟩
      · cases my
      · have := R.ne i j x y hij h2 h4 mx my
        rwa [wipe_out h1, wipe_out h3] at this
theorem Apar.wipe {p : Addr} (h : Apar K H e σ p) (vs : List Nat) : Apar K H (wipeE e vs) (L2.wipe σ vs) p := by
  refine ⟨fun i x hx mx => ?_, fun i fp ht => h.2 i fp ?_⟩
  · obtain ⟨k1, k2⟩ := wipeE_get hx
    rw [wipe_out k2]; exact h.1 i x k1 mx
  · obtain ⟨b, t, v, F', he, hv, o⟩ := ht
    obtain ⟨k1, k2⟩ := wipeE_get he
    rw [wipe_out k2] at hv
    exact ⟨b, t, v, F', k1, hv, o⟩
theorem Apar.unwipe {p : Addr} {e0 : Env} {vs : List Nat} (h : Apar K H e (L2.wipe σ vs) p) : Apar K H (backE e0 vs e) σ p := by
  refine ⟨fun j x hx mx hv => ?_, fun j fp ht => h.2 j fp ?_⟩
  · rcases backE_get hx with ⟨k1, k2, d, rfl⟩ | ⟨k1, k2⟩
    · cases mx
    · exact h.1 j x k2 mx (by rw [wipe_out k1]; exact hv)
  · obtain ⟨b, t, v, F', he, hv, o⟩ := ht
    rcases backE_get he with ⟨k1, k2, d, z⟩ | ⟨k1, k2⟩
    · cases z
    · exact ⟨b, t, v, F', k2, by rw [wipe_out k1]; exact hv, o⟩
/-- the cfg with the new list at p held off -/
def Cf.hold (C : Cf) (H : Hp) (p : Addr) : Cf := ⟨fun a => C.M a ∨ a = p, H, C.lam, C.Ml⟩
theorem Rp.hold (R : Rp K C F H e σ) {p : Addr} {o : HO} (hp : H p = some o) (hF : F p = none) (hM : ¬ C.M p) (ap : Apar K H e σ p) : Rp K (C.hold H p) F H e σ := by
  refine ⟨R.len, R.ext, fun a ha => ?_, fun a ha => ⟨rfl, ?_⟩, fun i x hx => ?_, fun i hi => .inl (R.ml i hi), R.ne, R.tn, R.tup⟩
  · rcases ha with ha | rfl
    · exact R.off a ha
    · exact hF
  · rcases ha with ha | rfl
    · show H a ≠ none; rw [(R.frm a ha).1]; exact (R.frm a ha).2
    · show H a ≠ none; rw [hp]; exact fun z => by cases z
  · obtain ⟨v, hv, q⟩ := R.sl i x hx
    refine ⟨v, hv, ?_⟩
    cases x with
    | fz d => exact q
    | own ds =>
      obtain ⟨p', vs, rfl, h1, h2, h3, h4⟩ := q
      refine ⟨p', vs, rfl, h1, h2, h3, fun z => ?_⟩
      rcases z with z | rfl
      · exact h4 z
      · exact ap.1 i _ hx rfl hv
    | lent ds => exact q
    | io ds =>
      obtain ⟨vs, rfl, h1, h2, h3, h4⟩ := q
      refine ⟨vs, rfl, h1, h2, h3, fun z => ?_⟩
      rcases z with z | z
      · exact h4 z
      · exact ap.1 i _ hx rfl (by rw [hv, ← z]; rfl)
    | tr b t =>
      obtain ⟨fp, o, nd, h, hb⟩ := q
      refine ⟨fp, o, nd, fun a ha => ⟨(h a ha).1, fun z => ?_⟩, hb⟩
      rcases z with z | rfl
      · exact (h a ha).2 z
      · exact ap.2 i fp ⟨b, t, v, F, hx, hv, o⟩ ha
/-- .. let go, whatever stands there now -/
theorem Rp.drop (R0 : Rp K C F H e σ) {F2 H2 : Hp} {e2 : Env} {σ2 : L2.St} {p : Addr} {o : HO} (R : Rp K (C.hold H p) F2 H2 e2 σ2) (hM : ¬ C.M p) (ho : ∀ xs, o ≠ .tup xs := by intro xs z; cases z) : Rp K C F2 (upd H2 p o) e2 σ2 ∧ H2 p = H p ∧ F2 p = none ∧ Apar K (upd H2 p o) e2 σ2 p := by
  have pF : F2 p = none := R.off p (.inr rfl)
  have ap : Apart e2 σ2 (.ref p) := fun i x hx mx hv => by
    obtain ⟨v, hv', q⟩ := R.sl i x hx
    rw [hv] at hv'; cases hv'
    cases x with
    | fz d => cases mx
    | own ds => obtain ⟨p', vs, h0, _, _, _, h4⟩ := q; injection h0 with h0; subst h0; exact h4 (.inr rfl)
    | lent ds => cases mx
    | io ds => obtain ⟨vs, h0, _, _, _, h4⟩ := q; injection h0 with h0; rw [← h0] at h4; exact h4 (.inr rfl)
    | tr b t => cases mx
  have nT : ∀ {i fp}, TrAt K H2 e2 σ2 i fp → p ∉ fp := fun h hq => ((R.trFp h).1 p hq).2.1 (.inr rfl)
  have kT : ∀ a, H2 a ≠ none → F2 a = none → ¬ (C.hold H p).M a → (∃ i fp, TrAt K H2 e2 σ2 i fp ∧ a ∈ fp) → upd H2 p o a = H2 a := fun a _ _ hm _ => upd_ne fun z => hm (.inr z)
  refine ⟨⟨R.len, R.ext.mut pF, fun a ha => R.off a (.inl ha), fun a ha => ?_, fun i x hx => ?_, R0.ml, R.ne, fun i fp h => ⟨(R.tn i fp (R.trBack kT h)).1, fun j fp' hj h' => (R.tn i fp (R.trBack kT h)).2 j fp' hj (R.trBack kT h')⟩, R.tup.mut ho⟩, (R.frm p (.inr rfl)).1, pF, ap, fun i fp h => nT (R.trBack kT h)⟩
  · rw [upd_ne (show a ≠ p from fun z => hM (z ▸ ha))]
    have h := R.frm a (.inl ha)
    exact ⟨h.1.trans (R0.frm a ha).1, (R0.frm a ha).2⟩
  · obtain ⟨v, hv, q⟩ := R.sl i x hx
    refine ⟨v, hv, ?_⟩
    cases x with
    | fz d => exact q
    | own ds =>
      obtain ⟨p', vs, rfl, h1, h2, h3, h4⟩ := q
      exact ⟨p', vs, rfl, by rw [upd_ne (show p' ≠ p from fun z => h4 (.inr z))]; exact h1, h2, h3, fun z => h4 (.inl z)⟩
    | lent ds =>
      obtain ⟨vs, rfl, h1, h2, h3⟩ := q
      exact ⟨vs, rfl, by rw [upd_ne (show C.lam i ≠ p from fun z => hM (z ▸ R0.ml i h3))]; exact h1, h2, h3⟩
    | io ds =>
      obtain ⟨vs, rfl, h1, h2, h3, h4⟩ := q
      exact ⟨vs, rfl, by rw [upd_ne (show C.lam i ≠ p from fun z => h4 (.inr z))]; exact h1, h2, h3, fun z => h4 (.inl z)⟩
    | tr b t =>
      obtain ⟨fp, o', nd, h, hb⟩ := q
      exact ⟨fp, o'.ext (.refl F2) fun a ha => upd_ne fun z => (h a ha).2 (.inr z), nd, fun a ha => ⟨(h a ha).1, fun z => (h a ha).2 (.inl z)⟩, hb⟩
theorem lcTurns_len {t : Tg} {c : Sem1 Bool} {elt : Ev} {own : List Nat} : ∀ {ds : List D} {e : Env} {r : List D} {e2 : Env}, lcTurns t c elt own ds e = some (r, e2) → r.length ≤ ds.length
  | [], e, r, e2, h => by cases h; exact Nat.le_refl _
  | d :: ds, e, r, e2, h => by
    unfold lcTurns at h
    split at h
    · cases h
    · split at h
      · split at h
        · obtain ⟨⟨r', e'⟩, h1, h2⟩ := Option.bind_eq_some_iff.mp h
          cases h2
          have := lcTurns_len h1
          simp only [List.length_cons]; omega
        · cases h
      · have := lcTurns_len h
        simp only [List.length_cons]; omega
      · cases h
theorem wipe_idem {vs : List Nat} : wipe (wipe σ vs) vs = wipe σ vs := by
  have : ∀ (ws : List Nat) (σ : L2.St), (∀ v ∈ ws, ∀ x, σ[v]? = some x → x = none) → wipe σ ws = σ := by
    intro ws
    induction ws with
    | nil => intro σ _; rfl
    | cons v ws ih =>
      intro σ h
      unfold wipe
      rw [ih σ fun u hu => h u (List.mem_cons_of_mem _ hu)]
      apply List.ext_getElem?
      intro i
      by_cases hi : v = i
      · subst hi
        cases q : σ[v]? with
        | none => rw [List.getElem?_eq_none]; rw [List.length_set]; exact List.getElem?_eq_none_iff.mp q
        | some x =>
          have := h v List.mem_cons_self x q
          subst this
          rw [List.getElem?_set_self (List.getElem?_eq_some_iff.mp q).1]
      · rw [List.getElem?_set_ne hi]
  refine this vs _ fun v hv x hx => ?_
  cases x with
  | none => rfl
  | some y => exact absurd hv (wipe_some hx).2
theorem rd_lc {w : Wd} {it : Sem1 Src} {t : Tg} {c : Sem1 Bool} {elt : Ev} {own : List Nat} {Q : VK} (h : rdR w (lcS it t c elt own) σ H Q) : tLc (rdI w it) (rdG w.calm t) (rdT w.calm c) (rdR w.calm elt) own σ H Q := by
  obtain ⟨C, F, e, R, P⟩ := h
  refine ⟨C, F, e, R, ?_⟩
  unfold lcS at P
  cases h1 : it e with
  | no => rw [h1] at P; exact P
  | ex x e1 => rw [h1] at P; exact fun F' H' cv od R E q => P F' H' cv od R E q
  | ok s e1 =>
    rw [h1] at P
    intro C' J F' H' R' E back ok
    have P : Post w (RR w.K) C F σ Q (if s.items.length ≤ sizeLine ∧ (∀ i ∈ t.ix, i ∈ own) then match lcTurns t c elt own s.items (wipeE e1 own) with
      | none => .no
      | some (ds, e2) => .ok (.fresh ds) (unlend s.lend (backE e1 own e2)) else .no) := P
    split at P
    · rename_i hc
      obtain ⟨hlen, hown⟩ := hc
      split at P
      · exact P.elim
      · rename_i ds e2 hrun
        obtain ⟨Gd, Y, wk, hGd, hY⟩ := ok.ex
        intro p hp
        obtain ⟨Rn, hM, hF, ap⟩ := R'.grow (o := .lst []) hp
        refine lc_it wk (fun i H1 => ∃ F1 eb vs acc rest e3, Rp w.K C' F1 H1 eb (wipe σ own) ∧ Ext F' F1 ∧ F1 p = none ∧ Apar w.K H1 eb (wipe σ own) p ∧ H1 p = some (.lst vs) ∧ DpAll w.K F1 vs acc ∧ lcTurns t c elt own (s.items.drop i) eb = some (rest, e3) ∧ ds = acc ++ rest ∧ e3 = e2)
          ⟨F', wipeE e1 own, [], [], ds, e2, Rn.wipe own, .refl F', hF, ap.wipe own, upd_same, .nil, hrun, rfl, rfl⟩ (fun i H1 _ ⟨F1, eb, vs, acc, rest, e3, R1, E1, _⟩ => hGd F1 H1 eb _ R1 E1) ?_ ?_
        · rintro i x H1 H2 hi ⟨F1, eb, vs, acc, rest, e3, R1, E1, pF, pa, pH, pd, run, eds, ee⟩ y
          -- the list at p is held off
          have R1' := R1.hold pH pF hM pa
          obtain ⟨d, hd, res⟩ := hY i x H1 H2 F1 E1 R1.ext R1.tup y hi
          obtain ⟨F2, R2, E2, q2⟩ := res.rp R1'
          have hdrop : s.items.drop i = d :: s.items.drop (i + 1) := by
            rw [← List.getElem_cons_drop (h := hi)]
            rw [List.getElem?_eq_getElem hi] at hd
            rw [Option.some.inj hd]
          rw [hdrop] at run
          unfold lcTurns at run
          split at run
          · cases run
          · rename_i ea htr
            refine ⟨C'.hold H1 p, F2, eb, d, ea, R2, q2, htr, fun σ2 R3 hw => ⟨by rw [hw own hown, wipe_idem], C'.hold H1 p, F2, ea, R3, ?_⟩⟩
            have hw' : wipe σ2 own = wipe σ own := by rw [hw own hown, wipe_idem]
            split at run
            · -- kept
              rename_i eb2 hcb
              rw [hcb]
              intro b F3 H3 R4 E3 qb
              cases qb
              refine iteT ?_
              split at run
              · rename_i yd e4 hy
                obtain ⟨⟨rest', e5⟩, hr1, hr2⟩ := Option.bind_eq_some_iff.mp run
                cases hr2
                refine rd_toD ⟨C'.hold H1 p, F3, eb2, R4, ?_⟩
                rw [hy]
                intro v F4 H4 R5 E4 qv
                obtain ⟨R6, k1, k2, k3⟩ := R1.drop (o := .lst (vs ++ [v])) R5 hM
                have E14 : Ext F1 F4 := (E2.trans E3).trans E4
                have hl : acc.length < sizeLine := by
                  have h0 := lcTurns_len hrun
                  have h1 : ds.length = acc.length + (rest'.length + 1) := by rw [eds, List.length_append, List.length_cons]
                  omega
                refine ⟨vs, k1.trans pH, by rw [pd.length]; exact hl, F4, wipeE e4 own, vs ++ [v], acc ++ [yd], rest', e5, ?_, E1.trans E14, k2, hw' ▸ k3.wipe own, upd_same, (pd.ext E14).append (.cons qv .nil), hr1, by rw [eds, List.append_assoc]; rfl, ee⟩
                · have := R6.wipe own
                  rwa [hw'] at this
              · cases run
            · -- left out
              rename_i eb2 hcb
              rw [hcb]
              intro b F3 H3 R4 E3 qb
              cases qb
              refine iteF ?_
              obtain ⟨R6, k1, k2, k3⟩ := R1.drop (o := .lst vs) R4 hM
              have hu : upd H3 p (.lst vs) = H3 := by
                funext a
                by_cases ha : a = p
                · subst ha; rw [upd_same, k1, pH]
                · rw [upd_ne ha]
              rw [hu] at R6 k3
              have E13 : Ext F1 F3 := E2.trans E3
              refine ⟨F3, wipeE eb2 own, vs, acc, rest, e3, ?_, E1.trans E13, k2, hw' ▸ k3.wipe own, k1.trans pH, pd.ext E13, run, eds, ee⟩
              · have := R6.wipe own
                rwa [hw'] at this
            · cases run
        · rintro H1 ⟨F1, eb, vs, acc, rest, e3, R1, E1, pF, pa, pH, pd, run, eds, ee⟩
          rw [List.drop_length] at run
          cases run
          subst ee
          rw [List.append_nil] at eds
          subst eds
          have Ru := R'.unwipe R1 E1
          refine P _ F1 H1 (back.rp _ _ _ _ Ru) (E.trans E1) (back.rv _ _ _ _ ds _ Ru ⟨p, vs, rfl, pH, pd, pF, hM, pa.unwipe⟩)
    · exact P.elim
end VI
set_option Elab.async false
set_option linter.all false
set_option maxRecDepth 100000
set_option maxHeartbeats 4000000
namespace VI
open PySem PySem.Spec PyProof.Rows L2
variable {K : PySem.W.Frag} {C : Cf} {F H : Hp} {e e' : Env} {σ : L2.St}
section
variable {X : Cx} {W : WX} {XR : Hp → Hp → Xc → Value → Option Addr → Prop}
theorem pts_mono {X : Cx} {ifs : List Expr} {t t' : TT} (h : PTs X ifs t) (w : ∀ σ H Q, t' σ H Q → t σ H Q) : PTs X ifs t' := ⟨fun pins s σ H Q I q => h.run pins s σ H Q I (w σ H Q q)⟩
theorem vts_nil {X : Cx} {w : Wd} : PTs X [] (rdT w yesT) := pts_mono pts_nil fun σ H Q q => by
  obtain ⟨C, F, e, R, P⟩ := q
  exact P.ok' R rfl
theorem vts_one {X : Cx} {w : Wd} {c : Expr} {t : Sem1 Bool} (h : PT X c (rdT w t)) : PTs X [c] (rdT w t) := pts_one h
theorem ve_lc {elt tg iter : Expr} {ifs : List Expr} {scope : Scope} {own : List (Str × Nat)} {pos : Pos} {it : Sem1 Src} {t : Tg} {c : Sem1 Bool} {el : Ev} (hc : X.calm = true) (hN : X.N.Nodup) (hi : PI X tg iter (rdI (wd X W XR) it)) (ok : BlkOk X.N X.env.scope scope own)
    (hg : ∀ (s : Shared) (H : Hp) (C : Addr) (cl : List (Str × Addr)) (fp : List Addr), PG (X.blk s H scope (compEnvC scope cl C X.env) fp) tg (rdG (wd X (fun _ _ _ _ => False) XR) t)) (ht : ∀ (s : Shared) (H : Hp) (C : Addr) (cl : List (Str × Addr)) (fp : List Addr), PTs (X.blk s H scope (compEnvC scope cl C X.env) fp) ifs (rdT (wd X (fun _ _ _ _ => False) XR) c))
    (he : ∀ (s : Shared) (H : Hp) (C : Addr) (cl : List (Str × Addr)) (fp : List Addr), PE (X.blk s H scope (compEnvC scope cl C X.env) fp) elt (rdR (wd X (fun _ _ _ _ => False) XR) el)) (hs : ∀ x, foldedSetIterable iter X.env x = pure x := by intro _; rfl) :
    PE X (.ListComp elt [⟨tg, iter, ifs, 0⟩] scope pos) (rdR (wd X W XR) (lcS it t c el (own.map (·.2)))) := pe_mono (pe_lc hc hN hi ok hg ht he hs) fun _ _ _ h => rd_lc h
/-- name = [..] on one line -/
theorem vs_asgLc {i : Nat} {y : Str} {py : Pos} {elt tg iter : Expr} {ifs : List Expr} {scope : Scope} {own : List (Str × Nat)} {pos spos : Pos} {it : Sem1 Src} {t : Tg} {c : Sem1 Bool} {el : Ev} (hc : X.calm = true) (hN : X.N.Nodup) (hy : X.N[i]? = some y) (hyl : X.env.scope.names.lookup y = some .local)
    (hsw : swapsWith (.ListComp elt [⟨tg, iter, ifs, 0⟩] scope pos) (some (.Name y py)) spos.line X.env = pure true) (hi : PI X tg iter (rdI (wd X W XR) it)) (ok : BlkOk X.N X.env.scope scope own)
    (hg : ∀ (s : Shared) (H : Hp) (C : Addr) (cl : List (Str × Addr)) (fp : List Addr), PG (X.blk s H scope (compEnvC scope cl C X.env) fp) tg (rdG (wd X (fun _ _ _ _ => False) XR) t)) (ht : ∀ (s : Shared) (H : Hp) (C : Addr) (cl : List (Str × Addr)) (fp : List Addr), PTs (X.blk s H scope (compEnvC scope cl C X.env) fp) ifs (rdT (wd X (fun _ _ _ _ => False) XR) c))
    (he : ∀ (s : Shared) (H : Hp) (C : Addr) (cl : List (Str × Addr)) (fp : List Addr), PE (X.blk s H scope (compEnvC scope cl C X.env) fp) elt (rdR (wd X (fun _ _ _ _ => False) XR) el)) (hs : ∀ x, foldedSetIterable iter X.env x = pure x := by intro _; rfl) :
    PS X (.Assign [.Name y py] (.ListComp elt [⟨tg, iter, ifs, 0⟩] scope pos) spos) (rdS (wd X W XR) (asgS i (lcS it t c el (own.map (·.2))))) := ps_mono (ps_setLc hc hN hy hyl hsw hi ok hg ht he hs) fun D σ H h => by
  have h := rd_asg h
  show tLc _ _ _ _ _ σ H _
  exact rd_lc h
end
def mvR : Rv → Env → Rs Rv
  | .bor i, e => (frz (.bor i) e).bind fun d e1 => .ok (.fz d) e1
  | r, e => .ok r e
def mvs : List Ev → Sem1 (List Rv)
  | [] => fun e => .ok [] e
  | a :: as => fun e => ((a e).bind mvR).bind fun x e1 => (mvs as e1).bind fun xs e2 => .ok (x :: xs) e2
/-- .. each lies still or is a new list of its own -/
def RMs (K : PySem.W.Frag) : Cf → Hp → Hp → Env → L2.St → List Rv → List V → Prop
  | _, _, _, _, _, [], [] => True
  | C, F, H, e, σ, r :: rs, v :: vs => RvR K C F H e σ r v ∧ (∀ i, r ≠ .bor i) ∧ (∀ ds, r = .fresh ds → ∀ r' v', (r', v') ∈ rs.zip vs → r'.still = false → v' ≠ v) ∧ RMs K C F H e σ rs vs
  | _, _, _, _, _, _, _ => False
abbrev rdMs (w : Wd) (a : Sem1 (List Rv)) : TA := Rd w (RMs w.K) a
theorem RMs.apart (R : Rp K C F H e σ) {p : Addr} {H0 : Hp} (hM : ¬ C.M p) (R2 : Rp K (C.hold H0 p) F H e σ) : ∀ {rs : List Rv} {vs : List V}, RMs K (C.hold H0 p) F H e σ rs vs → RMs K C F H e σ rs vs ∧ ∀ r' v', (r', v') ∈ rs.zip vs → r'.still = false → v' ≠ .ref p
  | [], [], _ => ⟨trivial, fun _ _ h => by simp at h⟩
  | r :: rs, v :: vs, h => by
    obtain ⟨h1, h2, h3, h4⟩ := h
    obtain ⟨i1, i2⟩ := RMs.apart R hM R2 h4
    refine ⟨⟨?_, h2, h3, i1⟩, fun r' v' hm hs => ?_⟩
    · cases r with
      | fz d => exact h1
      | fresh ds =>
        obtain ⟨q, vs, rfl, k1, k2, k3, k4, k5⟩ := h1
        exact ⟨q, vs, rfl, k1, k2, k3, fun z => k4 (.inl z), k5⟩
      | bor i => exact absurd rfl (h2 i)
    · rw [List.zip_cons_cons, List.mem_cons] at hm
      rcases hm with hm | hm
      · cases hm
        cases r with
        | fz d => cases hs
        | fresh ds =>
          obtain ⟨q, vs, rfl, k1, k2, k3, k4, k5⟩ := h1
          exact fun z => by injection z with z; exact k4 (.inr z)
        | bor i => exact absurd rfl (h2 i)
      · exact i2 r' v' hm hs
  | [], _ :: _, h => h.elim
  | _ :: _, [], h => h.elim
theorem rd_mvs_nil {w : Wd} {Q : List V → Hp → Prop} (h : rdMs w (mvs []) σ H Q) : tNil σ H Q := by
  obtain ⟨C, F, e, R, P⟩ := h
  exact P.ok' R trivial
theorem Post.mvR {w : Wd} {r : Rv} {v : V} (R : Rp w.K C F H e σ) (q : RvR w.K C F H e σ r v) {α β : Type} {RA : Cf → Hp → Hp → Env → L2.St → α → β → Prop} {Q : β → Hp → Prop} {f : Rv → Env → Rs α}
    (P : Post w RA C F σ Q ((mvR r e).bind f)) : ∃ F' e1 x, Rp w.K C F' H e1 σ ∧ Ext F F' ∧ RvR w.K C F' H e1 σ x v ∧ (∀ i, x ≠ .bor i) ∧ Post w RA C F' σ Q (f x e1) := by
  cases r with
  | fz d => exact ⟨F, e, _, R, .refl F, q, fun _ z => (by cases z), P⟩
  | fresh ds => exact ⟨F, e, _, R, .refl F, q, fun _ z => (by cases z), P⟩
  | bor i =>
    have h' : σ[i]? = some (some v) := q
    unfold VI.mvR VI.frz at P
    simp only at P
    split at P
    · rename_i d hd
      obtain ⟨u, hu, z⟩ := R.sl _ _ hd
      rw [h'] at hu; cases hu
      exact ⟨F, e, .fz d, R, .refl F, z, fun _ z => (by cases z), P⟩
    · rename_i ds hd
      obtain ⟨F', u, R', E, hu, z⟩ := R.rest hd
      rw [h'] at hu; cases hu
      exact ⟨F', _, .fz (.list ds), R', E, z, fun _ z => (by cases z), Post.mono E P⟩
    · exact P.elim
theorem rd_mvs_cons {w : Wd} {a : Ev} {as : List Ev} {Q : List V → Hp → Prop} (h : rdMs w (mvs (a :: as)) σ H Q) : tCons (rdR w a) (rdMs w (mvs as)) σ H Q := by
  obtain ⟨C, F, e, R, P⟩ := h
  have P : Post w (RMs w.K) C F σ Q ((a e).bind fun r e0 => (mvR r e0).bind fun x e1 => (mvs as e1).bind fun xs e2 => .ok (x :: xs) e2) := by rw [← rs_assoc]; exact P
  refine bindP R P fun F1 H1 e1 r v h1 R1 E1 q1 P1 => ?_
  obtain ⟨F2, e2, x, R2, E2, q2, nb, P2⟩ := P1.mvR R1 q1
  cases x with
  | bor i => exact absurd rfl (nb i)
  | fz d =>
    refine bindP R2 P2 fun F3 H3 e3 xs vs h3 R3 E3 q3 P3 => ?_
    exact P3.ok' R3 ⟨show RvR _ _ _ _ _ _ (.fz d) v from Dp.ext E3 q2, nb, (fun ds z => by cases z), q3⟩
  | fresh ds =>
    obtain ⟨p, ws, rfl, hp, hd, hF, hM, ap⟩ := q2
    -- the new list is held off while the rest is reckoned
    have Rh := R2.hold hp hF hM ap
    refine ⟨C.hold H1 p, F2, e2, Rh, ?_⟩
    cases h3 : mvs as e2 with
    | no => rw [h3] at P2; exact P2
    | ex x e3 =>
      rw [h3] at P2
      intro F' H' cv od R' E' q
      obtain ⟨R6, k1, k2, k3⟩ := R2.drop (o := .lst ws) R' hM
      have hu : upd H' p (.lst ws) = H' := by
        funext a
        by_cases ha : a = p
        · subst ha; rw [upd_same, k1, hp]
        · rw [upd_ne ha]
      rw [hu] at R6
      exact P2 F' H' cv od R6 E' q
    | ok xs e3 =>
      rw [h3] at P2
      intro vs F' H' R' E' q
      obtain ⟨R6, k1, k2, k3⟩ := R2.drop (o := .lst ws) R' hM
      have hu : upd H' p (.lst ws) = H' := by
        funext a
        by_cases ha : a = p
        · subst ha; rw [upd_same, k1, hp]
        · rw [upd_ne ha]
      rw [hu] at R6 k3
      obtain ⟨q', na⟩ := RMs.apart R6 hM R' q
      exact P2 _ F' H' R6 E' ⟨⟨p, ws, rfl, k1.trans hp, hd.ext E', k2, hM, k3⟩, nb, fun _ _ => na, q'⟩
section
variable {w : Wd} {X : Cx} {ex : Expr} {es : List Expr} {a : Ev} {as : List Ev} {pos : Pos}
theorem vm_nil : PA X [] (rdMs w (mvs [])) := pa_mono pa_nil fun _ _ _ h => rd_mvs_nil h
theorem vm_cons (ha : PE X ex (rdR w a)) (hr : PA X es (rdMs w (mvs as))) (hs : starEach (ex :: es) X.env = (false, eval ex X.env) :: starEach es X.env := by rfl) : PA X (ex :: es) (rdMs w (mvs (a :: as))) :=
  pa_mono (pa_cons ha hr hs) fun _ _ _ h => rd_mvs_cons h
end
/-- stores one after another -/
def stores : List Nat → List Rv → Env → Rs Fl
  | [], [], e => .ok .nx e
  | i :: is, r :: rs, e => (store i r e).bind fun _ e1 => stores is rs e1
  | _, _, _ => .no
def parS (is : List Nat) (as : List Ev) : St1 := fun e => (mvs as e).bind fun rs e1 => stores is rs e1
def setAll : List Nat → List V → L2.St → L2.St
  | i :: is, v :: vs, σ => setAll is vs (σ.set i (some v))
  | _, _, σ => σ
theorem store_fz {w : Wd} {D : Ends} {i : Nat} {r : Rv} {v : V} {f : Fl → Env → Rs Fl} (R : Rp w.K C F H e σ) (q : RvR w.K C F H e σ r v) (nb : ∀ i, r ≠ .bor i) (P : PostS w C F D ((store i r e).bind f)) :
    ∃ e1, freeAt e i = true ∧ Rp w.K C F H e1 (σ.set i (some v)) ∧ PostS w C F D (f .nx e1) ∧ ∀ r' v', RvR w.K C F H e σ r' v' → (∀ j, r' ≠ .bor j) → (r'.still = false → r.still = false → v' ≠ v) → RvR w.K C F H e1 (σ.set i (some v)) r' v' := by
  cases r with
  | bor j => exact absurd rfl (nb j)
  | fz d =>
    have P : PostS w C F D ((if freeAt e i then .ok .nx (e.set i (some (.fz d))) else .no : Rs Fl).bind f) := P
    split at P
    · rename_i hf
      refine ⟨_, hf, R.put hf q, P, fun r' v' q' nb' _ => ?_⟩
      cases r' with
      | fz d' => exact q'
      | bor j => exact absurd rfl (nb' j)
      | fresh ds =>
        obtain ⟨p, ws, rfl, k1, k2, k3, k4, k5⟩ := q'
        refine ⟨p, ws, rfl, k1, k2, k3, k4, fun j y hy my hs => ?_, k5.2.set fun b t z => by cases z⟩
        rcases getset hy with ⟨rfl, z⟩ | ⟨hj, hy⟩
        · cases z; cases my
        · rw [List.getElem?_set_ne hj] at hs; exact k5.1 j y hy my hs
    · exact P.elim
  | fresh ds0 =>
    obtain ⟨p0, ws0, rfl, m1, m2, m3, m4, m5⟩ := q
    have P : PostS w C F D ((if freeAt e i then .ok .nx (e.set i (some (.own ds0))) else .no : Rs Fl).bind f) := P
    split at P
    · rename_i hf
      refine ⟨_, hf, R.putOwn hf m1 m2 m3 m4 m5, P, fun r' v' q' nb' hne => ?_⟩
      cases r' with
      | fz d' => exact q'
      | bor j => exact absurd rfl (nb' j)
      | fresh ds =>
        obtain ⟨p, ws, rfl, k1, k2, k3, k4, k5⟩ := q'
        refine ⟨p, ws, rfl, k1, k2, k3, k4, fun j y hy my hs => ?_, k5.2.set fun b t z => by cases z⟩
        rcases getset hy with ⟨rfl, z⟩ | ⟨hj, hy⟩
        · have : i < σ.length := by
            rw [← R.len]
            unfold freeAt at hf
            split at hf <;> first | (cases hf; done) | skip
            rename_i hs; exact (List.getElem?_eq_some_iff.mp hs).1
          rw [List.getElem?_set_self this] at hs
          cases hs
          exact hne rfl rfl rfl
        · rw [List.getElem?_set_ne hj] at hs; exact k5.1 j y hy my hs
    · exact P.elim
theorem PostS.stores {w : Wd} {D : Ends} : ∀ {is : List Nat} {rs : List Rv} {vs : List V} {e : Env} {σ : L2.St}, Rp w.K C F H e σ → RMs w.K C F H e σ rs vs → PostS w C F D (stores is rs e) → vs.length = is.length ∧ D.nx (setAll is vs σ) H
  | [], [], [], e, σ, R, _, P => ⟨rfl, P.nx' R⟩
  | i :: is, r :: rs, v :: vs, e, σ, R, q, P => by
    obtain ⟨q1, q2, q3, q4⟩ := q
    obtain ⟨e1, hf, R1, P1, tr⟩ := store_fz R q1 q2 P
    have q4' : RMs w.K C F H e1 (σ.set i (some v)) rs vs := by
      clear P P1
      induction rs generalizing vs with
      | nil => cases vs <;> first | trivial | exact q4.elim
      | cons r' rs ih =>
        cases vs with
        | nil => exact q4.elim
        | cons v' vs =>
          obtain ⟨z1, z2, z3, z4⟩ := q4
          refine ⟨tr r' v' z1 z2 fun h1 h2 => ?_, z2, z3, ih vs (fun ds hr r'' v'' hm => q3 ds hr r'' v'' (by rw [List.zip_cons_cons]; exact List.mem_cons_of_mem _ hm)) z4⟩
          cases r with
          | fz d => cases h2
          | bor j => exact absurd rfl (q2 j)
          | fresh ds => exact q3 ds rfl r' v' (by rw [List.zip_cons_cons]; exact List.mem_cons_self) h1
    obtain ⟨l, k⟩ := PostS.stores R1 q4' P1
    exact ⟨by rw [List.length_cons, List.length_cons, l], k⟩
  | [], _ :: _, [], _, _, _, q, _ => q.elim
  | [], [], _ :: _, _, _, _, q, _ => q.elim
  | [], _ :: _, _ :: _, _, _, _, _, P => P.elim
  | _ :: _, [], _, _, _, _, _, P => P.elim
  | _ :: _, _ :: _, [], _, _, _, q, _ => q.elim
theorem rd_par {w : Wd} {D : Ends} {is : List Nat} {as : List Ev} (h : rdS w (parS is as) D σ H) : rdMs w (mvs as) σ H fun vs H1 => vs.length = is.length ∧ D.nx (setAll is vs σ) H1 := by
  obtain ⟨C, F, e, R, P⟩ := h
  exact bindS R P fun F1 H1 e1 rs vs h1 R1 E1 q1 P1 => PostS.stores R1 q1 P1
section
variable {X : Cx} {w : Wd} {i j l : Nat} {x y z : Str} {a b c : Expr} {as : List Ev} {px py pz pt pos : Pos}
theorem vs_par2 {kt k2 : Nat} {pt2 : Pos} (hc : X.calm = true) (hN : X.N.Nodup) (hi : X.N[i]? = some x) (hj : X.N[j]? = some y) (hij : i ≠ j)
    (hx : X.env.scope.names.lookup x = some .local) (hy : X.env.scope.names.lookup y = some .local) (ha : PA X [a, b] (rdMs w (mvs as)))
    (hw : swappedStores [.Tuple [.Name x px, .Name y py] kt pt] (.Tuple [a, b] k2 pt2) X.env = pure (some [x, y]))
    (hs : swapsWithSole [.Tuple [.Name x px, .Name y py] kt pt] (.Tuple [a, b] k2 pt2) pos.line X.env = pure false := by rfl) :
    PS X (.Assign [.Tuple [.Name x px, .Name y py] kt pt] (.Tuple [a, b] k2 pt2) pos) (rdS w (parS [i, j] as)) := ps_mono (ps_par hc hN hi hj hij hx hy ha hw hs) fun D σ H h => by
  obtain ⟨C, F, e, R, P⟩ := rd_par h
  refine ⟨C, F, e, R, ?_⟩
  cases h1 : mvs as e with
  | no => rw [h1] at P; exact P
  | ex x e1 => rw [h1] at P; exact P
  | ok rs e1 =>
    rw [h1] at P
    intro vs F' H' R' E q
    obtain ⟨hl, hn⟩ := P vs F' H' R' E q
    match vs, hl, hn with
    | [v, u], _, hn => exact ⟨v, u, rfl, hn⟩
theorem vs_par3 {kt k2 : Nat} {pt2 : Pos} (hc : X.calm = true) (hN : X.N.Nodup) (hi : X.N[i]? = some x) (hj : X.N[j]? = some y) (hl : X.N[l]? = some z) (hij : i ≠ j) (hil : i ≠ l) (hjl : j ≠ l)
    (hx : X.env.scope.names.lookup x = some .local) (hy : X.env.scope.names.lookup y = some .local) (hz : X.env.scope.names.lookup z = some .local) (ha : PA X [a, b, c] (rdMs w (mvs as)))
    (hw : swappedStores [.Tuple [.Name x px, .Name y py, .Name z pz] kt pt] (.Tuple [a, b, c] k2 pt2) X.env = pure (some [x, y, z]))
    (hs : swapsWithSole [.Tuple [.Name x px, .Name y py, .Name z pz] kt pt] (.Tuple [a, b, c] k2 pt2) pos.line X.env = pure false := by rfl) :
    PS X (.Assign [.Tuple [.Name x px, .Name y py, .Name z pz] kt pt] (.Tuple [a, b, c] k2 pt2) pos) (rdS w (parS [i, j, l] as)) := ps_mono (ps_par3 hc hN hi hj hl hij hil hjl hx hy hz ha hw hs) fun D σ H h => by
  obtain ⟨C, F, e, R, P⟩ := rd_par h
  refine ⟨C, F, e, R, ?_⟩
  cases h1 : mvs as e with
  | no => rw [h1] at P; exact P
  | ex x e1 => rw [h1] at P; exact P
  | ok rs e1 =>
    rw [h1] at P
    intro vs F' H' R' E q
    obtain ⟨hl, hn⟩ := P vs F' H' R' E q
    match vs, hl, hn with
    | [v, u, t], _, hn => exact ⟨v, u, t, rfl, hn⟩
end
end VI
set_option Elab.async false
set_option linter.all false
set_option maxRecDepth 100000
set_option maxHeartbeats 4000000
namespace VI
open PySem PySem.Spec PyProof.Rows L2
variable {K : PySem.W.Frag} {C : Cf} {F H : Hp} {e e' : Env} {σ : L2.St}
/-- the list at a name that may be changed -/
def mutAt (e : Env) (i : Nat) : Option (List D) := match e[i]? with
  | some (some (.own ds)) => some ds
  | some (some (.io ds)) => some ds
  | _ => none
def putAt (e : Env) (i : Nat) (ds : List D) : Env := match e[i]? with
  | some (some (.own _)) => e.set i (some (.own ds))
  | some (some (.io _)) => e.set i (some (.io ds))
  | _ => e
theorem Rp.mutAt (R : Rp K C F H e σ) {i : Nat} {ds : List D} (h : VI.mutAt e i = some ds) : ∃ p vs, σ[i]? = some (some (.ref p)) ∧ H p = some (.lst vs) ∧ DpAll K F vs ds ∧ F p = none ∧
    (∀ {F' H' : Hp} {ys : List V} {ds' : List D}, Rp K C F' H' e σ → DpAll K F' ys ds' → Rp K C F' (upd H' p (.lst ys)) (putAt e i ds') σ) ∧
    (∀ {F' H' : Hp} {e2 : Env} {ds2 : List D}, Rp K C F' H' e2 σ → VI.mutAt e2 i = some ds2 → ∃ ws, H' p = some (.lst ws) ∧ DpAll K F' ws ds2 ∧ F' p = none) := by
  unfold VI.mutAt at h
  have again : ∀ {p : Addr} {F' H' : Hp} {e2 : Env} {ds2 : List D}, σ[i]? = some (some (.ref p)) → Rp K C F' H' e2 σ → VI.mutAt e2 i = some ds2 → ∃ ws, H' p = some (.lst ws) ∧ DpAll K F' ws ds2 ∧ F' p = none := fun {p F' H' e2 ds2} hv R' h' => by
    unfold VI.mutAt at h'
    split at h'
    · rename_i ds hd
      cases h'
      obtain ⟨v, hv', p', vs, rfl, h1, h2, h3, h4⟩ := R'.sl _ _ hd
      rw [hv] at hv'; cases hv'
      exact ⟨vs, h1, h2, h3⟩
    · rename_i ds hd
      cases h'
      obtain ⟨v, hv', vs, rfl, h1, h2, h3, h4⟩ := R'.sl _ _ hd
      rw [hv] at hv'; cases hv'
      exact ⟨vs, h1, h2, h3⟩
    · cases h'
  -- the store
  have st : ∀ {p : Addr} {sv : List D → Sv}, (∀ ds, (sv ds).mu = true) → e[i]? = some (some (sv ds)) → σ[i]? = some (some (.ref p)) → ¬ C.M p → (∀ {F' H' : Hp}, Rp K C F' H' e σ → F' p = none) →
      (∀ {F' H' : Hp} {ys : List V} {ds' : List D}, H' p = some (.lst ys) → DpAll K F' ys ds' → F' p = none → SvR K C F' H' i (sv ds') (.ref p)) →
      ∀ {F' H' : Hp} {ys : List V} {ds' : List D}, Rp K C F' H' e σ → DpAll K F' ys ds' → Rp K C F' (upd H' p (.lst ys)) (e.set i (some (sv ds'))) σ := fun {p sv} hmu hd hv hM hF hsv {F' H' ys ds'} R' hy => by
    have pF := hF R'
    have ne : ∀ j y, j ≠ i → e[j]? = some (some y) → y.mu = true → σ[j]? ≠ some (some (.ref p)) := fun j y hj hy my z => R'.ne i j _ _ (Ne.symm hj) hd hy (hmu _) my (by rw [hv, z])
    have lowT : ∀ {j : Nat} {y : Bool × OT}, (e.set i (some (sv ds')))[j]? = some (some (Sv.tr y.1 y.2)) → e[j]? = some (some (Sv.tr y.1 y.2)) := fun {j y} h => by
      rcases getset h with ⟨rfl, h'⟩ | ⟨hj, h⟩
      · have := hmu ds'; rw [Option.some.inj h'] at this; cases this
      · exact h
    have kT : ∀ a, H' a ≠ none → F' a = none → ¬ C.M a → (∃ i fp, TrAt K H' e σ i fp ∧ a ∈ fp) → upd H' p (.lst ys) a = H' a := fun a _ _ _ ⟨j, fp, ht, ha⟩ => upd_ne fun z => (R'.tn j fp ht).1 a ha i _ hd (hmu _) (by rw [hv, z])
    have t1 := tn_sub R'.tn (e2 := e.set i (some (sv ds'))) (σ2 := σ) (fun j y hy => lowT hy) fun j y hy my => by
      rcases getset hy with ⟨rfl, hy'⟩ | ⟨hj, hy⟩
      · exact ⟨_, hd, hmu _, rfl⟩
      · exact ⟨_, hy, my, rfl⟩
    have upT : ∀ {j fp}, TrAt K (upd H' p (.lst ys)) (e.set i (some (sv ds'))) σ j fp → TrAt K H' (e.set i (some (sv ds'))) σ j fp := fun {j fp} h => by
      obtain ⟨b, t, v, F2, he, hv2, o⟩ := h
      have T := R'.trBack kT (i := j) (fp := fp) ⟨b, t, v, F2, lowT (y := (b, t)) he, hv2, o⟩
      obtain ⟨b', t', v', F3, he', hv3, o'⟩ := T
      rw [lowT (y := (b, t)) he] at he'; cases he'
      rw [hv2] at hv3; cases hv3
      exact ⟨b, t, v, F3, he, hv2, o'⟩
    refine ⟨by rw [List.length_set]; exact R'.len, R'.ext.mut pF, R'.off, fun a ha => ?_, fun j x hx => ?_, R'.ml, fun j k x y hjk hx hy mx my => ?_, fun j fp h => ⟨(t1 j fp (upT h)).1, fun k fp' hk h' => (t1 j fp (upT h)).2 k fp' hk (upT h')⟩, R'.tup.mut fun xs z => by cases z⟩
    · rw [upd_ne (show a ≠ p from fun z => hM (z ▸ ha))]; exact R'.frm a ha
    · rcases getset hx with ⟨rfl, hx'⟩ | ⟨hj, hx⟩
      · cases hx'; exact ⟨_, hv, hsv upd_same hy pF⟩
      · obtain ⟨u, hu, q⟩ := R'.sl j x hx
        refine ⟨u, hu, ?_⟩
        cases x with
        | fz d => exact q
        | own ds' =>
          obtain ⟨p', vs', rfl, h1, h2, h3, h4⟩ := q
          exact ⟨p', vs', rfl, by rw [upd_ne (show p' ≠ p from fun z => ne j _ (Ne.symm hj) hx rfl (by rw [hu, z]))]; exact h1, h2, h3, h4⟩
        | lent ds' =>
          obtain ⟨vs', rfl, h1, h2, h3⟩ := q
          exact ⟨vs', rfl, by rw [upd_ne (show C.lam j ≠ p from fun z => hM (z ▸ R'.ml j h3))]; exact h1, h2, h3⟩
        | io ds' =>
          obtain ⟨vs', rfl, h1, h2, h3, h4⟩ := q
          exact ⟨vs', rfl, by rw [upd_ne (show C.lam j ≠ p from fun z => ne j _ (Ne.symm hj) hx rfl (by rw [hu, z]))]; exact h1, h2, h3, h4⟩
        | tr b t =>
          obtain ⟨fp, o, nd, h, hb⟩ := q
          exact ⟨fp, o.ext (.refl F') fun a ha => kT a (o.some a ha) (h a ha).1 (h a ha).2 ⟨j, fp, ⟨b, t, u, F', hx, hu, o⟩, ha⟩, nd, h, hb⟩
    · rcases getset hx with ⟨rfl, hx'⟩ | ⟨hj, hx⟩
      · rcases getset hy with ⟨rfl, hy'⟩ | ⟨hk, hy⟩
        · exact absurd rfl hjk
        · rw [hv]; exact fun z => ne k y (Ne.symm hk) hy my z.symm
      · rcases getset hy with ⟨rfl, hy'⟩ | ⟨hk, hy⟩
        · rw [hv]; exact fun z => ne j x (Ne.symm hj) hx mx z
        · exact R'.ne j k x y hjk hx hy mx my
  split at h
  · rename_i ds' hd
    cases h
    obtain ⟨v, hv, p, vs, rfl, h1, h2, h3, h4⟩ := R.sl _ _ hd
    refine ⟨p, vs, hv, h1, h2, h3, fun {F' H' ys ds'} R' hy => ?_, fun R' h' => again hv R' h'⟩
    have : putAt e i ds' = e.set i (some (.own ds')) := by unfold putAt; rw [hd]
    rw [this]
    exact st (sv := .own) (fun _ => rfl) hd hv h4 (fun R' => (again hv R' (by unfold VI.mutAt; rw [hd])).elim fun _ z => z.2.2) (fun a b c => ⟨p, _, rfl, a, b, c, h4⟩) R' hy
  · rename_i ds' hd
    cases h
    obtain ⟨v, hv, vs, rfl, h1, h2, h3, h4⟩ := R.sl _ _ hd
    refine ⟨_, vs, hv, h1, h2, h3, fun {F' H' ys ds'} R' hy => ?_, fun R' h' => again hv R' h'⟩
    have : putAt e i ds' = e.set i (some (.io ds')) := by unfold putAt; rw [hd]
    rw [this]
    exact st (sv := .io) (fun _ => rfl) hd hv h4 (fun R' => (again hv R' (by unfold VI.mutAt; rw [hd])).elim fun _ z => z.2.2) (fun a b c => ⟨_, rfl, a, b, c, h4⟩) R' hy
  · cases h
abbrev FM := List D → List D → Option (D × List D)
def MutS (K : PySem.W.Frag) (f : FM) (r : V → List V → Hp → VK → Prop) : Prop := ∀ F H p xs vs dx ds z dx', Ext F H → H p = some (.lst xs) → F p = none → DpAll K F xs dx → DpAll K F vs ds → f dx ds = some (z, dx') → ∀ Q : VK, (∀ v ys, Dp K F v z → DpAll K F ys dx' → Q v (upd H p (.lst ys))) → r (.ref p) vs H Q
/-- name.method(args), the name's list is changed -/
def eM (f : FM) (i : Nat) (as : Sem1 (List D)) : Ev := fun e => match mutAt e i with
  | none => .no
  | some _ => (as e).bind fun ds e1 => match mutAt e1 i with
    | none => .no
    | some xs => match f xs ds with
      | none => .no
      | some (z, xs') => .ok (.fz z) (putAt e1 i xs')
theorem rd_mut {w : Wd} {f : FM} {r : V → List V → Hp → VK → Prop} {i : Nat} {as : Sem1 (List D)} (hs : MutS w.K f r) {Q : VK} (h : rdR w (eM f i as) σ H Q) : tBM w.K "list" r (rdR w (eV i)) (rdDs w as) σ H Q := by
  obtain ⟨C, F, e, R, P⟩ := h
  unfold eM at P
  cases hm : mutAt e i with
  | none => rw [hm] at P; exact P.elim
  | some xs0 =>
    rw [hm] at P
    have hev : eV i e = .ok (.bor i) e := by
      unfold mutAt at hm
      unfold eV
      split at hm <;> first | (cases hm; done) | skip
      all_goals (rename_i hq; rw [hq])
    refine ⟨C, F, e, R, ?_⟩
    rw [hev]
    intro v F1 H1 R1 E1 q1
    have q1 : σ[i]? = some (some v) := q1
    obtain ⟨p, ws, hv, hp, _⟩ := R1.mutAt hm
    rw [q1] at hv; cases hv
    refine ⟨.inl ⟨rfl, ws, .of hp⟩, ?_⟩
    have P := Post.mono E1 P
    refine bindP R1 P fun F2 H2 e2 ds vs h2 R2 E2 q2 P2 => ?_
    cases hm2 : mutAt e2 i with
    | none => rw [hm2] at P2; exact P2.elim
    | some xs =>
      rw [hm2] at P2
      simp only at P2
      cases hf : f xs ds with
      | none => rw [hf] at P2; exact P2.elim
      | some zz =>
        obtain ⟨z, xs'⟩ := zz
        rw [hf] at P2
        obtain ⟨p', ws', hv', hp', hd', hF', put, _⟩ := R2.mutAt hm2
        rw [q1] at hv'; cases hv'
        exact hs F2 H2 _ ws' vs xs ds z xs' R2.ext hp' hF' hd' q2 hf Q fun v ys qv qy => P2 v F2 _ (put R2 qy) (.refl F2) qv
/-- name[ix] = val -/
def setS (i : Nat) (ix val : Ev) : St1 := fun e => (toD val e).bind fun d e1 => match mutAt e1 i with
  | none => .no
  | some _ => (opd ix e1).bind fun k e2 => match k, mutAt e2 i with
    | .fz (.int k), some xs => match ixN xs.length k with
      | none => .no
      | some j => .ok .nx (putAt e2 i (xs.set j d))
    | _, _ => .no
theorem rd_set {w : Wd} {D : Ends} {i : Nat} {ix val : Ev} (h : rdS w (setS i ix val) D σ H) : tAsg (rdR w val) (gSub (rdR w (eV i)) (rdR w ix) rSetL) D σ H := by
  obtain ⟨C, F, e, R, P⟩ := h
  refine rd_toD (bindS R P fun F1 H1 e1 d v h1 R1 E1 q1 P1 => ?_)
  cases hm : mutAt e1 i with
  | none => rw [hm] at P1; exact P1.elim
  | some xs0 =>
    rw [hm] at P1
    have hev : eV i e1 = .ok (.bor i) e1 := by
      unfold mutAt at hm
      unfold eV
      split at hm <;> first | (cases hm; done) | skip
      all_goals (rename_i hq; rw [hq])
    refine ⟨C, F1, e1, R1, ?_⟩
    rw [hev]
    intro o F2 H2 R2 E2 qo
    have qo : σ[i]? = some (some o) := qo
    have P1 := PostS.mono E2 P1
    refine rd_opd (bindS R2 P1 fun F3 H3 e3 k u h3 R3 E3 q3 P3 => ?_)
    split at P3
    · rename_i kk xs hm3
      cases q3
      split at P3
      · exact P3.elim
      · rename_i j hj
        obtain ⟨p, ws, hv, hp, hd, hF, put, _⟩ := R3.mutAt hm3
        rw [qo] at hv; cases hv
        refine ⟨p, ws, kk, j, rfl, rfl, hp, by rw [hd.length]; exact hj, ?_⟩
        exact P3.nx' (put R3 (hd.set (Dp.ext (E2.trans E3) q1) j))
    · exact P3.elim
/-- f(name, args): the name's list may be changed -/
def eI (fn : List D → List D → Option (Ret × List D)) (i : Nat) (as : Sem1 (List D)) : Ev := fun e => match mutAt e i with
  | none => .no
  | some _ => (as e).bind fun ds e1 => match mutAt e1 i with
    | none => .no
    | some b => match fn b ds with
      | none => .no
      | some (.ok r, b') => .ok r (putAt e1 i b')
      | some (.ex x, b') => .ex x (putAt e1 i b')
theorem Rp.afterI (R : Rp K C F H e σ) {p : Addr} {i : Nat} {b b' : List D} {F' H' : Hp} {bs' : List V} (hm : VI.mutAt e i = some b) (hv : σ[i]? = some (some (.ref p))) (E : Ext F F') (E' : Ext F' H') (T : TupIn F' H') (frm : ∀ a, a ≠ p → H a ≠ none → F a = none → H' a = H a ∧ F' a = none) (hp : H' p = some (.lst bs')) (pF : F' p = none) (hd : DpAll K F' bs' b') :
    Rp K C F' H' (putAt e i b') σ := by
  obtain ⟨p', ws, hv', hp', hd', hF', put, _⟩ := R.mutAt hm
  rw [hv] at hv'; cases hv'
  -- the heap as if p's list had stayed
  have A : After F F' H (upd H' p (.lst ws)) := ⟨E, E'.mut pF, fun a h1 h2 => by
    by_cases ha : a = p
    · subst ha; rw [upd_same, hp']; exact ⟨rfl, pF⟩
    · rw [upd_ne ha]; exact frm a ha h1 h2, T.mut fun xs z => by cases z⟩
  have R1 := R.after A
  have R2 := put R1 hd
  have : upd (upd H' p (.lst ws)) p (.lst bs') = H' := by
    funext a
    by_cases ha : a = p
    · subst ha; rw [upd_same, hp]
    · rw [upd_ne ha, upd_ne ha]
  rwa [this] at R2
/-- a new list behind such a call is none of ours -/
theorem Rp.apartI (R : Rp K C F H e σ) {p q : Addr} {i : Nat} {b b' : List D} {F' H' : Hp} (hm : VI.mutAt e i = some b) (hv : σ[i]? = some (some (.ref p))) (frm : ∀ a, a ≠ p → H a ≠ none → F a = none → H' a = H a ∧ F' a = none) (hq : H q = none) : Apar K H' (putAt e i b') σ q := by
  have low : ∀ {j : Nat} {y : Sv}, (putAt e i b')[j]? = some (some y) → (y.mu = true ∧ ∃ y', e[j]? = some (some y') ∧ y'.mu = true) ∨ e[j]? = some (some y) := fun {j y} hy => by
    unfold putAt at hy
    split at hy
    · rename_i q hq
      rcases getset hy with ⟨rfl, z⟩ | ⟨hj, hy⟩
      · cases z; exact .inl ⟨rfl, _, hq, rfl⟩
      · exact .inr hy
    · rename_i q hq
      rcases getset hy with ⟨rfl, z⟩ | ⟨hj, hy⟩
      · cases z; exact .inl ⟨rfl, _, hq, rfl⟩
      · exact .inr hy
    · exact .inr hy
  have mu : ∃ y', e[i]? = some (some y') ∧ y'.mu = true := by
    unfold VI.mutAt at hm
    split at hm
    · rename_i q hq; exact ⟨_, hq, rfl⟩
    · rename_i q hq; exact ⟨_, hq, rfl⟩
    · cases hm
  refine ⟨fun j y hy my hs => ?_, fun j fp ht => ?_⟩
  · rcases low hy with ⟨_, y', hy', my'⟩ | hy
    · exact R.apart hq j y' hy' my' hs
    · exact R.apart hq j y hy my hs
  · obtain ⟨b2, t, v, F2, he, hv2, o⟩ := ht
    rcases low he with ⟨z, _⟩ | he
    · cases z
    · refine R.apT hq (fun a h0 h1 _ ⟨k, fp2, ht2, ha⟩ => (frm a (fun z => ?_) h0 h1).1) j fp ⟨b2, t, v, F2, he, hv2, o⟩
      obtain ⟨y', hy', my'⟩ := mu
      exact (R.tn k fp2 ht2).1 a ha i y' hy' my' (by rw [hv, z])
theorem rd_callI {w : Wd} {n i : Nat} {fn : List D → List D → Option (Ret × List D)} {as : List Ev} (hn : as.length + 1 = n) {Q : VK} (h : rdR w (eI fn i (toDs as)) σ H Q) : tCallS (spI w.K w.XR n fn) (WE w.W) (tCons (rdR w (eV i)) (rdDs w (toDs as))) σ H Q := by
  obtain ⟨C, F, e, R, P⟩ := h
  unfold eI at P
  cases hm : mutAt e i with
  | none => rw [hm] at P; exact P.elim
  | some xs0 =>
    rw [hm] at P
    have hev : eV i e = .ok (.bor i) e := by
      unfold mutAt at hm
      unfold eV
      split at hm <;> first | (cases hm; done) | skip
      all_goals (rename_i hq; rw [hq])
    refine ⟨C, F, e, R, ?_⟩
    rw [hev]
    intro v F1 H1 R1 E1 q1
    have q1 : σ[i]? = some (some v) := q1
    have P := Post.mono E1 P
    refine bindP R1 P fun F2 H2 e2 ds vs h2 R2 E2 q2 P2 => ?_
    cases hm2 : mutAt e2 i with
    | none => rw [hm2] at P2; exact P2.elim
    | some b =>
      rw [hm2] at P2
      simp only at P2
      obtain ⟨p, ws, hv, hp, hd, hF, put, _⟩ := R2.mutAt hm2
      rw [q1] at hv; cases hv
      have hl : ∀ (as : List Ev) (e : Env) (ds : List D) (e1 : Env), toDs as e = .ok ds e1 → ds.length = as.length := by
        intro as
        induction as with
        | nil => intro e ds e1 h; cases h; rfl
        | cons a as ih =>
          intro e ds e1 h
          unfold toDs at h
          cases h2 : toD a e with
          | no => rw [h2] at h; cases h
          | ex x e2 => rw [h2] at h; cases h
          | ok x e2 =>
            rw [h2] at h
            have h : (toDs as e2).bind (fun xs e2 => .ok (x :: xs) e2) = .ok ds e1 := h
            cases h3 : toDs as e2 with
            | no => rw [h3] at h; cases h
            | ex y e3 => rw [h3] at h; cases h
            | ok xs e3 => rw [h3] at h; cases h; rw [List.length_cons, List.length_cons, ih _ _ _ h3]
      refine ⟨by rw [List.length_cons, q2.length, hl _ _ _ _ h2]; exact hn, p, vs, ws, F2, b, ds, rfl, R2.ext, R2.tup, hF, hp, hd, q2, ?_⟩
      split at P2
      · exact P2.elim
      · rename_i r b' hfn
        try simp only [hfn]
        intro v F' H' bs' E E' T frm hp' pF hd' qr
        refine P2 v F' H' (R2.afterI hm2 q1 E E' T frm hp' pF hd') E ?_
        cases r with
        | fz d => exact qr
        | fresh ds =>
          obtain ⟨q, zs, rfl, k1, k2, k3, k4⟩ := qr
          exact ⟨q, zs, rfl, k1, k2, k3, R2.notM k4, R2.apartI hm2 q1 frm k4⟩
        | bor j => exact qr.elim
      · rename_i xx b' hfn
        try simp only [hfn]
        intro F' H' bs' cv od E E' T frm hp' pF hd' qx
        exact P2 F' H' cv od (R2.afterI hm2 q1 E E' T frm hp' pF hd') E qx
section
variable {X : Cx} {W : WX} {XR : Hp → Hp → Xc → Value → Option Addr → Prop} {a b o : Expr} {es : List Expr} {ix val : Ev} {as : List Ev} {i : Nat} {p pos apos cpos pos' : Pos} {x y name : Str}
theorem ve_mut {w : Wd} {f : FM} {r : V → List V → Hp → VK → Prop} {id : String} (slot : Slot "list" name id) (hty : typeOf (.builtin id) = pure (.type "method_descriptor")) (hm : MtR X id r) (hs : MutS X.K f r) (hw : w.K = X.K) (ho : PE X o (rdR w (eV i))) (ha : PA X (a :: es) (rdDs w (toDs as)))
    (hbase : attributeBase o name X.env (eval o X.env) = eval o X.env := by rfl)
    (hfew : ((backTo cpos (starEach (a :: es) X.env)).all (fun x => !x.1) && (backToKw cpos (keywordEach [] X.env)).all (fun x => x.1.isSome)
      && decide ((a :: es).length + ([] : List Keyword).length + (if ([] : List Keyword).isEmpty then 0 else 1) < 30)) = true := by rfl)
    (hline : (apos.endLine == cpos.line) = true := by rfl) (h1 : starEach (a :: es) X.env = (false, eval a X.env) :: starEach es X.env := by rfl) (hplain : (backTo cpos (starEach es X.env)).any (·.1) = false := by rfl) :
    PE X (.Call (.Attribute o name apos) (a :: es) [] cpos) (rdR w (eM f i (toDs as))) := pe_mono (pe_bm PySem.F.plainAttrs_list slot hty hm ho ha hbase hfew hline h1 hplain) fun _ _ _ h => by
  rw [← hw] at hs ⊢; exact rd_mut hs h
theorem ve_mut0 {w : Wd} {f : FM} {r : V → List V → Hp → VK → Prop} {id : String} (slot : Slot "list" name id) (hty : typeOf (.builtin id) = pure (.type "method_descriptor")) (hm : MtR X id r) (hs : MutS X.K f r) (hw : w.K = X.K) (ho : PE X o (rdR w (eV i)))
    (hbase : attributeBase o name X.env (eval o X.env) = eval o X.env := by rfl) (hline : (apos.endLine == cpos.line) = true := by rfl) :
    PE X (.Call (.Attribute o name apos) [] [] cpos) (rdR w (eM f i (toDs []))) := pe_mono (pe_bm0 PySem.F.plainAttrs_list slot hty hm ho hbase hline) fun σ H Q h => by
  rw [← hw] at hs ⊢
  have q := rd_mut hs h
  obtain ⟨C, F, e, R, P⟩ := q
  refine ⟨C, F, e, R, ?_⟩
  cases h1 : eV i e with
  | no => rw [h1] at P; exact P
  | ex x e1 => rw [h1] at P; exact P
  | ok r e1 =>
    rw [h1] at P
    intro v F' H' R' E q
    obtain ⟨k1, k2⟩ := P v F' H' R' E q
    exact ⟨k1, rd_toDs_nil k2⟩
theorem vs_set {w : Wd} (he : PE X b (rdR w val)) (ho : PE X o (rdR w (eV i))) (hi : PE X a (rdR w ix)) (hg : PG X (.Subscript o a pos') (gSub (rdR w (eV i)) (rdR w ix) rSetL)) (hs : swapsWithSole [.Subscript o a pos'] b pos.line X.env = pure false := by rfl) (hw : swappedStores [.Subscript o a pos'] b X.env = pure none := by rfl)
    (h1 : (assignEach [.Subscript o a pos'] X.env).map (·.2) = [assign (.Subscript o a pos') X.env] := by rfl) : PS X (.Assign [.Subscript o a pos'] b pos) (rdS w (setS i ix val)) := ps_mono (ps_asg he hg hs hw h1) fun _ _ _ h => rd_set h
theorem ve_callI {k n : Nat} {fn : List D → List D → Option (Ret × List D)} (d : Defn X.prog X.w X.K X.mg X.base k x n (spI X.K XR n fn)) (hr : Room k X.A) (hu : X.A.guards = some []) (hg : Gl X x) (hx : ∀ σ, PassesAt (L2.CX X.prog X.w) X σ (WE W σ)) (hn : as.length + 1 = n)
    (ho : PE X a (rdR (wd X W XR) (eV i))) (ha : PA X es (rdDs (wd X W XR) (toDs as))) (hdb : (x == ("__debug__" : Str)) = false := by decide) (he : starEach (a :: es) X.env = (false, eval a X.env) :: starEach es X.env := by rfl) (hpl : (backTo pos (starEach es X.env)).any (·.1) = false := by rfl) :
    PE X (.Call (.Name x p) (a :: es) [] pos) (rdR (wd X W XR) (eI fn i (toDs as))) := by
  obtain ⟨f, fd, ps, hm, hk, hb, hl, F⟩ := d.ex
  exact pe_mono (pe_callG F hr hu hg hm hk hb hx (pa_cons ho ha he) hdb he hpl) fun _ _ _ h => rd_callI hn h
end
def initE (n : Nat) (ds : List D) : Env := ds.map (fun d => some (.fz d)) ++ List.replicate (n - ds.length) none
def initI (n : Nat) (b : List D) (ds : List D) : Env := some (.io b) :: (ds.map (fun d => some (.fz d)) ++ List.replicate (n - (ds.length + 1)) none)
/-- what a def gives, by its body over n names -/
def fnF (body : St1) (n : Nat) (ds : List D) : Option Ret := match body (initE n ds) with
  | .ok (.ret r) _ => some (.ok r)
  | .ok .nx _ => some (.ok (.fz .none))
  | .ex x _ => some (.ex x)
  | _ => none
def ioAt (e : Env) : Option (List D) := match (e[0]? : Option (Option Sv)) with
  | some (some (.io b)) => some b
  | _ => none
def fnI (body : St1) (n : Nat) (b ds : List D) : Option (Ret × List D) := match body (initI n b ds) with
  | .ok (.ret r) e => (ioAt e).bind fun b' => some (.ok r, b')
  | .ok .nx e => (ioAt e).bind fun b' => some (.ok (.fz .none), b')
  | .ex x e => (ioAt e).bind fun b' => some (.ex x, b')
  | _ => none
def cf0 (F H : Hp) (p : Addr) : Cf := ⟨fun a => H a ≠ none ∧ F a = none ∧ a ≠ p, H, fun _ => p, fun _ => False⟩
theorem initE_get {n : Nat} {ds : List D} {i : Nat} {x : Sv} (h : (initE n ds)[i]? = some (some x)) : ∃ d, x = .fz d ∧ ds[i]? = some d := by
  unfold initE at h
  by_cases hi : i < ds.length
  · rw [List.getElem?_append_left (by rw [List.length_map]; exact hi), List.getElem?_map, List.getElem?_eq_getElem hi] at h
    cases h
    exact ⟨_, rfl, List.getElem?_eq_getElem hi⟩
  · rw [List.getElem?_append_right (by rw [List.length_map]; omega), List.getElem?_replicate] at h
    split at h <;> cases h
theorem start_get {N : List Str} {vs : List V} {i : Nat} {v : V} (h : vs[i]? = some v) : (L2.start N vs)[i]? = some (some v) := by
  unfold L2.start
  have hi := (List.getElem?_eq_some_iff.mp h).1
  rw [List.getElem?_append_left (by rw [List.length_map]; exact hi), List.getElem?_map, h]
  rfl
def cfF (F H : Hp) : Cf := ⟨fun a => H a ≠ none ∧ F a = none, H, fun _ => 0, fun _ => False⟩
theorem rp_init {N : List Str} {vs : List V} {ds : List D} (E : Ext F H) (T : TupIn F H) (hd : DpAll K F vs ds) : Rp K (cfF F H) F H (initE N.length ds) (L2.start N vs) := by
  refine ⟨?_, E, fun a ha => ha.2, fun a ha => ⟨rfl, ha.1⟩, fun i x hx => ?_, fun i h => h.elim, fun i j x y hij hx hy mx my => ?_, fun i fp ⟨b, t, v, F', he, _⟩ => by (obtain ⟨d, z, _⟩ := initE_get he; cases z), T⟩
  · unfold initE L2.start
    rw [List.length_append, List.length_append, List.length_map, List.length_map, List.length_replicate, List.length_replicate, hd.length]
  · obtain ⟨d, rfl, hx'⟩ := initE_get hx
    obtain ⟨v, hv, q⟩ := hd.get hx'
    exact ⟨v, start_get hv, q⟩
  · obtain ⟨d, rfl, hx⟩ := initE_get hx
    cases mx
theorem initI_get {n : Nat} {b ds : List D} {i : Nat} {x : Sv} (h : (initI n b ds)[i]? = some (some x)) : (i = 0 ∧ x = .io b) ∨ ∃ j d, i = j + 1 ∧ x = .fz d ∧ ds[j]? = some d := by
  cases i with
  | zero => unfold initI at h; cases h; exact .inl ⟨rfl, rfl⟩
  | succ j =>
    right
    unfold initI at h
    rw [List.getElem?_cons_succ] at h
    by_cases hi : j < ds.length
    · rw [List.getElem?_append_left (by rw [List.length_map]; exact hi), List.getElem?_map, List.getElem?_eq_getElem hi] at h
      cases h
      exact ⟨j, _, rfl, rfl, List.getElem?_eq_getElem hi⟩
    · rw [List.getElem?_append_right (by rw [List.length_map]; omega), List.getElem?_replicate] at h
      split at h <;> cases h
theorem rp_initI {N : List Str} {vs bs : List V} {b ds : List D} {p : Addr} (E : Ext F H) (T : TupIn F H) (hd : DpAll K F vs ds) (hp : H p = some (.lst bs)) (hb : DpAll K F bs b) (pF : F p = none) : Rp K (cf0 F H p) F H (initI N.length b ds) (L2.start N (.ref p :: vs)) := by
  refine ⟨?_, E, fun a ha => ha.2.1, fun a ha => ⟨rfl, ha.1⟩, fun i x hx => ?_, fun i h => h.elim, fun i j x y hij hx hy mx my => ?_, fun i fp ⟨b, t, v, F', he, _⟩ => by (rcases initI_get he with ⟨_, z⟩ | ⟨_, _, _, z, _⟩ <;> cases z), T⟩
  · unfold initI L2.start
    simp only [List.length_append, List.length_map, List.length_replicate, List.length_cons, hd.length]
    omega
  · rcases initI_get hx with ⟨rfl, rfl⟩ | ⟨j, d, rfl, rfl, hx'⟩
    · exact ⟨.ref p, start_get rfl, bs, rfl, hp, hb, pF, fun z => z.2.2 rfl⟩
    · obtain ⟨v, hv, q⟩ := hd.get hx'
      exact ⟨v, start_get (by rw [List.getElem?_cons_succ]; exact hv), q⟩
  · rcases initI_get hx with ⟨rfl, rfl⟩ | ⟨k, d, rfl, rfl, hx⟩
    · rcases initI_get hy with ⟨rfl, rfl⟩ | ⟨k, d, rfl, rfl, hy⟩
      · exact absurd rfl hij
      · cases my
    · cases mx
section
variable {P : Program} {w : World} {mg : Str → Option Value} {base : Heap} {XR : Hp → Hp → Xc → Value → Option Addr → Prop} {x qual : Str} {st : Stmt} {f : Addr} {fd : FuncData} {N ps : List Str} {k : Nat} {body : St1}
/-- THE RULE for a def that changes nothing that stood -/
theorem def_ok (FF : Fun K x qual st f fd) (S : FnScope N ps (defScope st))
    (hbody : ∀ (cdv : Value) (A : Around) (outer : List PySem.Env) (s : Shared) (H : Hp) (E : XK), Room k (A.deeper (envOfC qual (defScope st) s.heap.objs.size f cdv)) → A.guards = some [] →
      PSs (cxOf (L2.CX P w) P w K mg base N qual (defScope st) f cdv A outer s H E) (defBody st) (rdS ⟨K, fun c d _ H => E c d H, XR⟩ body)) : FnG P w K mg base (k + 1) f fd ps (spF K XR ps.length (fnF body N.length)) := by
  refine Fun.okG FF S (fun vs H Q E h => h.1) (fun cdv A outer s H vs Q E hr hgd h => ⟨_, hbody cdv A outer s H E hr hgd, ?_⟩)
  obtain ⟨hl, F, ds, EX, TX, hd, m⟩ := h
  refine ⟨cfF F H, F, initE N.length ds, rp_init EX TX hd, ?_⟩
  have aft : ∀ {F' H' : Hp} {e' : Env} {σ' : L2.St}, Rp K (cfF F H) F' H' e' σ' → Ext F F' → After F F' H H' := fun R E' => ⟨E', R.ext, fun a h1 h2 => ⟨(R.frm a ⟨h1, h2⟩).1, R.off a ⟨h1, h2⟩⟩, R.tup⟩
  unfold fnF at m
  cases hb : body (initE N.length ds) with
  | no => rw [hb] at m; exact m
  | ex x e' => rw [hb] at m; exact fun F' H' σ' cv od R E' q => m F' H' cv od (aft R E') q
  | ok fl e' =>
    rw [hb] at m
    cases fl with
    | nx => exact fun F' H' σ' R E' => m .non F' H' (aft R E') .non
    | bk => exact m.elim
    | ct => exact m.elim
    | ret r =>
      intro v F' H' σ' R E' q hr
      refine m v F' H' (aft R E') ?_
      cases r with
      | fz d => exact q
      | fresh ds =>
        obtain ⟨p, vs, rfl, k1, k2, k3, k4, k5⟩ := q
        refine ⟨p, vs, rfl, k1, k2, k3, ?_⟩
        cases h0 : H p with
        | none => rfl
        | some o => exact absurd ⟨by rw [h0]; exact fun z => (by cases z), E'.free k3⟩ k4
      | bor j => rcases hr with hr | ⟨_, hr⟩ <;> cases hr
/-- .. of one whose first argument is a list that it may change -/
theorem def_okI (FF : Fun K x qual st f fd) (S : FnScope N ps (defScope st))
    (hbody : ∀ (cdv : Value) (A : Around) (outer : List PySem.Env) (s : Shared) (H : Hp) (E : XK), Room k (A.deeper (envOfC qual (defScope st) s.heap.objs.size f cdv)) → A.guards = some [] →
      PSs (cxOf (L2.CX P w) P w K mg base N qual (defScope st) f cdv A outer s H E) (defBody st) (rdS ⟨K, fun c d _ H => E c d H, XR⟩ body)) : FnG P w K mg base (k + 1) f fd ps (spI K XR ps.length (fnI body N.length)) := by
  refine Fun.okG FF S (fun vs H Q E h => h.1) (fun cdv A outer s H vs Q E hr hgd h => ⟨_, hbody cdv A outer s H E hr hgd, ?_⟩)
  obtain ⟨hl, p, ws, bs, F, b, ds, rfl, EX, TX, pF, hp, hb0, hd, m⟩ := h
  refine ⟨cf0 F H p, F, initI N.length b ds, rp_initI EX TX hd hp hb0 pF, ?_⟩
  have frm : ∀ {F' H' : Hp} {e' : Env} {σ' : L2.St}, Rp K (cf0 F H p) F' H' e' σ' → ∀ a, a ≠ p → H a ≠ none → F a = none → H' a = H a ∧ F' a = none := fun R a h0 h1 h2 => ⟨(R.frm a ⟨h1, h2, h0⟩).1, R.off a ⟨h1, h2, h0⟩⟩
  have io : ∀ {F' H' : Hp} {e' : Env} {σ' : L2.St} {b' : List D}, Rp K (cf0 F H p) F' H' e' σ' → ioAt e' = some b' → ∃ bs', H' p = some (.lst bs') ∧ F' p = none ∧ DpAll K F' bs' b' ∧ σ'[0]? = some (some (.ref p)) ∧ e'[0]? = some (some (.io b')) := fun {F' H' e' σ' b'} R h => by
    unfold ioAt at h
    split at h
    · rename_i b1 h1
      cases h
      obtain ⟨v, hv, vs, rfl, k1, k2, k3, k4⟩ := R.sl _ _ h1
      exact ⟨vs, k1, k3, k2, hv, h1⟩
    · cases h
  unfold fnI at m
  cases hb : body (initI N.length b ds) with
  | no => rw [hb] at m; exact m
  | ex x e' =>
    rw [hb] at m
    intro F' H' σ' cv od R E' q
    simp only at m
    cases hi : ioAt e' with
    | none => rw [hi] at m; exact m.elim
    | some b' =>
      rw [hi] at m
      obtain ⟨bs', k1, k2, k3, _⟩ := io R hi
      exact m F' H' bs' cv od E' R.ext R.tup (frm R) k1 k2 k3 q
  | ok fl e' =>
    rw [hb] at m
    cases fl with
    | nx =>
      intro F' H' σ' R E'
      simp only at m
      cases hi : ioAt e' with
      | none => rw [hi] at m; exact m.elim
      | some b' =>
        rw [hi] at m
        obtain ⟨bs', k1, k2, k3, _⟩ := io R hi
        exact m .non F' H' bs' E' R.ext R.tup (frm R) k1 k2 k3 .non
    | bk => exact m.elim
    | ct => exact m.elim
    | ret r =>
      intro v F' H' σ' R E' q hr
      simp only at m
      cases hi : ioAt e' with
      | none => rw [hi] at m; exact m.elim
      | some b' =>
        rw [hi] at m
        obtain ⟨bs', k1, k2, k3, k4, k5⟩ := io R hi
        refine m v F' H' bs' E' R.ext R.tup (frm R) k1 k2 k3 ?_
        cases r with
        | fz d => exact q
        | fresh ds =>
          obtain ⟨q, vs, rfl, j1, j2, j3, j4, j5⟩ := q
          refine ⟨q, vs, rfl, j1, j2, j3, ?_⟩
          cases h0 : H q with
          | none => rfl
          | some o => exact absurd ⟨by rw [h0]; exact fun z => (by cases z), E'.free j3, fun z => j5.1 0 _ k5 rfl (by rw [k4, z])⟩ j4
        | bor j => rcases hr with hr | ⟨_, hr⟩ <;> cases hr
end
end VI
set_option Elab.async false
set_option linter.all false
set_option maxRecDepth 100000
set_option maxHeartbeats 4000000
namespace VI
open PySem PySem.Spec PyProof.Rows L2
theorem tuple_mul1 (l : Addr) (items : Array Value) (n : Nat) (dd : Option Addr) (sl : Array (Option Value)) (x : Int) (u : Tok) (c0 : (decide (x < -(2 ^ 63)) || decide (x ≥ 2 ^ 63)) = false) (c1 : (items.isEmpty || x == 1) = true) :
    Meets (Builtin.«tuple.__mul__» ⟨[.ref l, .int x u], []⟩) (fun _ R s => s.heap.get? l = some { cls := .type "tuple", dict := dd, data := .seq items n, slots := sl } ∧ R (.ok (.ret (Value.ref l))) s) :=
  .of_wp fun prog w A R s h => by
    obtain ⟨hp, g, d, tk, os⟩ := s
    obtain ⟨hl, h⟩ := h
    have f1 := AutoSeq1.idx_int
    wp_walk using wpAny_loadPart' hl
    repeat (first
      | (refine wpAny_ite_false (decide_eq_false (by rw [c0]; exact Bool.false_ne_true)) ?_; wp_walk using wpAny_loadPart' hl)
      | (refine wpAny_ite_true (decide_eq_true c1) ?_; wp_walk using wpAny_loadPart' hl))
    exact ⟨_, rfl, h⟩
theorem tuple_mul0 (l : Addr) (items : Array Value) (n : Nat) (dd : Option Addr) (sl : Array (Option Value)) (x : Int) (u : Tok) (c0 : (decide (x < -(2 ^ 63)) || decide (x ≥ 2 ^ 63)) = false) (c1 : (items.isEmpty || x == 1) = false) (c2 : (decide (x ≤ 0) || items.isEmpty) = true) :
    Meets (Builtin.«tuple.__mul__» ⟨[.ref l, .int x u], []⟩) (fun _ R s => s.heap.get? l = some { cls := .type "tuple", dict := dd, data := .seq items n, slots := sl } ∧
      R (.ok (.ret (Value.ref s.heap.objs.size))) { s with heap := s.heap.push { cls := Value.type "tuple", data := Data.seq #[] }, toks := s.toks }) :=
  .of_wp fun prog w A R s h => by
    obtain ⟨hp, g, d, tk, os⟩ := s
    obtain ⟨hl, h⟩ := h
    have f1 := AutoSeq1.idx_int
    wp_walk using wpAny_loadPart' hl
    repeat (first
      | (refine wpAny_ite_false (decide_eq_false (by rw [c0]; exact Bool.false_ne_true)) ?_; wp_walk using wpAny_loadPart' hl)
      | (refine wpAny_ite_false (decide_eq_false (by rw [c1]; exact Bool.false_ne_true)) ?_; wp_walk using wpAny_loadPart' hl)
      | (refine wpAny_ite_true (decide_eq_true c2) ?_; wp_walk using wpAny_loadPart' hl))
    exact ⟨_, rfl, h⟩
/-- a tuple times 1, an empty one times a number: the same; times 0 or less: nothing -/
def rRepT1 (K : PySem.W.Frag) : R2 := fun x y H Q => ∃ l k xs, x = .ref l ∧ y = .int k ∧ SqT K H l xs ∧ -1000 ≤ k ∧ k ≤ 1000 ∧ (xs = [] ∨ k ≤ 1) ∧ ((xs = [] ∨ k = 1) → Q (.ref l) H) ∧ (xs ≠ [] → k ≤ 0 → ∀ p, H p = none → Q (.ref p) (upd H p (.tup [])))
theorem op_repT1 {X : Cx} : OpR X (binaryOp .Mult) (rRepT1 X.K) := by
  intro pins s σ H x y v u Q I rx ry h
  obtain ⟨l, k, xs, rfl, rfl, hT, h1, h2, hk, q1, q2⟩ := h
  cases rx
  obtain ⟨t, rfl⟩ := ry
  obtain ⟨its, r, ⟨⟨cls, dd, data, sl⟩, ho, hc, n, hd⟩, hs⟩ := I.tuple hT
  simp only at hc hd
  subst hc hd
  have hle : its.length = xs.length := r.length.symm
  have c0 : (decide (k < -(2 ^ 63)) || decide (k ≥ 2 ^ 63)) = false := by
    rw [decide_eq_false (by omega), decide_eq_false (by omega)] <;> rfl
  have he : its.toArray.isEmpty = true ↔ xs = [] := by
    cases its with
    | nil => cases xs with
      | nil => simp
      | cons a b => cases hle
    | cons a b => cases xs with
      | nil => cases hle
      | cons a b => simp
  by_cases hc : xs = [] ∨ k = 1
  · have c1 : (its.toArray.isEmpty || k == 1) = true := by
      rcases hc with hc | hc
      · rw [he.mpr hc]; rfl
      · rw [hc]; simp
    refine wpAny_binaryOp_repeat_ref (T := "tuple") (U := "int") (by decide) ⟨_, ho, rfl⟩ (fun s' => typeIs_int s' k t) noFill_tuple_mul F.fills_int_mul F.slot_int_rmul repeat_tuple F.slot_int_index.lookup
      (call_meets F.slot_int_rmul (typeIs_int s k t) F.entry_int_rmul (F.args_int_rmul_2 _ _) (int_rmul_tuple k t l its.toArray n dd sl)
        ⟨ho, rfl, ⟨_, ho, rfl⟩, call_meets F.slot_tuple_mul ⟨_, ho, rfl⟩ F.entry_tuple_mul (F.args_tuple_mul_2 _ _) (tuple_mul1 l its.toArray n dd sl k t c0 c1) ⟨ho, ?_⟩⟩)
    exact ⟨.ref l, H, I, rfl, q1 hc⟩
  · have hx : xs ≠ [] := fun z => hc (.inl z)
    have hk1 : ¬ k = 1 := fun z => hc (.inr z)
    have hk0 : k ≤ 0 := by
      rcases hk with hk | hk
      · exact absurd hk hx
      · omega
    have hi : its.toArray.isEmpty = false := by
      cases h : its.toArray.isEmpty with
      | false => rfl
      | true => exact absurd (he.mp h) hx
    have c1 : (its.toArray.isEmpty || k == 1) = false := by
      rw [hi, Bool.false_or]
      exact beq_eq_false_iff_ne.mpr hk1
    have c2 : (decide (k ≤ 0) || its.toArray.isEmpty) = true := by rw [decide_eq_true hk0]; rfl
    refine wpAny_binaryOp_repeat_ref (T := "tuple") (U := "int") (by decide) ⟨_, ho, rfl⟩ (fun s' => typeIs_int s' k t) noFill_tuple_mul F.fills_int_mul F.slot_int_rmul repeat_tuple F.slot_int_index.lookup
      (call_meets F.slot_int_rmul (typeIs_int s k t) F.entry_int_rmul (F.args_int_rmul_2 _ _) (int_rmul_tuple k t l its.toArray n dd sl)
        ⟨ho, rfl, ⟨_, ho, rfl⟩, call_meets F.slot_tuple_mul ⟨_, ho, rfl⟩ F.entry_tuple_mul (F.args_tuple_mul_2 _ _) (tuple_mul0 l its.toArray n dd sl k t c0 c1 c2) ⟨ho, ?_⟩⟩)
    refine ⟨.ref s.heap.objs.size, _, I.laid (t' := s.toks) (o := .tup []) (fun b ob q => Heap.get?_push_of_some _ q) (Nat.le_refl _) ?_, rfl, q2 hx hk0 _ (I.hok.fresh (Nat.le_refl _))⟩
    exact ⟨Nat.zero_le _, _, .nil, IsTup.new _ _⟩
/-- a list times a number -/
def rRepLd : R2 := fun x y H Q => ∃ a k xs, x = .ref a ∧ y = .int k ∧ L2.Rd H a (.lst xs) ∧ -(2 ^ 63) ≤ k ∧ k < 2 ^ 63 ∧ xs.length * k.toNat ≤ sizeLine ∧ ∀ p, H p = none → Q (.ref p) (upd H p (.lst (List.replicate k.toNat xs).flatten))
theorem op_repLd {X : Cx} : OpR X (binaryOp .Mult) rRepLd := by
  intro pins s σ H x y v u Q I rx ry h
  obtain ⟨l, k, xs, rfl, rfl, hH, h1, h2, hz, q⟩ := h
  cases rx
  obtain ⟨t, rfl⟩ := ry
  obtain ⟨z, its, n, r, e⟩ := hH.ok I.hok
  have hl : xs.length = its.length := r.length
  have hlen : its.toArray.size * k.toNat ≤ sizeLine := by rw [List.size_toArray, ← hl]; exact hz
  have hcap : ¬ its.toArray.size * k.toNat > (2 ^ 63 - 1) / 8 := by
    have : (sizeLine : Nat) ≤ (2 ^ 63 - 1) / 8 := by decide
    omega
  have hfit : ¬ (!Builtin.List.listFitsIndex k) = true := by
    rw [fitsIndex_both h1 h2]
    exact Bool.false_ne_true
  have hlong : ¬ Builtin.List.listTooLong (its.toArray.size * k.toNat) = true := by
    rw [notLongL hlen]
    exact Bool.false_ne_true
  have hnew : List.foldl (fun x1 x2 => x1 ++ x2) #[] (List.replicate (if its.toArray.isEmpty = true then 0 else k.toNat) its.toArray) = (List.replicate k.toNat its).flatten.toArray := by
    have f0 : ∀ m : Nat, List.foldl (fun x1 x2 => x1 ++ x2) #[] (List.replicate m its.toArray) = (List.replicate m its).flatten.toArray := fun m => by
      have := foldl_rep its m []
      rw [List.nil_append] at this
      exact this
    rw [f0]
    cases its with
    | nil => simp
    | cons a r' => rw [if_neg (by simp)]
  refine wpAny_binaryOp_repeat_ref (T := "list") (U := "int") (by decide) ⟨_, e, rfl⟩ (fun s' => typeIs_int s' k t) noFill_list_mul F.fills_int_mul F.slot_int_rmul repeat_list F.slot_int_index.lookup
    (call_meets F.slot_int_rmul (typeIs_int s k t) F.entry_int_rmul (F.args_int_rmul_2 _ _) (int___rmul___int_list k t l its.toArray n)
      ⟨e, rfl, ⟨_, e, rfl⟩, call_meets F.slot_list_mul ⟨_, e, rfl⟩ F.entry_list_mul (F.args_list_mul_2 _ _) (AutoListH.list___mul___list_int_3 l its.toArray n k t hfit hcap hlong) ⟨e, ?_⟩⟩)
  rw [hnew]
  exact ⟨.ref _, _, I.lnew (t' := s.toks) (r.rep k.toNat) (by rw [PyProof.Rows.lm_len_rep_flat, Nat.mul_comm]; exact hz), rfl, q _ I.fresh⟩
end VI
set_option Elab.async false
set_option linter.all false
set_option maxRecDepth 100000
set_option maxHeartbeats 4000000
namespace VI
open PySem PySem.Spec PyProof.Rows L2
variable {K : PySem.W.Frag} {C : Cf} {F H : Hp} {e e' : Env} {σ : L2.St} {X : Cx}
def ii (f : Int → Int → Option D) : F2 := fun x y => match x, y with
  | .int i, .int j => (f i j).map .fz
  | _, _ => none
theorem ii_some {f : Int → Int → Option D} {dx dy : D} {z : Rv} (h : ii f dx dy = some z) : ∃ i j d, dx = .int i ∧ dy = .int j ∧ f i j = some d ∧ z = .fz d := by
  unfold ii at h
  split at h
  · rename_i i j
    cases q : f i j with
    | none => rw [q] at h; cases h
    | some d => rw [q] at h; cases h; exact ⟨i, j, d, rfl, rfl, q, rfl⟩
  · cases h
theorem opS_C {Cc : Int → Int → Prop} {g : Int → Int → Int} {f : Int → Int → Option D} (h : ∀ i j d, f i j = some d → Cc i j ∧ d = .int (g i j)) : OpS K (ii f) (rI Cc fun i j => .int (g i j)) := by
  intro F H x y dx dy z E hx hy hz Q k
  obtain ⟨i, j, d, rfl, rfl, hf, rfl⟩ := ii_some hz
  obtain ⟨hc, rfl⟩ := h i j d hf
  cases hx; cases hy
  exact ⟨i, j, rfl, rfl, hc, k _ _ (.old (.int _))⟩
theorem opS_0 {g : Int → Int → Int} {f : Int → Int → Option D} (h : ∀ i j d, f i j = some d → d = .int (g i j)) : OpS K (ii f) (rI0 fun i j => .int (g i j)) := by
  intro F H x y dx dy z E hx hy hz Q k
  obtain ⟨i, j, d, rfl, rfl, hf, rfl⟩ := ii_some hz
  obtain rfl := h i j d hf
  cases hx; cases hy
  exact ⟨i, j, rfl, rfl, k _ _ (.old (.int _))⟩
theorem opS_b {g : Int → Int → Bool} {f : Int → Int → Option D} (h : ∀ i j d, f i j = some d → d = .bool (g i j)) : OpS K (ii f) (rI0 fun i j => .bl (g i j)) := by
  intro F H x y dx dy z E hx hy hz Q k
  obtain ⟨i, j, d, rfl, rfl, hf, rfl⟩ := ii_some hz
  obtain rfl := h i j d hf
  cases hx; cases hy
  exact ⟨i, j, rfl, rfl, k _ _ (.old (.bl _))⟩
def subD : F2 := ii fun i j => some (.int (i - j))
def mulOk (i j : Int) : Bool := decide ((Builtin.Int.intBits i : Int) + (Builtin.Int.intBits j : Int) ≤ 134217728)
def divOk (j : Int) : Bool := decide (0 < j) && decide (j.natAbs.log2 < 9000)
def divD : F2 := ii fun i j => if divOk j then some (.int (i / j)) else none
def modD : F2 := ii fun i j => if 0 < j then some (.int (i % j)) else none
def powOk (i j : Int) : Bool := decide (0 ≤ j) && decide (j ≤ 1000000) && decide (i.natAbs < 2 ^ 64)
def powD : F2 := ii fun i j => if powOk i j then some (.int (i ^ j.toNat)) else none
def andD : F2 := ii fun i j => some (.int (Builtin.bitAnd i j))
def ltD : F2 := ii fun i j => some (.bool (decide (i < j)))
def leD : F2 := ii fun i j => some (.bool (decide (i ≤ j)))
def gtD : F2 := ii fun i j => some (.bool (decide (j < i)))
def geD : F2 := ii fun i j => some (.bool (decide (j ≤ i)))
theorem s_sub : OpS K subD (rI0 fun i j => .int (i - j)) := opS_0 fun i j d h => by cases h; rfl
theorem s_div : OpS K divD (rI CDivW fun i j => .int (i / j)) := opS_C fun i j d h => by
  split at h
  · rename_i hd
    unfold divOk at hd
    rw [Bool.and_eq_true] at hd
    cases h; exact ⟨⟨of_decide_eq_true hd.1, of_decide_eq_true hd.2⟩, rfl⟩
  · cases h
theorem s_mod : OpS K modD (rI (fun _ j => 0 < j) fun i j => .int (i % j)) := opS_C fun i j d h => by
  split at h
  · rename_i hd; cases h; exact ⟨hd, rfl⟩
  · cases h
theorem s_pow : OpS K powD (rI CPow fun i j => .int (i ^ j.toNat)) := opS_C fun i j d h => by
  split at h
  · rename_i hd
    unfold powOk at hd
    rw [Bool.and_eq_true, Bool.and_eq_true] at hd
    cases h; exact ⟨⟨of_decide_eq_true hd.1.1, of_decide_eq_true hd.1.2, of_decide_eq_true hd.2⟩, rfl⟩
  · cases h
theorem s_and : OpS K andD (rI0 fun i j => .int (Builtin.bitAnd i j)) := opS_0 fun i j d h => by cases h; rfl
theorem s_lt : OpS K ltD (rI0 fun i j => .bl (decide (i < j))) := opS_b fun i j d h => by cases h; rfl
theorem s_le : OpS K leD (rI0 fun i j => .bl (decide (i ≤ j))) := opS_b fun i j d h => by cases h; rfl
theorem s_gt : OpS K gtD (rI0 fun i j => .bl (decide (j < i))) := opS_b fun i j d h => by cases h; rfl
theorem s_ge : OpS K geD (rI0 fun i j => .bl (decide (j ≤ i))) := opS_b fun i j d h => by cases h; rfl
def negD : F1 := fun x => match x with
  | .int i => some (.fz (.int (-i)))
  | _ => none
theorem s_neg : UnS K negD (rU fun i => .int (-i)) := by
  intro F H x dx z E hx hz Q k
  unfold negD at hz
  split at hz
  · cases hz; cases hx; exact ⟨_, rfl, k _ _ (.old (.int _))⟩
  · cases hz
theorem rdl {pins : List (Addr × Obj)} {s : Shared} {a : Addr} {xs : List V} (I : Inv X pins σ H s) (h : L2.Rd H a (.lst xs)) : ∃ (its : List Value) (n : Nat), Vals xs its ∧ s.heap.get? a = some { cls := .type "list", data := .seq its.toArray n } ∧ xs.length ≤ sizeLine := by
  obtain ⟨z, its, n, r, q⟩ := h.ok I.hok
  exact ⟨its, n, r, q, z⟩
def rCatL : R2 := fun x y H Q => ∃ a b xs ys, x = .ref a ∧ y = .ref b ∧ L2.Rd H a (.lst xs) ∧ L2.Rd H b (.lst ys) ∧ xs.length + ys.length ≤ sizeLine ∧ ∀ p, H p = none → Q (.ref p) (upd H p (.lst (xs ++ ys)))
theorem op_catL : OpR X (binaryOp .Add) rCatL := by
  rintro pins s σ H x y v u Q I rx ry ⟨a, b, xs, ys, rfl, rfl, ha, hb, hz, k⟩
  cases rx; cases ry
  obtain ⟨i1, n1, v1, o1, z1⟩ := rdl I ha
  obtain ⟨i2, n2, v2, o2, z2⟩ := rdl I hb
  have l1 := v1.length
  have l2 := v2.length
  have both : i1.toArray ++ i2.toArray = (i1 ++ i2).toArray := by simp
  refine PySem.P.add_list o1 o2 ?_ (by rw [List.size_toArray, List.size_toArray]; omega)
  rw [both]
  exact ⟨.ref _, _, I.lnew (t' := s.toks) (v1.append v2) (by rw [List.length_append]; exact hz), rfl, k _ I.fresh⟩
def addD : F2 := fun x y => match x, y with
  | .int i, .int j => some (.fz (.int (i + j)))
  | .str i, .str j => if i.length + j.length ≤ sizeLine then some (.fz (.str (i ++ j))) else none
  | .tuple xs, .tuple ys => if xs.length + ys.length ≤ sizeLine then some (.fz (.tuple (xs ++ ys))) else none
  | .list xs, .list ys => if xs.length + ys.length ≤ sizeLine then some (.fresh (xs ++ ys)) else none
  | _, _ => none
def rAddU (K : PySem.W.Frag) : R2 := fun x y H Q => (rI0 fun i j => .int (i + j)) x y H Q ∨ (fun x y H Q => ∃ i j, x = .str i ∧ y = .str j ∧ i.length + j.length ≤ sizeLine ∧ Q (.str (i ++ j)) H) x y H Q ∨ rCatA K x y H Q ∨ rCatL x y H Q
theorem op_addU : OpR X (binaryOp .Add) (rAddU X.K) := op_add.or (op_add_str.or (op_catA.or op_catL))
theorem s_add : OpS K addD (rAddU K) := by
  intro F H x y dx dy z E hx hy hz Q k
  unfold addD at hz
  split at hz
  · cases hz; cases hx; cases hy; exact .inl ⟨_, _, rfl, rfl, k _ _ (.old (.int _))⟩
  · split at hz
    · rename_i hl; cases hz; cases hx; cases hy; exact .inr (.inl ⟨_, _, rfl, rfl, hl, k _ _ (.old (.str _))⟩)
    · cases hz
  · split at hz
    · rename_i ds es hl
      cases hz
      cases hx with
      | tup h1 d1 =>
        cases hy with
        | tup h2 d2 =>
          refine .inr (.inr (.inl ⟨_, _, _, _, rfl, rfl, ext_t E h1, ext_t E h2, by rw [d1.length, d2.length]; exact hl, fun e0 => ?_, fun _ e0 => ?_, fun _ _ p hp => k _ _ (.tup hp (d1.append d2))⟩))
          · subst e0; cases d1; exact k _ _ (.old (.tup h2 d2))
          · subst e0; cases d2; rw [List.append_nil] at k; exact k _ _ (.old (.tup h1 d1))
    · cases hz
  · split at hz
    · rename_i ds es hl
      cases hz
      cases hx with
      | lst h1 d1 =>
        cases hy with
        | lst h2 d2 => exact .inr (.inr (.inr ⟨_, _, _, _, rfl, rfl, h1, h2, by rw [d1.length, d2.length]; exact hl, fun p hp => k _ _ (.lst hp (d1.append d2))⟩))
    · cases hz
  · cases hz
/-- a list, a tuple times a number -/
def rRepL : R2 := fun x y H Q => ∃ a k xs, x = .ref a ∧ y = .int k ∧ H a = some (.lst xs) ∧ -(2 ^ 63) ≤ k ∧ k < 2 ^ 63 ∧ xs.length * k.toNat ≤ sizeLine ∧ ∀ p, H p = none → Q (.ref p) (upd H p (.lst (List.replicate k.toNat xs).flatten))
theorem DpAll.rep {vs : List V} {ds : List D} (h : DpAll K F vs ds) : ∀ n : Nat, DpAll K F (List.replicate n vs).flatten (List.replicate n ds).flatten
  | 0 => .nil
  | n + 1 => by
    rw [List.replicate_succ, List.replicate_succ, List.flatten_cons, List.flatten_cons]
    exact h.append (DpAll.rep h n)
def repOk (n : Nat) (k : Int) : Bool := decide (-(2 ^ 63) ≤ k) && decide (k < 2 ^ 63) && decide (n * k.toNat ≤ sizeLine)
def mulD : F2 := fun x y => match x, y with
  | .int i, .int j => if mulOk i j then some (.fz (.int (i * j))) else none
  | .tuple xs, .int k => if -1000 ≤ k ∧ k ≤ 1000 ∧ xs.length ≤ 1000 then some (.fz (.tuple (List.replicate k.toNat xs).flatten)) else none
  | .list xs, .int k => if -1000 ≤ k ∧ k ≤ 1000 ∧ xs.length ≤ 1000 then some (.fresh (List.replicate k.toNat xs).flatten) else none
  | _, _ => none
def rMulU (K : PySem.W.Frag) : R2 := fun x y H Q => (rI CMulX fun i j => .int (i * j)) x y H Q ∨ rRepT K x y H Q ∨ rRepT1 K x y H Q ∨ rRepLd x y H Q
theorem op_mulU {X : Cx} : OpR X (binaryOp .Mult) (rMulU X.K) := op_mulX.or (op_repT.or (op_repT1.or op_repLd))
theorem mulOk_ok {i j : Int} (h : mulOk i j = true) : CMulX i j := by
  unfold mulOk at h
  have h2 := of_decide_eq_true h
  exact h2
theorem flat_rep_nil {α : Type} : ∀ n : Nat, (List.replicate n ([] : List α)).flatten = []
  | 0 => rfl
  | n + 1 => by rw [List.replicate_succ, List.flatten_cons, flat_rep_nil n]; rfl
theorem s_mul : OpS K mulD (rMulU K) := by
  intro F H x y dx dy z E hx hy hz Q k
  unfold mulD at hz
  split at hz
  · split at hz
    · rename_i hm; cases hz; cases hx; cases hy; exact .inl ⟨_, _, rfl, rfl, mulOk_ok hm, k _ _ (.old (.int _))⟩
    · cases hz
  · split at hz
    · rename_i ds kk hc
      cases hz
      cases hy
      cases hx with
      | tup h1 d1 =>
        rename_i a xs
        by_cases h2 : xs ≠ [] ∧ 2 ≤ kk
        · exact .inr (.inl ⟨_, _, _, rfl, rfl, ext_t E h1, h2.1, h2.2, hc.2.1, by rw [d1.length]; exact hc.2.2, fun p hp => k _ _ (.tup hp (d1.rep _))⟩)
        · refine .inr (.inr (.inl ⟨_, _, _, rfl, rfl, ext_t E h1, hc.1, hc.2.1, ?_, fun h3 => ?_, fun h3 h4 p hp => ?_⟩))
          · by_cases h3 : xs = []
            · exact .inl h3
            · exact .inr (by
                have : ¬ (2 ≤ kk) := fun z => h2 ⟨h3, z⟩
                omega)
          · have e : (List.replicate kk.toNat ds).flatten = ds := by
              rcases h3 with h3 | h3
              · subst h3; cases d1; exact flat_rep_nil _
              · subst h3; simp
            rw [e] at k
            exact k _ _ (.old (.tup h1 d1))
          · have e : (List.replicate kk.toNat ds).flatten = [] := by
              rw [show kk.toNat = 0 by omega]; rfl
            rw [e] at k
            exact k _ _ (.tup hp .nil)
    · cases hz
  · split at hz
    · rename_i ds kk hc
      cases hz
      cases hy
      cases hx with
      | lst h1 d1 =>
        have hl := d1.length
        refine .inr (.inr (.inr ⟨_, _, _, rfl, rfl, h1, by omega, by omega, ?_, fun p hp => k _ _ (.lst hp (d1.rep _))⟩))
        have : ds.length * kk.toNat ≤ 1000 * 1000 := Nat.mul_le_mul hc.2.2 (by omega)
        rw [hl, sizeLine_eq]; omega
    · cases hz
  · cases hz
def twoStr : D → D → Bool
  | .str _, .str _ => true
  | _, _ => false
def eqD : F2 := fun x y => if twoStr x y || (SeqAt.shaped x && SeqAt.shaped y) then some (.fz (.bool (PyData.eqv x y))) else none
def neD : F2 := fun x y => if twoStr x y || (SeqAt.shaped x && SeqAt.shaped y) then some (.fz (.bool (!PyData.eqv x y))) else none
def rEqU (K : PySem.W.Frag) : R2 := fun x y H Q => rEq x y H Q ∨ rEqD K x y H Q
def rNeU (K : PySem.W.Frag) : R2 := fun x y H Q => rNe x y H Q ∨ rNeD K x y H Q
theorem op_eqU {X : Cx} (hu : X.A.units + 64 < cLine) : OpR X (compareOp .Eq) (rEqU X.K) := op_eq.or (op_eqD hu)
theorem op_neU {X : Cx} (hu : X.A.units + 64 < cLine) : OpR X (compareOp .NotEq) (rNeU X.K) := op_ne.or (op_neD hu)
theorem s_eq : OpS K eqD (rEqU K) := by
  intro F H x y dx dy z E hx hy hz Q k
  unfold eqD at hz
  split at hz
  · rename_i hs
    cases hz
    rw [Bool.or_eq_true, Bool.and_eq_true] at hs
    rcases hs with hs | hs
    · unfold twoStr at hs
      split at hs
      · cases hx; cases hy
        exact .inl ⟨rfl, by rw [dec_str]; exact k _ _ (.old (.bl _))⟩
      · cases hs
    · exact .inr ⟨dx, dy, (hx.dp E).l2 (plain_shaped hs.1), (hy.dp E).l2 (plain_shaped hs.2), hs.1, hs.2, k _ _ (.old (.bl _))⟩
  · cases hz
theorem s_ne : OpS K neD (rNeU K) := by
  intro F H x y dx dy z E hx hy hz Q k
  unfold neD at hz
  split at hz
  · rename_i hs
    cases hz
    rw [Bool.or_eq_true, Bool.and_eq_true] at hs
    rcases hs with hs | hs
    · unfold twoStr at hs
      split at hs
      · cases hx; cases hy
        exact .inl ⟨rfl, by rw [dec_str]; exact k _ _ (.old (.bl _))⟩
      · cases hs
    · exact .inr ⟨dx, dy, (hx.dp E).l2 (plain_shaped hs.1), (hy.dp E).l2 (plain_shaped hs.2), hs.1, hs.2, k _ _ (.old (.bl _))⟩
  · cases hz
def isNone : D → Bool
  | .none => true
  | _ => false
def isND : F2 := fun x y => match y with
  | .none => some (.fz (.bool (isNone x)))
  | _ => none
def notND : F2 := fun x y => match y with
  | .none => some (.fz (.bool (!isNone x)))
  | _ => none
theorem isNone_v {x : V} {d : D} (h : Dh K F H x d) : decide (x = V.non) = isNone d := by
  cases h with
  | oth h => cases h <;> (apply decide_eq_false; exact fun z => by cases z)
  | _ => first | rfl | (apply decide_eq_false; exact fun z => by cases z)
theorem s_isN : OpS K isND (fun x y H Q => y = .non ∧ Q (.bl (decide (x = .non))) H) := by
  intro F H x y dx dy z E hx hy hz Q k
  unfold isND at hz
  split at hz
  · cases hz; cases hy; exact ⟨rfl, by rw [isNone_v hx]; exact k _ _ (.old (.bl _))⟩
  · cases hz
theorem s_notN : OpS K notND (fun x y H Q => y = .non ∧ Q (.bl (!decide (x = .non))) H) := by
  intro F H x y dx dy z E hx hy hz Q k
  unfold notND at hz
  split at hz
  · cases hz; cases hy; exact ⟨rfl, by rw [isNone_v hx]; exact k _ _ (.old (.bl _))⟩
  · cases hz
def isBD : F2 := fun x y => match x, y with
  | .bool a, .bool b => some (.fz (.bool (decide (a = b))))
  | _, _ => none
def notBD : F2 := fun x y => match x, y with
  | .bool a, .bool b => some (.fz (.bool (!decide (a = b))))
  | _, _ => none
theorem s_isB : OpS K isBD rIsB := by
  intro F H x y dx dy z E hx hy hz Q k
  unfold isBD at hz
  split at hz
  · cases hz; cases hx; cases hy; exact ⟨_, _, rfl, rfl, k _ _ (.old (.bl _))⟩
  · cases hz
theorem s_notB : OpS K notBD rNotB := by
  intro F H x y dx dy z E hx hy hz Q k
  unfold notBD at hz
  split at hz
  · cases hz; cases hx; cases hy; exact ⟨_, _, rfl, rfl, k _ _ (.old (.bl _))⟩
  · cases hz
def ixD : F2 := fun x y => match x, y with
  | .list ds, .int i => (atI ds i).map .fz
  | .tuple ds, .int i => (atI ds i).map .fz
  | .str z, .int i => if z.length ≤ sizeLine then (atI z.cps.toList i).map fun c => .fz (.str ⟨#[c]⟩) else none
  | _, _ => none
theorem DpAll.at {vs : List V} {ds : List D} {i : Int} {d : D} (h : DpAll K F vs ds) (q : atI ds i = some d) : ∃ v, atI vs i = some v ∧ Dp K F v d := by
  unfold atI at q ⊢
  rw [h.length]
  cases hj : ixN ds.length i with
  | none => rw [hj] at q; cases q
  | some j =>
    rw [hj] at q
    obtain ⟨v, h1, h2⟩ := h.get (i := j) q
    exact ⟨v, h1, h2⟩
theorem s_ix : OpS K ixD (rIx K) := by
  intro F H x y dx dy z E hx hy hz Q k
  unfold ixD at hz
  split at hz
  · rename_i ds i
    cases hy
    cases q : atI ds i with
    | none => rw [q] at hz; cases hz
    | some d =>
      rw [q] at hz; cases hz
      cases hx with
      | lst h1 d1 =>
        obtain ⟨v, h2, h3⟩ := d1.at q
        exact .inl ⟨_, _, _, v, rfl, rfl, .inl h1, h2, k _ _ (.old h3)⟩
  · rename_i ds i
    cases hy
    cases q : atI ds i with
    | none => rw [q] at hz; cases hz
    | some d =>
      rw [q] at hz; cases hz
      cases hx with
      | tup h1 d1 =>
        obtain ⟨v, h2, h3⟩ := d1.at q
        exact .inr (.inl ⟨_, _, _, v, rfl, rfl, ext_t E h1, h2, k _ _ (.old h3)⟩)
  · rename_i t i
    split at hz
    · rename_i hl
      cases hy; cases hx
      cases q : atI t.cps.toList i with
      | none => rw [q] at hz; cases hz
      | some c =>
        rw [q] at hz; cases hz
        exact .inr (.inr ⟨_, _, c, rfl, rfl, hl, q, k _ _ (.old (.str _))⟩)
    · cases hz
  · cases hz
/-- x[lo:hi] -/
def cutD (xs : List D) (lo hi : Option Int) : List D := (xs.drop (HT.sIx xs.length 0 lo)).take (HT.sIx xs.length xs.length hi - HT.sIx xs.length 0 lo)
def slD (x : D) (lo hi : Option Int) : Option Rv := match x with
  | .list ds => some (.fresh (cutD ds lo hi))
  | .tuple ds => some (.fz (.tuple (cutD ds lo hi)))
  | .str z => if z.length ≤ sizeLine then some (.fz (.str (cutS z lo hi))) else none
  | _ => none
theorem DpAll.cut {vs : List V} {ds : List D} (h : DpAll K F vs ds) (lo hi : Option Int) : DpAll K F (cutV vs lo hi) (cutD ds lo hi) := by
  unfold cutV cutD
  rw [h.length]
  exact (h.drop _).take _
def rSlU (K : PySem.W.Frag) : V → Option Int → Option Int → Hp → VK → Prop := fun x lo hi H Q => rSlL K x lo hi H Q ∨ rSlA K x lo hi H Q ∨ rSlS x lo hi H Q
theorem sl_any : SlR X (rSlU X.K) := sl_list.or (sl_tupA.or sl_str)
theorem s_sl {F H : Hp} {x : V} {dx : D} {lo hi : Option Int} {z : Rv} (E : Ext F H) (hx : Dh K F H x dx) (hz : slD dx lo hi = some z) {Q : VK} (k : ∀ v H', Res K F H z v H' → Q v H') : rSlU K x lo hi H Q := by
  unfold slD at hz
  split at hz
  · cases hz
    cases hx with
    | lst h1 d1 => exact .inl ⟨_, _, rfl, .inl h1, fun p hp => k _ _ (.lst hp (d1.cut lo hi))⟩
  · rename_i ds
    cases hz
    cases hx with
    | tup h1 d1 =>
      refine .inr (.inl ⟨_, _, rfl, ext_t E h1, fun hw => ?_, fun _ p hp => k _ _ (.tup hp (d1.cut lo hi))⟩)
      have : cutD ds lo hi = ds := by
        unfold cutD
        rw [d1.length] at hw
        rw [hw.1, hw.2, List.drop_zero, Nat.sub_zero, List.take_length]
      rw [this] at k
      exact k _ _ (.old (.tup h1 d1))
  · split at hz
    · rename_i hl
      cases hz; cases hx
      exact .inr (.inr ⟨_, rfl, hl, k _ _ (.old (.str _))⟩)
    · cases hz
  · cases hz
/-- a part of a cut: none, or an int -/
def opI (a : Option Ev) : Sem1 (Option Int) := fun e => match a with
  | none => .ok none e
  | some a => (opd a e).bind fun r e1 => match r with
    | .fz (.int i) => .ok (some i) e1
    | _ => .no
def slE (a : Ev) (lo hi : Option Ev) : Ev := fun e => (opd a e).bind fun x e1 => (opI lo e1).bind fun l e2 => (opI hi e2).bind fun u e3 => ofO ((peek x e3).bind fun dx => slD dx l u) e3
abbrev RO : Cf → Hp → Hp → Env → L2.St → Option Int → Option Int → Prop := fun _ _ _ _ _ a b => a = b
abbrev rdO (w : Wd) (a : Option Ev) : TO := Rd w RO (opI a)
theorem po_mono {ex : Option Expr} {t t' : TO} (h : PO X ex t) (w : ∀ σ H Q, t' σ H Q → t σ H Q) : PO X ex t' := ⟨fun pins s σ H Q I q => h.run pins s σ H Q I (w σ H Q q)⟩
theorem vo_none {w : Wd} : PO X none (rdO w none) := po_mono po_none fun σ H Q q => by
  obtain ⟨C, F, e, R, P⟩ := q
  exact P.ok' R rfl
theorem vo_some {w : Wd} {ex : Expr} {a : Ev} (h : PE X ex (rdR w a)) : PO X (some ex) (rdO w (some a)) := po_mono (po_some h) fun σ H Q q => by
  obtain ⟨C, F, e, R, P⟩ := q
  refine rd_opd (bindP R P fun F1 H1 e1 r v h1 R1 E1 q1 P1 => ?_)
  split at P1
  · cases q1; exact ⟨_, rfl, P1.ok' R1 rfl⟩
  · exact P1.elim
theorem ve_slice {w : Wd} {ex : Expr} {lo hi : Option Expr} {p2 pos : Pos} {a : Ev} {l u : Option Ev} (hw : w.K = X.K) (he : PE X ex (rdR w a)) (hl : PO X lo (rdO w l)) (hu : PO X hi (rdO w u)) : PE X (.Subscript ex (.Slice lo hi none p2) pos) (rdR w (slE a l u)) :=
  pe_mono (pe_slice sl_any he hl hu) fun σ H Q h => by
    obtain ⟨C, F, e, R, P⟩ := h
    refine rd_opd (bindP R P fun F1 H1 e1 x v h1 R1 E1 q1 P1 => ?_)
    refine bindP R1 P1 fun F2 H2 e2 li l' h2 R2 E2 q2 P2 => ?_
    cases q2
    refine bindP R2 P2 fun F3 H3 e3 ui u' h3 R3 E3 q3 P3 => ?_
    cases q3
    obtain ⟨z, hz, P4⟩ := post_ofO P3
    obtain ⟨dx, hx, hf⟩ := Option.bind_eq_some_iff.mp hz
    rw [← hw]
    exact s_sl R3.ext (RvR.peek R3 (opd_still h1) (RvR.later (opd_still h1) (E2.trans E3) q1) hx) hf fun v H' q => P4.res R3 q
end VI
set_option Elab.async false
set_option linter.all false
set_option maxRecDepth 100000
set_option maxHeartbeats 4000000
namespace VI
open PySem PySem.Spec PyProof.Rows L2
variable {K : PySem.W.Frag} {C : Cf} {F H : Hp} {e e' : Env} {σ : L2.St}
def intsD : List D → Option (List Int)
  | [] => some []
  | .int i :: ds => (intsD ds).map (i :: ·)
  | _ :: _ => none
theorem intsD_some : ∀ {ds : List D} {ns : List Int}, intsD ds = some ns → ds = ns.map .int
  | [], _, h => by cases h; rfl
  | .int i :: ds, ns, h => by
    unfold intsD at h
    cases q : intsD ds with
    | none => rw [q] at h; cases h
    | some ms => rw [q] at h; cases h; rw [intsD_some q]; rfl
  | .none :: _, _, h => by cases h
  | .bool _ :: _, _, h => by cases h
  | .str _ :: _, _, h => by cases h
  | .list _ :: _, _, h => by cases h
  | .tuple _ :: _, _, h => by cases h
  | .dict _ :: _, _, h => by cases h
theorem intsD_map : ∀ (ns : List Int), intsD (ns.map .int) = some ns
  | [] => rfl
  | n :: ns => by
    show (intsD (ns.map .int)).map (n :: ·) = _
    rw [intsD_map ns]; rfl
def boolsD : List D → Option (List Bool)
  | [] => some []
  | .bool i :: ds => (boolsD ds).map (i :: ·)
  | _ :: _ => none
theorem boolsD_some : ∀ {ds : List D} {ns : List Bool}, boolsD ds = some ns → ds = ns.map .bool
  | [], _, h => by cases h; rfl
  | .bool i :: ds, ns, h => by
    unfold boolsD at h
    cases q : boolsD ds with
    | none => rw [q] at h; cases h
    | some ms => rw [q] at h; cases h; rw [boolsD_some q]; rfl
  | .none :: _, _, h => by cases h
  | .int _ :: _, _, h => by cases h
  | .str _ :: _, _, h => by cases h
  | .list _ :: _, _, h => by cases h
  | .tuple _ :: _, _, h => by cases h
  | .dict _ :: _, _, h => by cases h
theorem boolsD_map : ∀ (ns : List Bool), boolsD (ns.map .bool) = some ns
  | [] => rfl
  | n :: ns => by
    show (boolsD (ns.map .bool)).map (n :: ·) = _
    rw [boolsD_map ns]; rfl
def on1 (f : D → Option Rv) : List D → Option Rv
  | [d] => f d
  | _ => none
theorem callS1 {f : D → Option Rv} {r : List V → Hp → VK → Prop} (h : ∀ F H v d z, Ext F H → Dh K F H v d → f d = some z → ∀ Q : VK, (∀ v H', Res K F H z v H' → Q v H') → r [v] H Q) : CallS K (on1 f) r := by
  intro F H vs ds z E hv hz Q k
  cases hv with
  | nil => cases hz
  | cons h1 h2 =>
    cases h2 with
    | nil => exact h F H _ _ z E h1 hz Q k
    | cons _ _ => cases hz
def on2 (f : D → D → Option Rv) : List D → Option Rv
  | [c, d] => f c d
  | _ => none
theorem callS2 {f : D → D → Option Rv} {r : List V → Hp → VK → Prop} (h : ∀ F H v u c d z, Ext F H → Dh K F H v c → Dh K F H u d → f c d = some z → ∀ Q : VK, (∀ v H', Res K F H z v H' → Q v H') → r [v, u] H Q) : CallS K (on2 f) r := by
  intro F H vs ds z E hv hz Q k
  cases hv with
  | nil => cases hz
  | cons h1 h2 =>
    cases h2 with
    | nil => cases hz
    | cons h2 h3 =>
      cases h3 with
      | nil => exact h F H _ _ _ _ z E h1 h2 hz Q k
      | cons _ _ => cases hz
def lenD : D → Option Rv
  | .list ds => some (.fz (.int ds.length))
  | .tuple ds => some (.fz (.int ds.length))
  | .str z => if z.length ≤ sizeLine then some (.fz (.int z.length)) else none
  | _ => none
def rLenU (K : PySem.W.Frag) : List V → Hp → VK → Prop := fun xs H Q => (∃ p ys, xs = [.ref p] ∧ (SqL K H p ys ∨ SqT K H p ys) ∧ Q (.int ys.length) H) ∨ (∃ z, xs = [.str z] ∧ z.length ≤ sizeLine ∧ Q (.int z.length) H)
theorem c_len {X : Cx} : CallR X (.builtin "len") (rLenU X.K) := call_len_seq.or call_len_str
theorem s_len : CallS K (on1 lenD) (rLenU K) := callS1 fun F H v d z E h hz Q k => by
  unfold lenD at hz
  split at hz
  · cases hz
    cases h with
    | lst h1 d1 => exact .inl ⟨_, _, rfl, .inl (.inl h1), by rw [d1.length]; exact k _ _ (.old (.int _))⟩
  · cases hz
    cases h with
    | tup h1 d1 => exact .inl ⟨_, _, rfl, .inr (ext_t E h1), by rw [d1.length]; exact k _ _ (.old (.int _))⟩
  · split at hz
    · rename_i hl
      cases hz; cases h
      exact .inr ⟨_, rfl, hl, k _ _ (.old (.int _))⟩
    · cases hz
  · cases hz
def tupD : D → Option Rv
  | .list ds => some (.fz (.tuple ds))
  | .tuple ds => some (.fz (.tuple ds))
  | _ => none
theorem s_tup : CallS K (on1 tupD) (fun xs H Q => ∃ p ys, xs = [V.ref p] ∧ ((SqL K H p ys ∧ ∀ l, H l = none → Q (.ref l) (upd H l (.tup ys))) ∨ (SqT K H p ys ∧ Q (.ref p) H))) := callS1 fun F H v d z E h hz Q k => by
  unfold tupD at hz
  split at hz
  · cases hz
    cases h with
    | lst h1 d1 => exact ⟨_, _, rfl, .inl ⟨.inl h1, fun p hp => k _ _ (.tup hp d1)⟩⟩
  · cases hz
    cases h with
    | tup h1 d1 => exact ⟨_, _, rfl, .inr ⟨ext_t E h1, k _ _ (.old (.tup h1 d1))⟩⟩
  · cases hz
def lstD : D → Option Rv
  | .list ds => some (.fresh ds)
  | .tuple ds => some (.fresh ds)
  | _ => none
theorem s_lst : CallS K (on1 lstD) (fun xs H Q => ∃ p ys, xs = [V.ref p] ∧ (SqL K H p ys ∨ SqT K H p ys) ∧ ∀ l, H l = none → Q (.ref l) (upd H l (.lst ys))) := callS1 fun F H v d z E h hz Q k => by
  unfold lstD at hz
  split at hz
  · cases hz
    cases h with
    | lst h1 d1 => exact ⟨_, _, rfl, .inl (.inl h1), fun p hp => k _ _ (.lst hp d1)⟩
  · cases hz
    cases h with
    | tup h1 d1 => exact ⟨_, _, rfl, .inr (ext_t E h1), fun p hp => k _ _ (.lst hp d1)⟩
  · cases hz
def absD : D → Option Rv
  | .int i => some (.fz (.int (if i < 0 then -i else i)))
  | _ => none
theorem s_abs : CallS K (on1 absD) (fun xs H Q => ∃ i, xs = [V.int i] ∧ Q (.int (if i < 0 then -i else i)) H) := callS1 fun F H v d z E h hz Q k => by
  unfold absD at hz
  split at hz
  · cases hz; cases h; exact ⟨_, rfl, k _ _ (.old (.int _))⟩
  · cases hz
def intD : D → Option Rv
  | .int i => some (.fz (.int i))
  | .bool b => some (.fz (.int (if b then 1 else 0)))
  | _ => none
theorem s_int : CallS K (on1 intD) (fun xs H Q => (∃ i, xs = [V.int i] ∧ Q (.int i) H) ∨ ∃ k, xs = [V.bl k] ∧ Q (.int (if k then 1 else 0)) H) := callS1 fun F H v d z E h hz Q k => by
  unfold intD at hz
  split at hz
  · cases hz; cases h; exact .inl ⟨_, rfl, k _ _ (.old (.int _))⟩
  · cases hz; cases h; exact .inr ⟨_, rfl, k _ _ (.old (.int _))⟩
  · cases hz
def strD : D → Option Rv
  | .int i => if i.natAbs.log2 < 1920 then some (.fz (.str (toString i))) else none
  | _ => none
theorem s_str : CallS K (on1 strD) (fun xs H Q => ∃ i, xs = [V.int i] ∧ i.natAbs.log2 < 1920 ∧ Q (.str (toString i)) H) := callS1 fun F H v d z E h hz Q k => by
  unfold strD at hz
  split at hz
  · split at hz
    · rename_i hl; cases hz; cases h; exact ⟨_, rfl, hl, k _ _ (.old (.str _))⟩
    · cases hz
  · cases hz
def min2D : D → D → Option Rv
  | .int i, .int j => some (.fz (.int (if j < i then j else i)))
  | _, _ => none
def max2D : D → D → Option Rv
  | .int i, .int j => some (.fz (.int (if j > i then j else i)))
  | _, _ => none
theorem s_min2 : CallS K (on2 min2D) (fun xs H Q => ∃ i j, xs = [V.int i, V.int j] ∧ Q (.int (if j < i then j else i)) H) := callS2 fun F H v u c d z E h h' hz Q k => by
  unfold min2D at hz
  split at hz
  · cases hz; cases h; cases h'; exact ⟨_, _, rfl, k _ _ (.old (.int _))⟩
  · cases hz
theorem s_max2 : CallS K (on2 max2D) (fun xs H Q => ∃ i j, xs = [V.int i, V.int j] ∧ Q (.int (if j > i then j else i)) H) := callS2 fun F H v u c d z E h h' hz Q k => by
  unfold max2D at hz
  split at hz
  · cases hz; cases h; cases h'; exact ⟨_, _, rfl, k _ _ (.old (.int _))⟩
  · cases hz
def allD : D → Option Rv
  | .list ds => (boolsD ds).map fun bs => .fz (.bool (bs.all id))
  | _ => none
def anyD : D → Option Rv
  | .list ds => (boolsD ds).map fun bs => .fz (.bool (bs.any id))
  | _ => none
theorem s_all : CallS K (on1 allD) (rAll K) := callS1 fun F H v d z E h hz Q k => by
  unfold allD at hz
  split at hz
  · rename_i ds
    obtain ⟨bs, h1, h2⟩ := Option.map_eq_some_iff.mp hz
    cases h2
    have := boolsD_some h1
    subst this
    cases h with
    | lst h1 d1 =>
      have := d1.bls
      subst this
      exact ⟨_, bs, rfl, .inl h1, k _ _ (.old (.bl _))⟩
  · cases hz
theorem s_any : CallS K (on1 anyD) (rAny K) := callS1 fun F H v d z E h hz Q k => by
  unfold anyD at hz
  split at hz
  · rename_i ds
    obtain ⟨bs, h1, h2⟩ := Option.map_eq_some_iff.mp hz
    cases h2
    have := boolsD_some h1
    subst this
    cases h with
    | lst h1 d1 =>
      have := d1.bls
      subst this
      exact ⟨_, bs, rfl, .inl h1, k _ _ (.old (.bl _))⟩
  · cases hz
end VI
set_option Elab.async false
set_option linter.all false
set_option maxRecDepth 100000
set_option maxHeartbeats 4000000
namespace VI
open PySem PySem.Spec PyProof.Rows L2
variable {K : PySem.W.Frag} {C : Cf} {F H : Hp} {e e' : Env} {σ : L2.St}
def isIntB : D → Bool
  | .int _ => true
  | .bool _ => true
  | _ => false
def isBoolB : D → Bool
  | .bool _ => true
  | _ => false
def isStrB : D → Bool
  | .str _ => true
  | _ => false
def isLstB : D → Bool
  | .list _ => true
  | _ => false
def isTupB : D → Bool
  | .tuple _ => true
  | _ => false
structure KindF (T : String) (f : D → Bool) : Prop where
  mem : T ∈ ["int", "bool", "str", "list", "tuple"]
  oth : ∀ kvs, f (.dict kvs) = false
  dct : kitB "dict" T = some false
  non : kitB "NoneType" T = some (f .none)
  bl : ∀ b, kitB "bool" T = some (f (.bool b))
  int : ∀ b, kitB "int" T = some (f (.int b))
  str : ∀ b, kitB "str" T = some (f (.str b))
  lst : ∀ b, kitB "list" T = some (f (.list b))
  tup : ∀ b, kitB "tuple" T = some (f (.tuple b))
theorem kindInt : KindF "int" isIntB := ⟨by decide, fun _ => rfl, by decide +kernel, by decide +kernel, fun _ => by show kitB "bool" "int" = some true; decide +kernel, fun _ => by show kitB "int" "int" = some true; decide +kernel, fun _ => by show kitB "str" "int" = some false; decide +kernel, fun _ => by show kitB "list" "int" = some false; decide +kernel, fun _ => by show kitB "tuple" "int" = some false; decide +kernel⟩
theorem kindBool : KindF "bool" isBoolB := ⟨by decide, fun _ => rfl, by decide +kernel, by decide +kernel, fun _ => by show kitB "bool" "bool" = some true; decide +kernel, fun _ => by show kitB "int" "bool" = some false; decide +kernel, fun _ => by show kitB "str" "bool" = some false; decide +kernel, fun _ => by show kitB "list" "bool" = some false; decide +kernel, fun _ => by show kitB "tuple" "bool" = some false; decide +kernel⟩
theorem kindStr : KindF "str" isStrB := ⟨by decide, fun _ => rfl, by decide +kernel, by decide +kernel, fun _ => by show kitB "bool" "str" = some false; decide +kernel, fun _ => by show kitB "int" "str" = some false; decide +kernel, fun _ => by show kitB "str" "str" = some true; decide +kernel, fun _ => by show kitB "list" "str" = some false; decide +kernel, fun _ => by show kitB "tuple" "str" = some false; decide +kernel⟩
theorem kindLst : KindF "list" isLstB := ⟨by decide, fun _ => rfl, by decide +kernel, by decide +kernel, fun _ => by show kitB "bool" "list" = some false; decide +kernel, fun _ => by show kitB "int" "list" = some false; decide +kernel, fun _ => by show kitB "str" "list" = some false; decide +kernel, fun _ => by show kitB "list" "list" = some true; decide +kernel, fun _ => by show kitB "tuple" "list" = some false; decide +kernel⟩
theorem kindTup : KindF "tuple" isTupB := ⟨by decide, fun _ => rfl, by decide +kernel, by decide +kernel, fun _ => by show kitB "bool" "tuple" = some false; decide +kernel, fun _ => by show kitB "int" "tuple" = some false; decide +kernel, fun _ => by show kitB "str" "tuple" = some false; decide +kernel, fun _ => by show kitB "list" "tuple" = some false; decide +kernel, fun _ => by show kitB "tuple" "tuple" = some true; decide +kernel⟩
theorem asked_kind {C : Addr} {n : Str} (x : ExK K C n) {T : String} {f : D → Bool} (k : KindF T f) : PySem.W.kitOne K (.ref C) (.type T) = some false := by
  have h := x.asked T (by have := k.mem; revert this; unfold askedB; simp only [List.mem_cons, List.not_mem_nil, or_false]; rintro (h | h | h | h | h) <;> simp [h])
  rw [h]
  have e : T ≠ excBase n := by
    have := k.mem
    have hb : excBase n = "LookupError" ∨ excBase n = "RuntimeError" ∨ excBase n = "OverflowError" ∨ excBase n = "ValueError" := by
      unfold excBase
      split
      · exact .inl rfl
      · split
        · exact .inr (.inl rfl)
        · split
          · exact .inr (.inr (.inl rfl))
          · exact .inr (.inr (.inr rfl))
    simp only [List.mem_cons, List.not_mem_nil, or_false] at this
    rcases this with h | h | h | h | h <;> rcases hb with q | q | q | q <;> rw [h, q] <;> decide
  rw [decide_eq_false e]
/-- the type of a thing: isinstance's answers -/
inductive TyE (K : PySem.W.Frag) (H : Hp) : V → Value → Prop where
  | one {v : V} {t : Value} : TyX K H v t → TyE K H v t
  | exc {a C d : Addr} {n : Str} : ExK K C n → H a = some (exk a C d) → (∃ fs, H d = some (.xd fs)) → TyE K H (.ref a) (.ref C)
  | dcT {a : Addr} {kvs : List (List Key × V)} : L2.Rd H a (.dT kvs) → TyE K H (.ref a) (.type "dict")
  | dcK {a : Addr} {kvs : List (Key × V)} : L2.Rd H a (.dK kvs) → TyE K H (.ref a) (.type "dict")
theorem ty_of {v : V} {d : D} (E : Ext F H) (h : Dh K F H v d) : ∃ t, TyE K H v t ∧ ∀ T f, KindF T f → PySem.W.kitOne K t (.type T) = some (f d) := by
  cases h with
  | non => exact ⟨_, .one (.base .non), fun T f k => kit_ty k.non⟩
  | bl b => exact ⟨_, .one (.base (.bl b)), fun T f k => kit_ty (k.bl b)⟩
  | int b => exact ⟨_, .one (.base (.int b)), fun T f k => kit_ty (k.int b)⟩
  | str b => exact ⟨_, .one (.base (.str b)), fun T f k => kit_ty (k.str b)⟩
  | lst h1 d1 =>
    refine ⟨.type "list", .one ?_, fun T f k => kit_ty (k.lst _)⟩
    rcases h1 with h1 | ⟨o, h1⟩
    · exact .base (.lst h1)
    · exact .base (.frz h1)
  | tup h1 d1 =>
    refine ⟨.type "tuple", .one ?_, fun T f k => kit_ty (k.tup _)⟩
    rcases ext_t E h1 with h1 | ⟨o, its, n, h1, h2, _⟩
    · rcases h1 with h1 | ⟨o, h1⟩
      · exact .base (.tup h1)
      · exact .fTuple h1
    · exact .kTuple h1 h2
  | oth h =>
    cases h with
    | exc x h1 h2 r => exact ⟨_, .exc x (E _ _ h1) ⟨_, E _ _ h2⟩, fun T f k => by rw [asked_kind x k, k.oth]⟩
    | dcT h1 _ => exact ⟨_, .dcT (.inr ⟨_, E _ _ h1⟩), fun T f k => by rw [k.oth]; exact kit_ty k.dct⟩
    | dcK h1 _ => exact ⟨_, .dcK (.inr ⟨_, E _ _ h1⟩), fun T f k => by rw [k.oth]; exact kit_ty k.dct⟩
section
variable {X : Cx} {pins : List (Addr × Obj)} {s : Shared}
theorem kit_ofE {x : V} {u t : Value} (I : Inv X pins σ H s) (rx : RelV x u) (ty : TyE X.K H x t) : ∃ P : Heap → Prop, PySem.W.KitX X.K u t P ∧ P s.heap ∧ u ≠ .builtin "__main__.__loader__#opaque" := by
  cases ty with
  | one ty => exact kit_of I rx ty
  | @exc a C d n x h1 h2 =>
    cases (show u = Value.ref a from rx)
    obtain ⟨fs, h2⟩ := h2
    obtain ⟨oe, vs, e1, e2, e3⟩ := exk_at I.hok h1
    have hx : ObjOk X.prog X.w H s.heap d (.xd fs) := I.hok d _ h2
    obtain ⟨mA, hns, hr⟩ := hx
    obtain ⟨od, ho, hl⟩ := lookIn_ns hns
    refine ⟨fun h => PySem.W.InstAt h a oe C (some od), PySem.W.kitx_exc (by
      have := x.nm
      unfold clsNm at this
      cases hc : PySem.W.clsIn X.K C with
      | none => rw [hc] at this; cases this
      | some cd => rfl) x.ex.hg x.ex.hk x.ex.hs x.ex.ha x.ex.hn x.ex.ht x.ex.hm, ?_, fun z => nomatch z⟩
    exact ⟨e1, e2.1, by unfold PySem.W.notCls; rw [e3], by rw [e2.2]; exact ho⟩
  | @dcT a kvs h =>
    rcases h with h | ⟨o, h⟩
    · exact kit_of I rx (.base (.dT h))
    · cases (show u = Value.ref a from rx)
      obtain ⟨_, _, _, xs, _, o', es, ep, h1, h2, _⟩ := (show ObjOk X.prog X.w H s.heap a (.frz o (.dT kvs)) from I.hok a _ h)
      exact ⟨_, PySem.W.kitx_dict, ⟨o', h1, h2.1⟩, fun z => nomatch z⟩
  | @dcK a kvs h =>
    rcases h with h | ⟨o, h⟩
    · exact kit_of I rx (.base (.dK h))
    · exact kit_of I rx (.fDict h)
end
def isD (fs : List (D → Bool)) : F1 := fun d => some (.fz (.bool (fs.any fun f => f d)))
def KindFs : List String → List (D → Bool) → Prop := Paired KindF
theorem kit_any {n : Value} {d : D} : ∀ {Ts : List String} {fs : List (D → Bool)}, KindFs Ts fs → (∀ T f, KindF T f → PySem.W.kitOne K n (.type T) = some (f d)) → PySem.W.kitAny K n (Ts.map Value.type) = some (fs.any fun f => f d)
  | _, _, .nil, _ => kitAny_nil
  | _, _, .cons (a := T) (b := f) k r, h => by
    rw [List.map_cons, List.any_cons]
    refine kitAny_cons (b := f d) (h T f k) (fun e => ?_) (fun e => by rw [e]; rfl)
    rw [e, Bool.false_or]
    exact kit_any r h
section
variable {X : Cx}
def rIsX (K : PySem.W.Frag) : List V → Hp → VK → Prop := fun xs H Q => ∃ (x c : V) (t u : Value) (b : Bool), xs = [x, c] ∧ ClsV c u ∧ TyE K H x t ∧ PySem.W.kitOne K t u = some b ∧ Q (.bl b) H
def rIsXT (K : PySem.W.Frag) : List V → Hp → VK → Prop := fun xs H Q => ∃ (x : V) (tp : Addr) (cs : List V) (t : Value) (us : List Value) (b : Bool), xs = [x, .ref tp] ∧ H tp = some (.tup cs) ∧ Paired ClsV cs us ∧ TyE K H x t ∧ PySem.W.kitAny K t us = some b ∧ Q (.bl b) H
theorem call_isX : CallR X (.builtin "isinstance") (rIsX X.K) := by
  intro pins s σ H xs us Q I r h
  obtain ⟨x, c, t, u, b, rfl, k, ty, e, q⟩ := h
  obtain ⟨u1, u2, rfl, r1, r2⟩ := vals2 r
  have e2 := k.eq r2
  subst e2
  obtain ⟨P, Z, p, hx⟩ := kit_ofE I r1 ty
  exact PySem.W.kia_one Z I.kIn p e hx fun tk => ⟨.bl b, H, I.tok tk, rfl, q⟩
theorem call_isXT : CallR X (.builtin "isinstance") (rIsXT X.K) := by
  intro pins s σ H xs us Q I r h
  obtain ⟨x, tp, cs, t, ws, b, rfl, hT, k, ty, e, q⟩ := h
  obtain ⟨u1, u2, rfl, r1, r2⟩ := vals2 r
  cases (show u2 = Value.ref tp from r2)
  obtain ⟨P, Z, p, hx⟩ := kit_ofE I r1 ty
  obtain ⟨_, its, rv, o, h1, h2, n, h3⟩ := (show ObjOk X.prog X.w H s.heap tp (.tup cs) from I.hok tp _ hT)
  have e3 := ClsV.all k rv
  subst e3
  obtain ⟨oc, od, dt, sl⟩ := o
  simp only at h2 h3
  subst h2 h3
  exact PySem.W.kia_tup Z I.kIn p h1 e hx fun tk => ⟨.bl b, H, I.tok tk, rfl, q⟩
end
theorem rd_isi {w : Wd} {T : String} {f : D → Bool} {ea : Ev} (k : KindF T f) {Q : VK} (h : rdR w (un1 (isD [f]) ea) σ H Q) : tCB (rIsX w.K) (tCons (rdR w ea) (tCons (tC (.ty T)) tNil)) σ H Q := by
  obtain ⟨C, F, e, R, P⟩ := h
  refine rd_opd (bindP R P fun F1 H1 e1 x v h1 R1 E1 q1 P1 => ?_)
  obtain ⟨z, hz, P2⟩ := post_ofO P1
  obtain ⟨d, hd, hf⟩ := Option.bind_eq_some_iff.mp hz
  cases hf
  obtain ⟨n, h2, h3⟩ := ty_of R1.ext (RvR.peek R1 (opd_still h1) q1 hd)
  show rIsX w.K [v, .ty T] _ Q
  refine ⟨v, .ty T, n, .type T, f d, rfl, .ty T, h2, h3 T f k, ?_⟩
  have := P2.ok' R1 (.bl _ : RvR w.K C F1 H1 e1 σ (.fz (.bool ([f].any fun f => f d))) _)
  rwa [List.any_cons, List.any_nil, Bool.or_false] at this
theorem pairedTy : ∀ Ts : List String, Paired ClsV (Ts.map V.ty) (Ts.map Value.type)
  | [] => .nil
  | T :: Ts => .cons (.ty T) (pairedTy Ts)
theorem rd_isiT {w : Wd} {T U : String} {f g : D → Bool} {ea : Ev} (k : KindF T f) (k2 : KindF U g) {Q : VK} (h : rdR w (un1 (isD [f, g]) ea) σ H Q) : tCB (rIsXT w.K) (tCons (rdR w ea) (tCons (tTup (tCons (tC (.ty T)) (tCons (tC (.ty U)) tNil))) tNil)) σ H Q := by
  obtain ⟨C, F, e, R, P⟩ := h
  refine rd_opd (bindP R P fun F1 H1 e1 x v h1 R1 E1 q1 P1 => ?_)
  obtain ⟨z, hz, P2⟩ := post_ofO P1
  obtain ⟨d, hd, hf⟩ := Option.bind_eq_some_iff.mp hz
  cases hf
  refine ⟨by show 2 ≤ sizeLine; rw [sizeLine_eq]; omega, fun p hp => ?_⟩
  have R2 := R1.growT (o := .tup [.ty T, .ty U]) hp
  have EF : Ext F1 (upd F1 p (.tup [.ty T, .ty U])) := Ext.new (R1.ext.free hp)
  have q2 := RvR.peek R2 (opd_still h1) (RvR.later (e' := e1) (H' := upd H1 p (.tup [.ty T, .ty U])) (opd_still h1) EF q1) hd
  obtain ⟨n, h2, h3⟩ := ty_of R2.ext q2
  show rIsXT w.K [v, .ref p] _ Q
  refine ⟨v, p, [.ty T, .ty U], n, [.type T, .type U], [f, g].any fun f => f d, rfl, upd_same, pairedTy [T, U], h2, kit_any (Ts := [T, U]) (.cons k (.cons k2 .nil)) h3, ?_⟩
  exact (Post.mono EF P2).ok' R2 (.bl _)
section
variable {w : Wd} {X : Cx} {a : Expr} {ea : Ev} {p p2 p3 p4 pos : Pos}
theorem ve_isi {x : Str} {n : String} {f : D → Bool} (k : KindF n f) (hw : w.K = X.K) (hg : Gl X "isinstance") (hm : X.mg "isinstance" = none) (hg2 : Gl X x) (hm2 : X.mg x = none) (hv2 : bootBuiltins x = some (.type n)) (ha : PE X a (rdR w ea))
    (hn2 : x ≠ "__name__" := by decide) (hd2 : (x == ("__debug__" : Str)) = false := by decide)
    (h1 : starEach [a, .Name x p2] X.env = (false, eval a X.env) :: starEach [.Name x p2] X.env := by rfl) (h2 : starEach [.Name x p2] X.env = (false, eval (.Name x p2) X.env) :: starEach [] X.env := by rfl)
    (hpl : (backTo pos (starEach [.Name x p2] X.env)).any (·.1) = false := by rfl) : PE X (.Call (.Name "isinstance" p) [a, .Name x p2] [] pos) (rdR w (un1 (isD [f]) ea)) :=
  pe_mono (pe_callB call_isX hg hm PyProof.Rows.boot_isinstance (pa_cons ha (pa_cons (pe_bltn hg2 hm2 hv2 (v := .ty n) rfl hn2 hd2) pa_nil h2) h1) (by decide) (by decide) h1 hpl) fun _ _ _ h => hw ▸ rd_isi k h
theorem ve_isiT {x y : Str} {n m : String} {f g : D → Bool} {j : Nat} (k : KindF n f) (k2 : KindF m g) (hw : w.K = X.K) (hg : Gl X "isinstance") (hm : X.mg "isinstance" = none) (hg2 : Gl X x) (hm2 : X.mg x = none) (hv2 : bootBuiltins x = some (.type n))
    (hg3 : Gl X y) (hm3 : X.mg y = none) (hv3 : bootBuiltins y = some (.type m)) (ha : PE X a (rdR w ea))
    (hn2 : x ≠ "__name__" := by decide) (hd2 : (x == ("__debug__" : Str)) = false := by decide) (hn3 : y ≠ "__name__" := by decide) (hd3 : (y == ("__debug__" : Str)) = false := by decide)
    (h1 : starEach [a, .Tuple [.Name x p2, .Name y p3] j p4] X.env = (false, eval a X.env) :: starEach [.Tuple [.Name x p2, .Name y p3] j p4] X.env := by rfl)
    (h2 : starEach [.Tuple [.Name x p2, .Name y p3] j p4] X.env = (false, eval (.Tuple [.Name x p2, .Name y p3] j p4) X.env) :: starEach [] X.env := by rfl)
    (h3 : starEach [.Name x p2, .Name y p3] X.env = (false, eval (.Name x p2) X.env) :: starEach [.Name y p3] X.env := by rfl) (h4 : starEach [.Name y p3] X.env = (false, eval (.Name y p3) X.env) :: starEach [] X.env := by rfl)
    (hpl : (backTo pos (starEach [.Tuple [.Name x p2, .Name y p3] j p4] X.env)).any (·.1) = false := by rfl) : PE X (.Call (.Name "isinstance" p) [a, .Tuple [.Name x p2, .Name y p3] j p4] [] pos) (rdR w (un1 (isD [f, g]) ea)) :=
  pe_mono (pe_callB call_isXT hg hm PyProof.Rows.boot_isinstance (pa_cons ha (pa_cons (pe_tup (pa_cons (pe_bltn hg2 hm2 hv2 (v := .ty n) rfl hn2 hd2) (pa_cons (pe_bltn hg3 hm3 hv3 (v := .ty m) rfl hn3 hd3) pa_nil h4) h3)) pa_nil h2) h1) (by decide) (by decide) h1 hpl) fun _ _ _ h => hw ▸ rd_isiT k k2 h
end
def reprD : D → Option Rv := fun d => if d.showable && !d.hasDict && decide (d.depth ≤ 50) && decide (d.shown.length ≤ sizeLine) then some (.fz (.str d.shown)) else none
def rRepr (K : PySem.W.Frag) : List V → Hp → VK → Prop := fun vs H Q => ∃ v d, vs = [v] ∧ L2.Dp K H v d ∧ d.showable = true ∧ d.hasDict = false ∧ d.depth ≤ 50 ∧ d.shown.length ≤ sizeLine ∧ Q (.str d.shown) H
theorem c_repr {X : Cx} (hu : X.A.guards = some []) (hr : X.A.units + 64 < cLine) : CallR X (.builtin "repr") (rRepr X.K) := by
  intro pins s σ H vs us Q I r h
  obtain ⟨v, d, rfl, hd, h1, h2, h3, h4, q⟩ := h
  obtain ⟨u, rfl, ru⟩ := L2.vals1 r
  have ref : ∀ a, u = .ref a → wpAny (model X.prog X.w) X.A (call (.builtin "repr") [u]) (EP X pins σ Q) X.xe s := fun a e => by
    subst e
    obtain ⟨as, rr⟩ := L2.Dp.reads I d v _ hd ru
    exact PySem.repr_of_reads' rr h1 (fun z => by rw [h2] at z; cases z) hu (by omega) (fun b o e => e) (fun h' t tk hk => ⟨.str _, H, I.kept hk, ⟨_, rfl⟩, q⟩) h4
  cases hd with
  | non => cases ru; exact PySem.P.repr_of_none ⟨.str _, H, I.tok _, ⟨_, rfl⟩, q⟩
  | bl b => cases ru; exact PySem.P.repr_of_bool ⟨.str _, H, I.tok _, ⟨_, rfl⟩, q⟩
  | int i => obtain ⟨t, rfl⟩ := ru; exact PySem.P.repr_of_int (of_decide_eq_true h1) ⟨.str _, H, I.tok _, ⟨_, rfl⟩, q⟩
  | str i => obtain ⟨t, rfl⟩ := ru; exact PySem.P.repr_of_str ⟨.str _, H, I.tok _, ⟨_, rfl⟩, q⟩ h4
  | lst _ _ => exact ref _ ru
  | tup _ _ => exact ref _ ru
theorem s_repr : CallS K (on1 reprD) (rRepr K) := callS1 fun F H v d z E h hz Q k => by
  unfold reprD at hz
  split at hz
  · rename_i hc
    simp only [Bool.and_eq_true, Bool.not_eq_true', decide_eq_true_eq] at hc
    cases hz
    exact ⟨v, d, rfl, (h.dp E).l2 (plain_hd d hc.1.1.2), hc.1.1.1, hc.1.1.2, hc.1.2, hc.2, k _ _ (.old (.str _))⟩
  · cases hz
def inD : F2 := fun x y => match y with
  | .list ds => if SeqAt.shaped x && SeqAt.shaped y then some (.fz (.bool (ds.any fun z => PyData.eqv z x))) else none
  | _ => none
def notInD : F2 := fun x y => match y with
  | .list ds => if SeqAt.shaped x && SeqAt.shaped y then some (.fz (.bool (!ds.any fun z => PyData.eqv z x))) else none
  | _ => none
theorem s_in : OpS K inD (rInD K) := by
  intro F H x y dx dy z E hx hy hz Q k
  unfold inD at hz
  split at hz
  · split at hz
    · rename_i hs
      rw [Bool.and_eq_true] at hs
      cases hz
      exact ⟨dx, _, (hx.dp E).l2 (plain_shaped hs.1), (hy.dp E).l2 (plain_shaped hs.2), hs.1, hs.2, k _ _ (.old (.bl _))⟩
    · cases hz
  · cases hz
theorem s_notIn : OpS K notInD (rNotInD K) := by
  intro F H x y dx dy z E hx hy hz Q k
  unfold notInD at hz
  split at hz
  · split at hz
    · rename_i hs
      rw [Bool.and_eq_true] at hs
      cases hz
      exact ⟨dx, _, (hx.dp E).l2 (plain_shaped hs.1), (hy.dp E).l2 (plain_shaped hs.2), hs.1, hs.2, k _ _ (.old (.bl _))⟩
    · cases hz
  · cases hz
def sumD : D → Option Rv
  | .list ds => (intsD ds).map fun ns => .fz (.int ns.sum)
  | .tuple ds => (intsD ds).map fun ns => .fz (.int ns.sum)
  | _ => none
def rSumU (K : PySem.W.Frag) : List V → Hp → VK → Prop := fun vs H Q => ∃ (a : Addr) (ns : List Int), vs = [V.ref a] ∧ (SqL K H a (ns.map V.int) ∨ SqT K H a (ns.map V.int)) ∧ Q (.int ns.sum) H
theorem c_sum {X : Cx} (hc : X.calm = true) : CallR X (.builtin "sum") (rSumU X.K) := by
  intro pins s σ H vs us Q I r h
  obtain ⟨a, ns, rfl, hs, q⟩ := h
  rcases hs with hs | hs
  · exact cr_sum hc pins s σ H _ us Q I r ⟨a, ns, rfl, hs, q⟩
  · obtain ⟨its, rv, hl, _⟩ := I.tuple hs
    rw [Vals.ref1 r]
    have hi := rv.ints
    obtain ⟨xs, e⟩ := hi.allInts.items
    have hn : numsOf (intItems xs).toList = ns := by rw [← e]; exact hi.numsOf
    rw [nums_intItems] at hn
    obtain ⟨o, ho, hc', n, hd⟩ := hl
    rw [e] at hd
    refine PySem.W.ktm_sumG (I.ok.hd hc) (xs := xs) ⟨o, ho, hc', n, hd⟩ fun h' tk t' hk => ⟨.int _, H, I.kept hk, ⟨_, rfl⟩, ?_⟩
    rw [preSum_eq, List.take_of_length_le (by simp), hn]; exact q
theorem s_sum : CallS K (on1 sumD) (rSumU K) := callS1 fun F H v d z E h hz Q k => by
  unfold sumD at hz
  split at hz
  · rename_i ds
    obtain ⟨bs, h1, h2⟩ := Option.map_eq_some_iff.mp hz
    cases h2
    have := intsD_some h1
    subst this
    cases h with
    | lst h1 d1 =>
      have := d1.ints
      subst this
      exact ⟨_, bs, rfl, .inl (.inl h1), k _ _ (.old (.int _))⟩
  · rename_i ds
    obtain ⟨bs, h1, h2⟩ := Option.map_eq_some_iff.mp hz
    cases h2
    have := intsD_some h1
    subst this
    cases h with
    | tup h1 d1 =>
      have := d1.ints
      subst this
      exact ⟨_, bs, rfl, .inr (ext_t E h1), k _ _ (.old (.int _))⟩
  · cases hz
def alikeB (ds : List D) : Bool := ds.all fun x => (ds.all fun y => PySem.W.alike x y) && !isNone x
theorem alikeB_ok {ds : List D} (h : alikeB ds = true) : PySem.W.AlikeAll ds := by
  unfold alikeB at h
  rw [List.all_eq_true] at h
  refine ⟨fun x hx y hy => ?_, fun x hx e => ?_⟩
  · have := h x hx
    rw [Bool.and_eq_true] at this
    exact List.all_eq_true.mp this.1 y hy
  · have := h x hx
    rw [Bool.and_eq_true] at this
    subst e
    exact absurd this.2 (by decide)
def mmD (f : D → List D → D) : D → Option Rv := fun d => match d with
  | .list (x :: xs) => if alikeB (x :: xs) ∧ PyData.depthAll (x :: xs) ≤ 40 then some (.fz (f x xs)) else none
  | .tuple (x :: xs) => if alikeB (x :: xs) ∧ PyData.depthAll (x :: xs) ≤ 40 then some (.fz (f x xs)) else none
  | _ => none
def rMM (K : PySem.W.Frag) (f : D → List D → D) : List V → Hp → VK → Prop := fun vs H Q => ∃ (a : Addr) (x : D) (xs : List D) (ys : List V), vs = [V.ref a] ∧ (SqL K H a ys ∨ SqT K H a ys) ∧ L2.DpAll K H ys (x :: xs) ∧ alikeB (x :: xs) = true ∧ PyData.depthAll (x :: xs) ≤ 40 ∧
  ∀ (i : Nat) v, ys[i]? = some v → (x :: xs)[i]? = some (f x xs) → Q v H
theorem vals_at : ∀ {vs : List V} {us : List Value}, Vals vs us → ∀ (i : Nat) u, us[i]? = some u → ∃ v, vs[i]? = some v ∧ RelV v u
  | _, _, .nil, i, u, h => by cases h
  | _, _, .cons r t, 0, u, h => by cases h; exact ⟨_, rfl, r⟩
  | _, _, .cons r t, i + 1, u, h => vals_at t i u h
theorem dpAll_at {H : Hp} : ∀ {vs : List V} {ds : List D}, L2.DpAll K H vs ds → ∀ (i : Nat) v, vs[i]? = some v → ∃ d, ds[i]? = some d ∧ L2.Dp K H v d
  | _, _, .nil, i, u, h => by cases h
  | _, _, .cons r t, 0, u, h => by cases h; exact ⟨_, rfl, r⟩
  | _, _, .cons r t, i + 1, u, h => dpAll_at t i u h
theorem foldl_mem {α : Type} (f : α → α → α) (hf : ∀ a b, f a b = a ∨ f a b = b) : ∀ (xs : List α) (x : α), xs.foldl f x ∈ x :: xs
  | [], x => List.mem_cons_self
  | y :: ys, x => by
    rw [List.foldl_cons]
    rcases hf x y with h | h <;> rw [h]
    · rcases List.mem_cons.mp (foldl_mem f hf ys x) with z | z
      · rw [z]; exact List.mem_cons_self
      · exact List.mem_cons_of_mem _ (List.mem_cons_of_mem _ z)
    · exact List.mem_cons_of_mem _ (foldl_mem f hf ys y)
theorem minD_mem (x : D) (xs : List D) : PySem.W.minD x xs ∈ x :: xs := foldl_mem _ (fun a b => by by_cases h : PySem.W.dataLt b a = true; right; exact if_pos h; left; exact if_neg h) xs x
theorem maxD_mem (x : D) (xs : List D) : PySem.W.maxD x xs ∈ x :: xs := foldl_mem _ (fun a b => by by_cases h : PySem.W.dataLt a b = true; right; exact if_pos h; left; exact if_neg h) xs x
section
variable {X : Cx} {pins : List (Addr × Obj)} {s : Shared}
/-- the value that min told is the item at i -/
theorem mm_end {f : D → List D → D} (hf : ∀ x xs, f x xs ∈ x :: xs) {x : D} {xs : List D} {ys : List V} {its : List Value} {Q : VK} (I : Inv X pins σ H s) (rv : Vals ys its) (hd : L2.DpAll X.K H ys (x :: xs)) (ha : alikeB (x :: xs) = true) (q : ∀ (i : Nat) v, ys[i]? = some v → (x :: xs)[i]? = some (f x xs) → Q v H)
    {h' : Heap} {tk : Nat} {i : Nat} {u : Value} {bs : List Addr} (hu : its.toArray[i]? = some u) (r : Reads h' u (f x xs) bs) (hk : ∀ b o, s.heap.get? b = some o → h'.get? b = some o) : EP X pins σ Q u { s with heap := h', toks := tk } := by
  have hu : its[i]? = some u := by simpa using hu
  obtain ⟨v, hv, rl⟩ := vals_at rv i u hu
  obtain ⟨d, hi, hdp⟩ := dpAll_at hd i v hv
  have I' := I.kept (h' := h') (t' := tk) hk
  obtain ⟨as, r2⟩ := L2.Dp.reads I' d v u hdp rl
  have e : d = f x xs := PySem.W.alike_unique _ _ _ _ _ ((alikeB_ok ha).1 _ (List.mem_of_getElem? hi) _ (hf x xs)) r2 r
  subst e
  exact ⟨v, H, I', rl, q i v hv hi⟩
theorem c_min (hc : X.calm = true) (hr : X.A.units + 64 < cLine) : CallR X (.builtin "min") (rMM X.K PySem.W.minD) := by
  intro pins s σ H vs us Q I r h
  obtain ⟨a, x, xs, ys, rfl, hs, hd, ha, hl, q⟩ := h
  rw [Vals.ref1 r]
  rcases hs with hs | hs
  · obtain ⟨its, rv, hp, _⟩ := I.list hs
    obtain ⟨as, hra⟩ := L2.Dp.readsAll I _ _ _ hd rv
    exact PySem.W.min_list_data (I.ok.hd hc) hp.isList (show ReadsAll s.heap its.toArray.toList (x :: xs) as from hra) (alikeB_ok ha) (by omega) fun i v h' tk bs h1 h2 h3 => mm_end minD_mem I rv hd ha q h1 h2 h3
  · obtain ⟨its, rv, ⟨o, ho, hcl, n, hdt⟩, _⟩ := I.tuple hs
    obtain ⟨as, hra⟩ := L2.Dp.readsAll I _ _ _ hd rv
    exact PySem.W.min_tuple_data (I.ok.hd hc) ⟨o, ho, hcl, n, hdt⟩ (show ReadsAll s.heap its.toArray.toList (x :: xs) as from hra) (alikeB_ok ha) (by omega) fun i v h' tk bs h1 h2 h3 => mm_end minD_mem I rv hd ha q h1 h2 h3
theorem c_max (hc : X.calm = true) (hr : X.A.units + 64 < cLine) : CallR X (.builtin "max") (rMM X.K PySem.W.maxD) := by
  intro pins s σ H vs us Q I r h
  obtain ⟨a, x, xs, ys, rfl, hs, hd, ha, hl, q⟩ := h
  rw [Vals.ref1 r]
  rcases hs with hs | hs
  · obtain ⟨its, rv, hp, _⟩ := I.list hs
    obtain ⟨as, hra⟩ := L2.Dp.readsAll I _ _ _ hd rv
    exact PySem.W.max_list_data (I.ok.hd hc) hp.isList (show ReadsAll s.heap its.toArray.toList (x :: xs) as from hra) (alikeB_ok ha) (by omega) fun i v h' tk bs h1 h2 h3 => mm_end maxD_mem I rv hd ha q h1 h2 h3
  · obtain ⟨its, rv, ⟨o, ho, hcl, n, hdt⟩, _⟩ := I.tuple hs
    obtain ⟨as, hra⟩ := L2.Dp.readsAll I _ _ _ hd rv
    exact PySem.W.max_tuple_data (I.ok.hd hc) ⟨o, ho, hcl, n, hdt⟩ (show ReadsAll s.heap its.toArray.toList (x :: xs) as from hra) (alikeB_ok ha) (by omega) fun i v h' tk bs h1 h2 h3 => mm_end maxD_mem I rv hd ha q h1 h2 h3
end
mutual
theorem plain_alike : ∀ d : D, PySem.W.alike d d = true → plainD d = true
  | .none, _ => by unfold plainD; rfl
  | .bool _, _ => by unfold plainD; rfl
  | .int _, _ => by unfold plainD; rfl
  | .str _, _ => by unfold plainD; rfl
  | .list ds, h => by unfold plainD; unfold PySem.W.alike at h; exact plainA_alike ds h
  | .tuple ds, h => by unfold plainD; unfold PySem.W.alike at h; exact plainA_alike ds h
  | .dict _, h => by unfold PySem.W.alike at h; cases h
theorem plainA_alike : ∀ ds : List D, PySem.W.alikeAll ds ds = true → plainA ds = true
  | [], _ => by unfold plainA; rfl
  | d :: ds, h => by
    unfold PySem.W.alikeAll at h
    rw [Bool.and_eq_true] at h
    unfold plainA
    rw [plain_alike d h.1, plainA_alike ds h.2]; rfl
end
theorem plainA_of : ∀ {ds : List D}, (∀ d ∈ ds, plainD d = true) → plainA ds = true
  | [], _ => by unfold plainA; rfl
  | d :: ds, h => by
    unfold plainA
    rw [h d List.mem_cons_self, plainA_of fun x hx => h x (List.mem_cons_of_mem _ hx)]; rfl
theorem plain_alikeB {ds : List D} (h : alikeB ds = true) : plainA ds = true := plainA_of fun d hd => plain_alike d ((alikeB_ok h).1 d hd d hd)
theorem s_mm {f : D → List D → D} (hf : ∀ x xs, f x xs ∈ x :: xs) : CallS K (on1 (mmD f)) (rMM K f) := callS1 fun F H v d z E h hz Q k => by
  unfold mmD at hz
  split at hz
  · split at hz
    · rename_i hc
      cases hz
      cases h with
      | lst h1 d1 =>
        refine ⟨_, _, _, _, rfl, .inl (.inl h1), (d1.ext E).l2 (plain_alikeB hc.1), hc.1, hc.2, fun i v hv hi => ?_⟩
        obtain ⟨v', h2, h3⟩ := d1.get hi
        rw [hv] at h2; cases h2
        exact k _ _ (.old h3)
    · cases hz
  · split at hz
    · rename_i hc
      cases hz
      cases h with
      | tup h1 d1 =>
        refine ⟨_, _, _, _, rfl, .inr (ext_t E h1), (d1.ext E).l2 (plain_alikeB hc.1), hc.1, hc.2, fun i v hv hi => ?_⟩
        obtain ⟨v', h2, h3⟩ := d1.get hi
        rw [hv] at h2; cases h2
        exact k _ _ (.old h3)
    · cases hz
  · cases hz
def oneNil : List D → Bool
  | [.tuple []] => true
  | _ => false
def sortB (ds : List D) : Bool := (ds.all fun x => ds.all fun y => PySem.W.alike x y) && ((ds.all fun x => match x with | .tuple (_ :: _) => true | _ => false) || ((ds.all fun x => match x with | .tuple _ => false | .none => false | _ => true) || oneNil ds)) && decide (ds.length ≤ sizeLine) && ds.all fun x => decide (x.depth ≤ 40)
def sortD : D → Option Rv
  | .list ds => if sortB ds then some (.fresh (ds.mergeSort (PySem.W.dataLe false id))) else none
  | _ => none
def rSortU (K : PySem.W.Frag) : List V → Hp → VK → Prop := fun vs H Q => ∃ (a : Addr) (ds : List D) (ys : List V) (R : V → D → Prop), vs = [V.ref a] ∧ SqL K H a ys ∧ L2.DpAll K H ys ds ∧ Paired R ys ds ∧ sortB ds = true ∧
  ∀ zs p, H p = none → Paired R zs (ds.mergeSort (PySem.W.dataLe false id)) → Q (.ref p) (upd H p (.lst zs))
end VI
set_option Elab.async false
set_option linter.all false
set_option maxRecDepth 100000
set_option maxHeartbeats 4000000
namespace VI
open PySem PySem.Spec PyProof.Rows L2
variable {K : PySem.W.Frag} {C : Cf} {F H : Hp} {e e' : Env} {σ : L2.St}
def eachOf (X : Cx) (H : Hp) (R : V → D → Prop) (u : Value) (d : D) : Prop := ∃ v, RelV v u ∧ R v d
theorem each_out {X : Cx} {R : V → D → Prop} : ∀ {out : List Value} {ds : List D}, PySem.W.EachIs (eachOf X H R) out ds → ∃ zs, Vals zs out ∧ Paired R zs ds
  | _, _, .nil => ⟨[], .nil, .nil⟩
  | _, _, .cons ⟨v, h1, h2⟩ r => by
    obtain ⟨zs, h3, h4⟩ := each_out r
    exact ⟨v :: zs, .cons h1 h3, .cons h2 h4⟩
theorem each_in {X : Cx} {R : V → D → Prop} : ∀ {ys : List V} {us : List Value} {ds : List D}, Vals ys us → Paired R ys ds → PySem.W.EachIs (eachOf X H R) us ds
  | _, _, _, .nil, .nil => .nil
  | _, _, _, .cons r t, .cons p q => .cons ⟨_, r, p⟩ (each_in t q)
theorem each_reads {h : Heap} : ∀ {us : List Value} {ds : List D} {as : List Addr}, ReadsAll h us ds as → PySem.W.EachIs (fun v b => ∃ as, Reads h v (id b) as) us ds
  | _, _, _, .nil => .nil
  | _, _, _, .cons r t => .cons ⟨_, r⟩ (each_reads t)
/-- one empty tuple -/
theorem sortsAt_nil {prog : Program} {w : World} {A : Around} {s : Shared} {v : Value} (r : ∃ as, Reads s.heap v (.tuple []) as) (hu : A.units + 1 < cLine) : PySem.W.SortsAt prog w A s (PySem.W.dataKind s.heap [PyData.tuple []]) [v] := by
  have hal : PySem.W.AllAlike [PyData.tuple []] := fun d hd d' hd' => by
    rw [List.mem_singleton.mp hd, List.mem_singleton.mp hd']; rfl
  refine ⟨fun u hu => ?_, ⟨PyProof.Rows.tuples' false, fun E x y a b Q ha hb hq => ?_, fun h2 => absurd h2 (by simp)⟩⟩
  · obtain ⟨as, r⟩ := r
    rw [List.mem_singleton.mp hu]
    exact ⟨_, PySem.W.dataKind_some hal (List.mem_singleton.mpr rfl) r⟩
  · obtain ⟨d, as, hd, ra, rfl⟩ := PySem.W.dataKind_inv ha
    obtain ⟨d', as', hd', rb, rfl⟩ := PySem.W.dataKind_inv hb
    have e := List.mem_singleton.mp hd
    have e' := List.mem_singleton.mp hd'
    subst e; subst e'
    have hq' : Q (PySem.W.dataLt (.tuple []) (.tuple [])) s := hq
    rw [PySem.W.dataLt_tuple] at hq'
    cases ra with
    | @tuple l o xs n _ _ h1 h2 h3 h4 =>
      cases rb with
      | @tuple l' o' xs' n' _ _ k1 k2 k3 k4 =>
        have n1 : xs.size = 0 := by simpa using SeqAt.ReadsAll.length _ _ _ h4
        have n2 : xs'.size = 0 := by simpa using SeqAt.ReadsAll.length _ _ _ k4
        exact PySem.W.kat_lt h1 h3 k1 k3 (PySem.W.katLex_alike [] [] 0 _ _ _ _ h4 k4 rfl (by show A.units + 0 < cLine; omega) (fun hb => absurd hb (by simp)) (by rw [n1, n2]; rfl) hq')
theorem c_sort {X : Cx} (hr : X.A.units + 64 < cLine) : CallR X (.builtin "sorted") (rSortU X.K) := by
  intro pins s σ H vs us Q I r h
  obtain ⟨a, ds, ys, R, rfl, hs, hd, hp, hb, q⟩ := h
  obtain ⟨its, rv, hl, hz⟩ := I.list hs
  rw [Vals.ref1 r]
  obtain ⟨as, hra⟩ := L2.Dp.readsAll I _ _ _ hd rv
  unfold sortB at hb
  rw [Bool.and_eq_true, Bool.and_eq_true, Bool.and_eq_true, Bool.or_eq_true] at hb
  obtain ⟨⟨⟨h1, h2⟩, h3⟩, h4⟩ := hb
  have hl3 := of_decide_eq_true h3
  have fin : ∀ out : List Value, out.length = ds.length → PySem.W.EachIs (eachOf X H R) out (ds.mergeSort (PySem.W.dataLe false id)) → EP X pins σ Q (.ref (s.heap.objs.size + 1)) { s with heap := PyProof.Rows.sortedAll s.heap its (List.toArray out) } := fun out ho he => by
    obtain ⟨zs, hz1, hz2⟩ := each_out he
    obtain ⟨ep, he'⟩ := PyProof.Rows.sortedAll_at s.heap its (List.toArray out)
    have hlen : zs.length ≤ sizeLine := by rw [hz1.length, ho]; exact hl3
    exact ⟨.ref _, upd H (s.heap.objs.size + 1) (.lst zs), I.laid (t' := s.toks) (fun _ _ => PyProof.Rows.sortedAll_old) (Nat.le_succ _) ⟨hlen, out, ep, hz1, he'⟩, rfl, q zs _ (I.hok.fresh (Nat.le_succ _)) hz2⟩
  have hal : PySem.W.AllAlike (ds.map id) := fun d hd d' hd' => by
    rw [List.map_id] at hd hd'
    exact List.all_eq_true.mp (List.all_eq_true.mp h1 d hd) d' hd'
  by_cases h0 : oneNil ds = true
  · have e : ds = [.tuple []] := by
      unfold oneNil at h0
      split at h0
      · rfl
      · cases h0
    subst e
    have er := each_reads hra
    have er' : PySem.W.EachIs (fun v b => ∃ as, Reads (PySem.W.sortingHeap (PySem.W.copyHeap s.heap its) (s.heap.objs.size + 1) its) v (id b) as) its [PyData.tuple []] := er.mono fun _ _ ⟨as, r⟩ => ⟨as, PyProof.Rows.Reads.keeps (fun _ _ => PySem.W.sorting_copy_old) r⟩
    have ei := each_in (X := X) (H := H) rv hp
    cases its with
    | nil => cases er'
    | cons v its =>
      cases er' with
      | cons r0 rest =>
        cases rest
        exact PySem.W.sorted_vals (κ := PySem.W.dataKind (PySem.W.sortingHeap (PySem.W.copyHeap s.heap [v]) (s.heap.objs.size + 1) [v]) [PyData.tuple []]) hl.isList (sortsAt_nil r0 (by show X.A.units + 1 + 1 + 1 < cLine; omega)) (by rw [sizeLine_eq]; simp) (fin _ ((PySem.W.sortVals_length false rfl).trans rfl) (PySem.W.sortVals_data (enc := id) false ei (.cons r0 .nil) hal))
  refine PySem.W.sorted_data (enc := id) (bs := ds) (R := eachOf X H R) hl.isList (each_in rv hp) (each_reads hra) hal ?_ hl3 (fun b hb => ?_) fin
  · rw [List.map_id]
    rcases h2 with h2 | h2
    · refine .inl fun d hd => ?_
      have := List.all_eq_true.mp h2 d hd
      split at this
      · exact ⟨_, _, rfl⟩
      · cases this
    · rw [Bool.or_eq_true] at h2
      rcases h2 with h2 | h2
      rotate_left
      · exact absurd h2 h0
      refine .inr fun d hd => ?_
      have := List.all_eq_true.mp h2 d hd
      refine ⟨fun e => ?_, fun xs e => ?_⟩ <;> subst e <;> cases this
  · have := of_decide_eq_true (List.all_eq_true.mp h4 b hb)
    show X.A.units + 2 + b.depth < cLine
    omega
theorem paired_dp : ∀ {vs : List V} {ds : List D}, DpAll K F vs ds → Paired (Dp K F) vs ds
  | _, _, .nil => .nil
  | _, _, .cons a r => .cons a (paired_dp r)
theorem dp_paired : ∀ {vs : List V} {ds : List D}, Paired (Dp K F) vs ds → DpAll K F vs ds
  | _, _, .nil => .nil
  | _, _, .cons a r => .cons a (dp_paired r)
theorem s_sort : CallS K (on1 sortD) (rSortU K) := callS1 fun F H v d z E h hz Q k => by
  unfold sortD at hz
  split at hz
  · split at hz
    · rename_i hc
      cases hz
      cases h with
      | lst h1 d1 => exact ⟨_, _, _, Dp K F, rfl, .inl h1, (d1.ext E).l2 (plainA_of fun d hd => plain_alike d (by
        unfold sortB at hc
        rw [Bool.and_eq_true, Bool.and_eq_true, Bool.and_eq_true] at hc
        exact List.all_eq_true.mp (List.all_eq_true.mp hc.1.1.1 d hd) d hd)), paired_dp d1, hc, fun zs p hp hzs => k _ _ (.lst hp (dp_paired hzs))⟩
    · cases hz
  · cases hz
end VI
set_option Elab.async false
set_option linter.all false
set_option maxRecDepth 100000
set_option maxHeartbeats 4000000
namespace VI
open PySem PySem.Spec PyProof.Rows L2
variable {K : PySem.W.Frag} {C : Cf} {F H : Hp} {e e' : Env} {σ : L2.St}
/-- a list or a tuple -/
inductive Sk where
  | l | t
def SqK (K : PySem.W.Frag) (H : Hp) : Sk → Addr → List V → Prop
  | .l => SqL K H
  | .t => SqT K H
def IsSq (h : Heap) : Sk → Addr → Array Value → Prop
  | .l => h.IsList
  | .t => h.IsTuple
def IterAt (h : Heap) : Sk → Addr → Addr → Nat → Prop
  | .l => h.IsListIter
  | .t => h.IsTupleIter
def itObj : Sk → Addr → Obj
  | .l, a => { cls := .type "list_iterator", data := .fields #[.ref a, .int 0 0] }
  | .t, a => { cls := .type "tuple_iterator", data := .fields #[.ref a, .int 0 0] }
theorem begins_sq (k : Sk) (a : Addr) (xs : Array Value) : Begins (.ref a) (itObj k a) (fun h => IsSq h k a xs) := by
  cases k with
  | l => exact begins_list a xs
  | t => exact begins_tuple a xs
theorem draws_sq {prog : Program} {w : World} {A : Around} (hh : A.handled = none) (k : Sk) (it a : Addr) (hne : a ≠ it) (xs : Array Value) :
    Draws prog w A it [it, a] xs.size (fun i v => xs[i]? = some v) (fun i h => IterAt h k it a i ∧ IsSq h k a xs) := by
  cases k with
  | l => exact Draws.list hh it a hne xs
  | t => exact Draws.tuple hh it a hne xs
theorem iter0 (k : Sk) {h : Heap} {it a : Addr} (e : h.get? it = some (itObj k a)) : IterAt h k it a 0 := by
  cases k with
  | l => exact ⟨_, e, rfl, rfl⟩
  | t => exact ⟨_, e, rfl, rfl⟩
theorem IterAt.keep {k : Sk} {h h' : Heap} {it a : Addr} {i : Nat} (x : IterAt h k it a i) (q : ∀ o, h.get? it = some o → h'.get? it = some o) : IterAt h' k it a i := by
  cases k with
  | l => exact Heap.IsListIter.at x q
  | t => exact Heap.IsTupleIter.at x q
theorem IterAt.obj {k : Sk} {h : Heap} {it a : Addr} {i : Nat} (x : IterAt h k it a i) : ∃ o, h.get? it = some o ∧ ∀ v, o.data ≠ .cell v := by
  cases k with
  | l => obtain ⟨o, h1, _, h3⟩ := x; exact ⟨o, h1, fun v z => by rw [h3] at z; cases z⟩
  | t => obtain ⟨o, h1, _, h3⟩ := x; exact ⟨o, h1, fun v z => by rw [h3] at z; cases z⟩
section
variable {X : Cx} {pins : List (Addr × Obj)} {s : Shared} {k : Sk} {a : Addr} {xs ys : List V}
theorem sq_at (I : Inv X pins σ H s) (h : SqK X.K H k a xs) : ∃ its : List Value, Vals xs its ∧ IsSq s.heap k a its.toArray ∧ xs.length ≤ sizeLine ∧ a < s.heap.objs.size := by
  cases k with
  | l => obtain ⟨its, r, p, z⟩ := I.list h; exact ⟨its, r, p.isList, z, p.lt⟩
  | t => obtain ⟨its, r, p, z⟩ := I.tuple h; exact ⟨its, r, p, z, by obtain ⟨o, ho, _⟩ := p; exact Heap.lt_size ho⟩
theorem sq_one (I : Inv X pins σ H s) (h : SqK X.K H k a xs) (h' : SqK X.K H k a ys) : xs = ys := by
  cases k with
  | l => exact I.list_inj h h'
  | t => exact I.tuple_inj h h'
end
theorem IsSq.upto {k : Sk} {h h' : Heap} {a : Addr} {xs : Array Value} (x : IsSq h k a xs) (q : ∀ o, h.get? a = some o → h'.get? a = some o) : IsSq h' k a xs := by
  cases k with
  | l => exact Heap.IsList.at x q
  | t => exact Heap.IsTuple.at x q
theorem IsSq.cls {k : Sk} {h : Heap} {a : Addr} {xs : Array Value} (x : IsSq h k a xs) : ∃ o, h.get? a = some o ∧ (o.cls = .type "list" ∨ o.cls = .type "tuple") := by
  cases k with
  | l => obtain ⟨o, q, q2, _⟩ := x; exact ⟨o, q, .inl q2⟩
  | t => obtain ⟨o, q, q2, _⟩ := x; exact ⟨o, q, .inr q2⟩
theorem IsSq.apart {k : Sk} {h : Heap} {a b : Addr} {xs : Array Value} {o : Obj} (x : IsSq h k a xs) (e : h.get? b = some o) (n : o.cls ≠ .type "list" ∧ o.cls ≠ .type "tuple") : a ≠ b := fun z => by
  obtain ⟨o', q, q2⟩ := x.cls
  rw [z, e] at q; cases q
  exact q2.elim n.1 n.2
theorem IterAt.apart {k k2 : Sk} {h : Heap} {it a b : Addr} {i : Nat} {xs : Array Value} (x : IterAt h k it a i) (y : IsSq h k2 b xs) : b ≠ it := by
  cases k with
  | l => obtain ⟨o, h1, h2, h3⟩ := x; exact y.apart h1 (by rw [h2]; simp)
  | t => obtain ⟨o, h1, h2, h3⟩ := x; exact y.apart h1 (by rw [h2]; simp)
def IteK (K : PySem.W.Frag) (k : Sk) (a : Addr) : It :=
  ⟨fun i H => ∃ (xs : List V) (x : V), SqK K H k a xs ∧ xs[i]? = some x, fun i H v H' => ∃ T x, v = .ref T ∧ H T = none ∧ H' = upd H T (.tup [.int (i : Nat), x]) ∧ ∀ xs, SqK K H k a xs → xs[i]? = some x,
    fun i H => ∃ xs : List V, SqK K H k a xs ∧ xs.length = i⟩
theorem turn_enumK {P : Program} {w : World} {K : PySem.W.Frag} {elts : List Expr} {kk : Nat} {tpos : Pos} (k : Sk) (a e it : Addr) :
    Turn P w K (.Tuple elts kk tpos) (IteK K k a) [e, it] e (fun i h => (∃ old, IsEnum h e it (0 + (i : Int)) old) ∧ IterAt h k it a i ∧ e ≠ it) where
  mem := List.mem_cons_self
  obj := fun i h st b hb => by
    obtain ⟨⟨old, he⟩, hi, _⟩ := st
    rcases List.mem_cons.mp hb with z | z
    · subst z; exact ⟨_, he, fun v q => by cases q⟩
    · rw [List.mem_singleton.mp z]; exact hi.obj
  keep := fun i h h' st q => let ⟨⟨old, he⟩, hi, hne⟩ := st; ⟨⟨old, q e List.mem_cons_self _ he⟩, hi.keep (q it (List.mem_cons_of_mem _ List.mem_cons_self)), hne⟩
  item := by
    intro X hP hw hK hc i pins s σ H E I hf st hg
    subst hP hw hK
    obtain ⟨he, hit, hne⟩ := st
    obtain ⟨xs, x, hq, hx⟩ := hg
    obtain ⟨its, rv, p, hz, hal⟩ := sq_at I hq
    obtain ⟨u, hu, ru⟩ := rv.get hx
    have hel : e < s.heap.objs.size := by obtain ⟨_, q⟩ := he; exact Heap.lt_size q
    have hil : it < s.heap.objs.size := by obtain ⟨_, q, _⟩ := hit.obj; exact Heap.lt_size q
    have f1 := hf it (List.mem_cons_of_mem _ List.mem_cons_self)
    have f0 := hf e List.mem_cons_self
    have key : a ≠ it ∧ a ≠ e := ⟨hit.apart p, by obtain ⟨old, he⟩ := he; exact p.apart he (by simp)⟩
    have W := GoesN.enumFrom (prog := X.prog) (w := X.w) (A := X.A) (elts := elts) (x1 := kk) (pos := tpos) 0 (draws_sq (A := X.A.in1) (I.ok.hd hc) k it a key.1 its.toArray) e hne
      (fun z => by rcases List.mem_cons.mp z with z | z; exact hne z; exact key.2 (List.mem_singleton.mp z).symm) List.mem_cons_self
    have hlt : i < its.toArray.size := by
      rw [List.size_toArray]; exact (List.getElem?_eq_some_iff.mp hu).1
    refine W.goes i s _ E hlt ⟨he, hit, p⟩ fun v h' tk hY st' hk htk => ?_
    obtain ⟨T, t, y, rfl, hT, hy, hTup⟩ := hY
    have hy : its[i]? = some y := by simpa using hy
    rw [hu] at hy; cases hy
    have hT0 : H T = none := I.hok.fresh hT
    obtain ⟨o, o1, o2, n, o3⟩ := hTup
    have new : ObjOk X.prog X.w (upd H T (.tup [.int (i : Nat), x])) h' T (.tup [.int (i : Nat), x]) :=
      ⟨by show 2 ≤ sizeLine; decide, [.int (0 + (i : Int)) t, u], .cons ⟨t, by rw [Int.zero_add]⟩ (.cons ru .nil), ⟨o, o1, o2, n, o3⟩⟩
    have I1 : Inv X pins σ (upd H T (.tup [.int (i : Nat), x])) { s with heap := h', toks := tk } := I.turnedNew (ch := [e, it]) hk hf hT new
    refine ⟨.ref T, _, I1, rfl, ⟨T, x, rfl, hT0, rfl, fun ys hys => by rw [sq_one I hys hq]; exact hx⟩, ⟨st'.1, st'.2.1, hne⟩, fun b hb => ?_⟩
    have hb' : b < s.heap.objs.size := by
      rcases List.mem_cons.mp hb with z | z
      · rw [z]; exact hel
      · rw [List.mem_singleton.mp z]; exact hil
    rw [upd_ne (Nat.ne_of_lt (Nat.lt_of_lt_of_le hb' hT))]
    exact (hf b hb).1
  done := by
    intro X hP hw hK hc i pins s σ H E I hf st hg
    subst hP hw hK
    obtain ⟨he, hit, hne⟩ := st
    obtain ⟨xs, hq, hx⟩ := hg
    obtain ⟨its, rv, p, hz, hal⟩ := sq_at I hq
    have key : a ≠ it ∧ a ≠ e := ⟨hit.apart p, by obtain ⟨old, he⟩ := he; exact p.apart he (by simp)⟩
    have W := GoesN.enumFrom (prog := X.prog) (w := X.w) (A := X.A) (elts := elts) (x1 := kk) (pos := tpos) 0 (draws_sq (A := X.A.in1) (I.ok.hd hc) k it a key.1 its.toArray) e hne
      (fun z => by rcases List.mem_cons.mp z with z | z; exact hne z; exact key.2 (List.mem_singleton.mp z).symm) List.mem_cons_self
    have hn : its.toArray.size = i := by rw [List.size_toArray, ← rv.length]; exact hx
    exact W.stops s _ E (by rw [hn]; exact ⟨he, hit, p⟩) fun h' tk hk htk => I.turnedL (t' := tk) (ch := [e, it]) hk hf
  self := fun A i s Q E st h => let ⟨⟨_, he⟩, _⟩ := st; wpAny_pyIter_enum he h
theorem walk_enumK {k : Sk} {a : Addr} {xs : List V} : Walk (IteK K k a) xs.length (fun H => SqK K H k a xs) (YPair (fun i => some (.int (i : Nat))) (fun i => xs[i]?)) := by
  refine ⟨fun i _ hi q => ⟨xs, xs[i], q, by simp [hi]⟩, fun _ q => ⟨xs, q, rfl⟩, fun i H v H' _ q y => ?_⟩
  obtain ⟨T, x, h1, h2, h3, h4⟩ := y
  exact ⟨T, .int (i : Nat), x, h1, h2, h3, rfl, h4 xs q⟩
theorem meets_enumT (t : Addr) (xs : Array Value) :
    Meets (Builtin.«enumerate.__new__» ⟨[.type "enumerate", .ref t], []⟩) (fun _ R s => s.heap.IsTuple t xs ∧
      R (.ok (.ret (.ref (s.heap.push (itObj .t t)).objs.size))) { s with heap := (s.heap.push (itObj .t t)).push { cls := .type "enumerate", data := .fields #[.none, .bool false, .ref s.heap.objs.size, rawInt 0, .none, .none] } }) :=
  .of_wp fun prog w A R s h => by
    obtain ⟨hp, g, d, tk, os⟩ := s
    obtain ⟨⟨ob, hl, hcl, n, hdt⟩, h⟩ := h
    obtain ⟨c, dct, dt, sl⟩ := ob
    simp only at hcl hdt
    subst hcl hdt
    have hsub := sub_enumerate
    have hT : Heap.IsTuple (Shared.heap ⟨hp, g, d, tk, os⟩) t xs := ⟨_, hl, rfl, n, rfl⟩
    wp_walk using AutoSeq1.wpAny_loadPart' hl
    refine wpAny_stack_any (fun st => wpAny_pure ?_)
    split
    · rename_i c _ _ _ _ _
      cases (c == Value.type "enumerate")
      · wp_walk using AutoSeq1.wpAny_loadPart' hl, wpAny_pyIter_tuple hT
        exact ⟨_, rfl, h⟩
      · wp_walk using AutoSeq1.wpAny_loadPart' hl, wpAny_pyIter_tuple hT
        exact ⟨_, rfl, h⟩
    · wp_walk using AutoSeq1.wpAny_loadPart' hl, wpAny_pyIter_tuple hT
      exact ⟨_, rfl, h⟩
theorem call_enumT {prog : Program} {w : World} {A : Around} {E : Value → Shared → Prop} {s : Shared} {t : Addr} {xs : Array Value} {Q : Value → Shared → Prop} (hT : s.heap.IsTuple t xs)
    (h : ∀ h', IsEnum h' (s.heap.objs.size + 1) s.heap.objs.size 0 .none → h'.IsTupleIter s.heap.objs.size t 0 → (∀ b o, s.heap.get? b = some o → h'.get? b = some o) → Q (.ref (s.heap.objs.size + 1)) { s with heap := h' }) :
    wpAny (model prog w) A (call (.type "enumerate") [.ref t]) Q E s := by
  refine callType_new F.called_enumerate (by decide) (F.typeCall_enumerate_1 _) (F.newCall_enumerate_1 _) (fun obj => F.args_object_init_2 obj _) F.entry_enumerate_new (meets_enumT t xs) ⟨hT, ?_⟩
  have hz : (s.heap.push (itObj .t t)).objs.size = s.heap.objs.size + 1 := Heap.size_push ..
  show _ ∧ _
  rw [hz]
  have he : IsEnum ((s.heap.push (itObj .t t)).push { cls := .type "enumerate", data := .fields #[.none, .bool false, .ref s.heap.objs.size, rawInt 0, .none, .none] }) (s.heap.objs.size + 1) s.heap.objs.size 0 .none := by
    have := Heap.get?_push_size (s.heap.push (itObj .t t)) (o := { cls := .type "enumerate", data := .fields #[.none, .bool false, .ref s.heap.objs.size, rawInt 0, .none, .none] }) rfl
    rwa [hz] at this
  exact ⟨⟨_, he, rfl⟩, h _ he ⟨_, Heap.get?_push_of_some _ (Heap.get?_push_size _ rfl), rfl, rfl⟩ fun b o x => Heap.get?_push_of_some _ (Heap.get?_push_of_some _ x)⟩
def iEnumK (K : PySem.W.Frag) (ta : TA) : TI := fun σ H R => ta σ H fun vs H1 => ∃ k a xs, vs = [.ref a] ∧ SqK K H1 k a xs ∧ R (IteK K k a) H1
theorem pi_enumK {X : Cx} {ex : Expr} {ta : TA} {p pos tpos : Pos} {elts : List Expr} {kk : Nat} (hg : Gl X "enumerate") (hm : X.mg "enumerate" = none) (ha : PA X [ex] ta) (hs : starEach [ex] X.env = [(false, eval ex X.env)] := by rfl) :
    PI X (.Tuple elts kk tpos) (.Call (.Name "enumerate" p) [ex] [] pos) (iEnumK X.K ta) := by
  refine ⟨fun pins s σ H R I h => ?_⟩
  refine Call_ (ld_blt I hg hm boot_enumerate (PyProof.Rows.callWith_type1 (thn (ha.run pos pins s σ H _ I h) fun us s1 ⟨vs, H1, I1, r1, q1⟩ => ?_) hs rfl))
  obtain ⟨k, a, xs, rfl, hq, q⟩ := q1
  rw [Vals.ref1 r1]
  obtain ⟨its, rv, p', hz, hal⟩ := sq_at I1 hq
  have fin : ∀ h', IsEnum h' (s1.heap.objs.size + 1) s1.heap.objs.size 0 .none → IterAt h' k s1.heap.objs.size a 0 → (∀ b o, s1.heap.get? b = some o → h'.get? b = some o) →
      wpAny (model X.prog X.w) X.A (pyIter (.ref (s1.heap.objs.size + 1))) (PIE X pins σ (.Tuple elts kk tpos) R) X.xe { s1 with heap := h' } := fun h' he hit hk => by
    refine wpAny_pyIter_enum he ?_
    refine ⟨s1.heap.objs.size + 1, [s1.heap.objs.size + 1, s1.heap.objs.size], _, _, H1, rfl, I1.kept (t' := s1.toks) hk, turn_enumK k a (s1.heap.objs.size + 1) s1.heap.objs.size, ⟨⟨.none, he⟩, hit, Nat.succ_ne_self _⟩, fun b hb => ?_, q⟩
    have hle : s1.heap.objs.size ≤ b := by
      rcases List.mem_cons.mp hb with z | z
      · rw [z]; exact Nat.le_succ _
      · rw [List.mem_singleton.mp z]; exact Nat.le_refl _
    exact I1.fpOk hle (I1.hok.fresh hle)
  cases k with
  | l => exact call_enumerate_list p' fun h' he hit hsz hk => fin h' he hit hk
  | t => exact call_enumT p' fun h' he hit hk => fin h' he hit hk
end VI
set_option Elab.async false
set_option linter.all false
set_option maxRecDepth 100000
set_option maxHeartbeats 4000000
namespace VI
open PySem PySem.Spec PyProof.Rows L2
variable {K : PySem.W.Frag} {C : Cf} {F H : Hp} {e e' : Env} {σ : L2.St}
structure ZApart (z TI TO i1 i2 a b : Addr) : Prop where
  aTO : a ≠ TO
  bTO : b ≠ TO
  TIz : TI ≠ z
  TOz : TO ≠ z
  TITO : TI ≠ TO
  TIi1 : TI ≠ i1
  TIi2 : TI ≠ i2
  zi1 : z ≠ i1
  zi2 : z ≠ i2
  TOi1 : TO ≠ i1
  TOi2 : TO ≠ i2
  i12 : i1 ≠ i2
def ItzK (K : PySem.W.Frag) (k1 k2 : Sk) (a b : Addr) : It :=
  ⟨fun i H => ∃ (xs ys : List V) (x y : V), SqK K H k1 a xs ∧ SqK K H k2 b ys ∧ xs[i]? = some x ∧ ys[i]? = some y,
    fun i H v H' => ∃ T x y, v = .ref T ∧ H T = none ∧ H' = upd H T (.tup [x, y]) ∧ (∀ xs, SqK K H k1 a xs → xs[i]? = some x) ∧ ∀ ys, SqK K H k2 b ys → ys[i]? = some y,
    fun i H => ∃ xs ys : List V, SqK K H k1 a xs ∧ SqK K H k2 b ys ∧ min xs.length ys.length = i⟩
theorem five {c z TI TO i1 i2 : Addr} (h : c ∈ [z, TI, TO, i1, i2]) : c = z ∨ c = TI ∨ c = TO ∨ c = i1 ∨ c = i2 := by simpa using h
theorem turn_zipK {P : Program} {w : World} {K : PySem.W.Frag} {elts : List Expr} {kk : Nat} {tpos : Pos} {k1 k2 : Sk} {a b z TI TO i1 i2 : Addr} (D : ZApart z TI TO i1 i2 a b) :
    Turn P w K (.Tuple elts kk tpos) (ItzK K k1 k2 a b) [z, TI, TO, i1, i2] z (fun i h => IsZip h z TI TO .none ∧ IsTupOf2 h TI (.ref i1) (.ref i2) ∧ (∃ x y, IsTupOf2 h TO x y) ∧ IterAt h k1 i1 a i ∧ IterAt h k2 i2 b i) := by
  have wr : ∀ c, c ∉ [z, TI, TO, i1, i2] → c ∉ [z, TO, i1, i2] := fun c hc q => hc (by
    rcases List.mem_cons.mp q with q | q
    · simp [q]
    · rcases List.mem_cons.mp q with q | q
      · simp [q]
      · rcases List.mem_cons.mp q with q | q
        · simp [q]
        · simp [List.mem_singleton.mp q])
  have mk : ∀ (X : Cx), X.calm = true → ∀ {pins : List (Addr × Obj)} {s : Shared} {σ : L2.St} {H : Hp} {its its2 : Array Value} {i : Nat}, Inv X pins σ H s → IsZip s.heap z TI TO .none → (∃ x y, IsTupOf2 s.heap TO x y) → IterAt s.heap k1 i1 a i → IterAt s.heap k2 i2 b i →
      IsSq s.heap k1 a its → IsSq s.heap k2 b its2 → GoesN X.prog X.w X.A (.Tuple elts kk tpos) z (z :: TI :: TO :: ([i1, a] ++ [i2, b])) [z, TO, i1, i2] (min its.size its2.size)
        (fun i h₀ v h => ∃ T x y, v = .ref T ∧ h₀.objs.size ≤ T ∧ its[i]? = some x ∧ its2[i]? = some y ∧ h.IsTuple T #[x, y])
        (fun i h => IsZip h z TI TO .none ∧ IsTupOf2 h TI (.ref i1) (.ref i2) ∧ (∃ a1 a2, IsTupOf2 h TO a1 a2) ∧ (IterAt h k1 i1 a i ∧ IsSq h k1 a its) ∧ (IterAt h k2 i2 b i ∧ IsSq h k2 b its2)) := by
    intro X hc pins s σ H its its2 i I hz hTO h1 h2 p1 p2
    have az : a ≠ z := p1.apart hz (by simp)
    have bz : b ≠ z := p2.apart hz (by simp)
    have a1 : a ≠ i1 := h1.apart p1
    have a2 : a ≠ i2 := h2.apart p1
    have b1 : b ≠ i1 := h1.apart p2
    have b2 : b ≠ i2 := h2.apart p2
    have S : ZipSep2 z TI TO i1 i2 [i1, a] [i2, b] :=
      { TIz := D.TIz, TOz := D.TOz, TITO := D.TITO, TIi1 := D.TIi1, TIi2 := D.TIi2, mem1 := List.mem_cons_self, mem2 := List.mem_cons_self,
        zf1 := fun q => by rcases List.mem_cons.mp q with q | q; exact D.zi1 q; exact az (List.mem_singleton.mp q).symm,
        Tf1 := fun q => by rcases List.mem_cons.mp q with q | q; exact D.TOi1 q; exact D.aTO (List.mem_singleton.mp q).symm,
        zf2 := fun q => by rcases List.mem_cons.mp q with q | q; exact D.zi2 q; exact bz (List.mem_singleton.mp q).symm,
        Tf2 := fun q => by rcases List.mem_cons.mp q with q | q; exact D.TOi2 q; exact D.bTO (List.mem_singleton.mp q).symm,
        sep1_2 := fun q => by rcases List.mem_cons.mp q with q | q; exact D.i12 q; exact b1 (List.mem_singleton.mp q).symm,
        sep2_1 := fun q => by rcases List.mem_cons.mp q with q | q; exact D.i12 q.symm; exact a2 (List.mem_singleton.mp q).symm }
    exact GoesN.zip2 S (draws_sq (A := X.A.in1) (I.ok.hd hc) k1 i1 a a1 its) (draws_sq (A := X.A.in1) (I.ok.hd hc) k2 i2 b b2 its2)
  refine ⟨List.mem_cons_self, fun i h st c hc => ?_, fun i h h' st q => ?_, ?_, ?_, fun A i s Q E st h => wpAny_pyIter_zip st.1 h⟩
  · obtain ⟨hz, hTI, ⟨x, y, hTO⟩, h1, h2⟩ := st
    rcases five hc with q | q | q | q | q <;> subst q
    · exact ⟨_, hz, fun v q => by cases q⟩
    · exact ⟨_, hTI, fun v q => by cases q⟩
    · exact ⟨_, hTO, fun v q => by cases q⟩
    · exact h1.obj
    · exact h2.obj
  · obtain ⟨hz, hTI, ⟨x, y, hTO⟩, h1, h2⟩ := st
    exact ⟨q _ (by simp) _ hz, q _ (by simp) _ hTI, ⟨x, y, q _ (by simp) _ hTO⟩, h1.keep (q _ (by simp)), h2.keep (q _ (by simp))⟩
  · intro X hP hw hK hc i pins s σ H E I hf st hg
    subst hP hw hK
    obtain ⟨hz, hTI, hTO, h1, h2⟩ := st
    obtain ⟨xs, ys, x, y, hqx, hqy, hx, hy⟩ := hg
    obtain ⟨its, rv, p, _, la⟩ := sq_at I hqx
    obtain ⟨its2, rv2, p2, _, lb⟩ := sq_at I hqy
    obtain ⟨u, hu, ru⟩ := rv.get hx
    obtain ⟨u2, hu2, ru2⟩ := rv2.get hy
    have W := mk X hc I hz hTO h1 h2 p p2
    have hlt : i < min its.toArray.size its2.toArray.size := by
      have z1 := (List.getElem?_eq_some_iff.mp hu).1
      have z2 := (List.getElem?_eq_some_iff.mp hu2).1
      rw [List.size_toArray, List.size_toArray]; omega
    refine W.goes i s _ E hlt ⟨hz, hTI, hTO, ⟨h1, p⟩, ⟨h2, p2⟩⟩ fun v h' tk hY st' hk htk => ?_
    obtain ⟨T, v1, v2, rfl, hT, hv1, hv2, hTup⟩ := hY
    have hv1 : its[i]? = some v1 := by simpa using hv1
    have hv2 : its2[i]? = some v2 := by simpa using hv2
    rw [hu] at hv1; cases hv1
    rw [hu2] at hv2; cases hv2
    have hT0 : H T = none := I.hok.fresh hT
    obtain ⟨o, o1, o2, n, o3⟩ := hTup
    have new : ObjOk X.prog X.w (upd H T (.tup [x, y])) h' T (.tup [x, y]) := ⟨by show 2 ≤ sizeLine; decide, [u, u2], .cons ru (.cons ru2 .nil), ⟨o, o1, o2, n, o3⟩⟩
    have I1 : Inv X pins σ (upd H T (.tup [x, y])) { s with heap := h', toks := tk } := I.turnedNew (ch := [z, TI, TO, i1, i2]) (fun c o' hb q => hk c o' (wr c hb) q) hf hT new
    refine ⟨.ref T, _, I1, rfl, ⟨T, x, y, rfl, hT0, rfl, fun l hl => by rw [sq_one I hl hqx]; exact hx, fun l hl => by rw [sq_one I hl hqy]; exact hy⟩, ⟨st'.1, st'.2.1, st'.2.2.1, st'.2.2.2.1.1, st'.2.2.2.2.1⟩, fun c hcm => ?_⟩
    have hlt : c < s.heap.objs.size := by
      obtain ⟨t1, t2, hTO⟩ := hTO
      rcases five hcm with q | q | q | q | q <;> subst q
      · exact Heap.lt_size hz
      · exact Heap.lt_size hTI
      · exact Heap.lt_size hTO
      · obtain ⟨_, e1, _⟩ := h1.obj; exact Heap.lt_size e1
      · obtain ⟨_, e1, _⟩ := h2.obj; exact Heap.lt_size e1
    rw [upd_ne (Nat.ne_of_lt (Nat.lt_of_lt_of_le hlt hT))]
    exact (hf c hcm).1
  · intro X hP hw hK hc i pins s σ H E I hf st hg
    subst hP hw hK
    obtain ⟨hz, hTI, hTO, h1, h2⟩ := st
    obtain ⟨xs, ys, hqx, hqy, hn⟩ := hg
    obtain ⟨its, rv, p, _, la⟩ := sq_at I hqx
    obtain ⟨its2, rv2, p2, _, lb⟩ := sq_at I hqy
    have W := mk X hc I hz hTO h1 h2 p p2
    have hn' : min its.toArray.size its2.toArray.size = i := by rw [List.size_toArray, List.size_toArray, ← rv.length, ← rv2.length]; exact hn
    exact W.stops s _ E (by rw [hn']; exact ⟨hz, hTI, hTO, ⟨h1, p⟩, ⟨h2, p2⟩⟩) fun h' tk hk htk => I.turnedL (t' := tk) (ch := [z, TI, TO, i1, i2]) (fun c o' hb q => hk c o' (wr c hb) q) hf
theorem walk_zipK {k1 k2 : Sk} {a b : Addr} {xs ys : List V} : Walk (ItzK K k1 k2 a b) (min xs.length ys.length) (fun H => SqK K H k1 a xs ∧ SqK K H k2 b ys) (YPair (fun i => xs[i]?) (fun i => ys[i]?)) := by
  refine ⟨fun i _ hi q => ?_, fun _ q => ⟨xs, ys, q.1, q.2, rfl⟩, fun i H v H' _ q y => ?_⟩
  · have z1 : i < xs.length := Nat.lt_of_lt_of_le hi (Nat.min_le_left _ _)
    have z2 : i < ys.length := Nat.lt_of_lt_of_le hi (Nat.min_le_right _ _)
    exact ⟨xs, ys, xs[i], ys[i], q.1, q.2, by simp [z1], by simp [z2]⟩
  · obtain ⟨T, x, z, h1, h2, h3, h4, h5⟩ := y
    exact ⟨T, x, z, h1, h2, h3, h4 xs q.1, h5 ys q.2⟩
def iZipK (K : PySem.W.Frag) (ta : TA) : TI := fun σ H R => ta σ H fun vs H1 => ∃ k1 k2 a b xs ys, vs = [.ref a, .ref b] ∧ SqK K H1 k1 a xs ∧ SqK K H1 k2 b ys ∧ R (ItzK K k1 k2 a b) H1
theorem pi_zipK {X : Cx} {ex e2 : Expr} {ta : TA} {p pos tpos : Pos} {elts : List Expr} {kk : Nat} (hg : Gl X "zip") (hm : X.mg "zip" = none) (ha : PA X [ex, e2] ta)
    (hs : starEach [ex, e2] X.env = (false, eval ex X.env) :: starEach [e2] X.env := by rfl) (hpl : (backTo pos (starEach [e2] X.env)).any (·.1) = false := by rfl) :
    PI X (.Tuple elts kk tpos) (.Call (.Name "zip" p) [ex, e2] [] pos) (iZipK X.K ta) := by
  refine ⟨fun pins s σ H R I h => ?_⟩
  refine Call_ (ld_blt I hg hm PyProof.Rows.boot_zip (PyProof.Rows.callWith_type1 (thn (ha.run pos pins s σ H _ I h) fun us s1 ⟨vs, H1, I1, r1, q1⟩ => ?_) hs hpl))
  obtain ⟨k1, k2, a, b, xs, ys, rfl, hqx, hqy, q⟩ := q1
  obtain ⟨u1, u2, rfl, hr1, hr2⟩ := vals2 r1
  cases hr1
  cases hr2
  obtain ⟨its, rv, p1, _, la⟩ := sq_at I1 hqx
  obtain ⟨its2, rv2, p2, _, lb⟩ := sq_at I1 hqy
  refine zip_begins2 (begins_sq k1 a its.toArray) (begins_sq k2 b its2.toArray) p1 p2 fun h' hz hTI hTO h1 h2 hsz hk => wpAny_pyIter_zip hz ?_
  have D : ZApart (s1.heap.objs.size + 4) (s1.heap.objs.size + 2) (s1.heap.objs.size + 3) s1.heap.objs.size (s1.heap.objs.size + 1) a b := by
    constructor
    · exact Nat.ne_of_lt (Nat.lt_of_lt_of_le la (Nat.le_add_right _ 3))
    · exact Nat.ne_of_lt (Nat.lt_of_lt_of_le lb (Nat.le_add_right _ 3))
    all_goals (refine PySem.W.neN ?_; omega)
  refine ⟨s1.heap.objs.size + 4, [s1.heap.objs.size + 4, s1.heap.objs.size + 2, s1.heap.objs.size + 3, s1.heap.objs.size, s1.heap.objs.size + 1], _, _, H1, rfl, I1.kept (t' := s1.toks) hk, turn_zipK D, ⟨hz, hTI, ⟨_, _, hTO⟩, iter0 k1 h1, iter0 k2 h2⟩, fun c hcm => ?_, q⟩
  have hle : s1.heap.objs.size ≤ c := by
    rcases five hcm with z | z | z | z | z <;> rw [z] <;> first | exact Nat.le_refl _ | exact Nat.le_add_right _ _
  exact I1.fpOk hle (I1.hok.fresh hle)
end VI
set_option Elab.async false
set_option linter.all false
set_option maxRecDepth 100000
set_option maxHeartbeats 4000000
namespace VI
open PySem PySem.Spec PyProof.Rows L2
variable {K : PySem.W.Frag} {C : Cf} {F H : Hp} {e e' : Env} {σ : L2.St}
def heldR (K : PySem.W.Frag) (C : Cf) (F H : Hp) (e1 : Env) (σ : L2.St) (s : Src) (v : V) : Prop := ∃ k a xs C', v = V.ref a ∧ Rp K C' F H e1 σ ∧ Back K C C' s.lend ∧ DpAll K F xs s.items ∧ ∀ F2 H2 e2 σ2, Rp K C' F2 H2 e2 σ2 → Ext F F2 → SqK K H2 k a xs
theorem src_held {r : Rv} {v : V} {s : Src} {e1 : Env} (R : Rp K C F H e σ) (hs : r.still = true) (q : RvR K C F H e σ r v) (h : srcR r e = .ok s e1) : heldR K C F H e1 σ s v := by
  have lst : ∀ {ds : List D}, Dp K F v (.list ds) → heldR K C F H e σ ⟨ds, []⟩ v := fun {ds} z => by
    cases z with
    | lst h1 h2 => exact ⟨.l, _, _, C, rfl, R, back_nil, h2, fun F2 H2 e2 σ2 R2 E2 => .inl (ext_rd (E2.trans R2.ext) h1)⟩
  have tup : ∀ {ds : List D}, Dp K F v (.tuple ds) → heldR K C F H e σ ⟨ds, []⟩ v := fun {ds} z => by
    cases z with
    | tup h1 h2 => exact ⟨.t, _, _, C, rfl, R, back_nil, h2, fun F2 H2 e2 σ2 R2 E2 => ext_t (E2.trans R2.ext) h1⟩
  cases r with
  | fresh ds => cases hs
  | fz d =>
    cases d with
    | list ds => cases h; exact lst q
    | tuple ds => cases h; exact tup q
    | _ => cases h
  | bor i =>
    have h' : σ[i]? = some (some v) := q
    unfold srcR at h
    simp only at h
    split at h
    · rename_i ds hd
      obtain ⟨u, hu, z⟩ := R.sl _ _ hd
      rw [h'] at hu; cases hu; cases h
      exact lst z
    · rename_i ds hd
      obtain ⟨u, hu, z⟩ := R.sl _ _ hd
      rw [h'] at hu; cases hu; cases h
      exact tup z
    · rename_i ds hd
      obtain ⟨u, hu, vs, rfl, h1, h2, h3⟩ := R.sl _ _ hd
      rw [h'] at hu; cases hu; cases h
      refine ⟨.l, _, _, C, rfl, R, back_nil, h2, fun F2 H2 e2 σ2 R2 E2 => SqL.of ?_⟩
      rw [(R2.frm _ (R.ml _ h3)).1, ← (R.frm _ (R.ml _ h3)).1]; exact h1
    · rename_i ds hd
      obtain ⟨u, hu, p, vs, rfl, h1, h2, h3, h4⟩ := R.sl _ _ hd
      rw [h'] at hu; cases hu; cases h
      obtain ⟨R1, B⟩ := R.lend hd h' h1 h2 h3 h4
      refine ⟨.l, _, _, _, rfl, R1, B, h2, fun F2 H2 e2 σ2 R2 E2 => SqL.of ?_⟩
      rw [(R2.frm p (.inr rfl)).1]; exact h1
    · cases h
theorem unlend_cons (i : Nat) (l : List Nat) (e : Env) : unlend (i :: l) e = unlend l (unlend [i] e) := by
  cases h : e[i]? with
  | none => simp only [unlend, h]
  | some o =>
    cases o with
    | none => simp only [unlend, h]
    | some x => cases x <;> simp only [unlend, h]
theorem unlend_app (l m : List Nat) (e : Env) : unlend (l ++ m) e = unlend m (unlend l e) := by
  induction l generalizing e with
  | nil => rfl
  | cons i l ih => rw [List.cons_append, unlend_cons, ih, unlend_cons i l]
theorem Back.trans {C1 C2 : Cf} {l m : List Nat} (a : Back K C C1 l) (b : Back K C1 C2 m) : Back K C C2 (m ++ l) :=
  ⟨fun F2 H2 e2 σ2 R => by rw [unlend_app]; exact a.rp _ _ _ _ (b.rp _ _ _ _ R), fun F2 H2 e2 σ2 ds v R q => by rw [unlend_app]; exact a.rv _ _ _ _ ds v (b.rp _ _ _ _ R) (b.rv _ _ _ _ ds v R q)⟩
def enumD (ds : List D) : List D := ds.zipIdx.map fun p => .tuple [.int (p.2 : Nat), p.1]
def enumE (a : Ev) : Sem1 Src := fun e => (opd a e).bind fun r e1 => (srcR r e1).bind fun s e2 => .ok ⟨enumD s.items, s.lend⟩ e2
theorem enumD_len (ds : List D) : (enumD ds).length = ds.length := by unfold enumD; rw [List.length_map, List.length_zipIdx]
theorem enumD_get {ds : List D} {i : Nat} {d : D} (h : ds[i]? = some d) : (enumD ds)[i]? = some (.tuple [.int (i : Nat), d]) := by
  unfold enumD
  rw [List.getElem?_map, List.getElem?_zipIdx, h]
  simp
theorem itOk_enum {k : Sk} {a : Addr} {xs : List V} {ds : List D} (hd : DpAll K F xs ds) (hs : ∀ F2 H2 e2 σ2, Rp K C F2 H2 e2 σ2 → Ext F F2 → SqK K H2 k a xs) : ItOk K C F (IteK K k a) (enumD ds) := by
  refine ⟨fun H => SqK K H k a xs, _, by rw [enumD_len, ← hd.length]; exact walk_enumK, hs, fun i x H1 H2 F1 E E1 _ y hi => ?_⟩
  obtain ⟨T, x1, x2, rfl, hT, rfl, h1, h2⟩ := y
  cases h1
  obtain ⟨d, h3, h4⟩ := hd.get' h2
  exact ⟨_, enumD_get h3, .tup hT (.cons (.int _) (.cons (Dp.ext E h4) .nil))⟩
theorem srcR_ok {r : Rv} {s : Src} {w : Wd} {Rr : It → Hp → Prop} {f : Src → Env → Rs Src} (P : PostI w C F σ Rr ((srcR r e).bind f)) : ∃ s e1, srcR r e = .ok s e1 ∧ PostI w C F σ Rr (f s e1) := by
  cases h : srcR r e with
  | no => rw [h] at P; exact P.elim
  | ok s e1 => rw [h] at P; exact ⟨s, e1, rfl, P⟩
  | ex x e1 =>
    exfalso
    unfold srcR at h
    split at h <;> first | (cases h; done) | (split at h <;> cases h)
theorem rd_enum {w : Wd} {a : Ev} {Rr : It → Hp → Prop} (h : rdI w (enumE a) σ H Rr) : iEnumK w.K (tCons (rdR w a) tNil) σ H Rr := by
  obtain ⟨C, F, e, R, P⟩ := h
  refine rd_opd (bindI R P fun F1 H1 e1 r v h1 R1 E1 q1 P1 => ?_)
  obtain ⟨s, e2, h2, P2⟩ := srcR_ok (s := ⟨[], []⟩) P1
  obtain ⟨k, a, xs, C', rfl, R2, B, hd, hs⟩ := src_held R1 (opd_still h1) q1 h2
  exact ⟨k, a, xs, rfl, hs _ _ _ _ R2 (.refl F1), P2 C' _ F1 H1 R2 (.refl F1) B (itOk_enum hd hs)⟩
def zipD (xs ys : List D) : List D := (xs.zip ys).map fun p => .tuple [p.1, p.2]
def zipE (a b : Ev) : Sem1 Src := fun e => (opd a e).bind fun r e1 => (opd b e1).bind fun s e2 => (srcR r e2).bind fun x e3 => (srcR s e3).bind fun y e4 => .ok ⟨zipD x.items y.items, y.lend ++ x.lend⟩ e4
theorem zipD_len (xs ys : List D) : (zipD xs ys).length = min xs.length ys.length := by unfold zipD; rw [List.length_map, List.length_zip]
theorem zipD_get {xs ys : List D} {i : Nat} {x y : D} (h : xs[i]? = some x) (h' : ys[i]? = some y) : (zipD xs ys)[i]? = some (.tuple [x, y]) := by
  unfold zipD
  rw [List.getElem?_map, List.getElem?_zip_eq_some (z := (x, y)) |>.mpr ⟨h, h'⟩]; rfl
theorem itOk_zip {k1 k2 : Sk} {a b : Addr} {xs ys : List V} {ds es : List D} (hd : DpAll K F xs ds) (he : DpAll K F ys es) (hs : ∀ F2 H2 e2 σ2, Rp K C F2 H2 e2 σ2 → Ext F F2 → SqK K H2 k1 a xs ∧ SqK K H2 k2 b ys) : ItOk K C F (ItzK K k1 k2 a b) (zipD ds es) := by
  refine ⟨fun H => SqK K H k1 a xs ∧ SqK K H k2 b ys, _, by rw [zipD_len, ← hd.length, ← he.length]; exact walk_zipK, hs, fun i x H1 H2 F1 E E1 _ y hi => ?_⟩
  obtain ⟨T, x1, x2, rfl, hT, rfl, h1, h2⟩ := y
  obtain ⟨d, h3, h4⟩ := hd.get' h1
  obtain ⟨d2, h5, h6⟩ := he.get' h2
  exact ⟨_, zipD_get h3 h5, .tup hT (.cons (Dp.ext E h4) (.cons (Dp.ext E h6) .nil))⟩
theorem rd_zip {w : Wd} {a b : Ev} {Rr : It → Hp → Prop} (h : rdI w (zipE a b) σ H Rr) : iZipK w.K (tCons (rdR w a) (tCons (rdR w b) tNil)) σ H Rr := by
  obtain ⟨C, F, e, R, P⟩ := h
  refine rd_opd (bindI R P fun F1 H1 e1 r v h1 R1 E1 q1 P1 => ?_)
  refine rd_opd (bindI R1 P1 fun F2 H2 e2 s u h2 R2 E2 q2 P2 => ?_)
  obtain ⟨x, e3, h3, P3⟩ := srcR_ok (s := ⟨[], []⟩) P2
  obtain ⟨y, e4, h4, P4⟩ := srcR_ok (s := ⟨[], []⟩) P3
  obtain ⟨k1, a1, xs, C1, rfl, R3, B1, hd, hs⟩ := src_held R2 (opd_still h1) (RvR.later (opd_still h1) E2 q1) h3
  have q3 : RvR w.K C1 F2 H2 e3 σ s u := by
    cases s with
    | fz d => exact q2
    | fresh ds => cases opd_still h2
    | bor j => exact q2
  obtain ⟨k2, b1, ys, C2, rfl, R4, B2, he, hs2⟩ := src_held R3 (opd_still h2) q3 h4
  have both : ∀ F2' H2' e2' σ2', Rp w.K C2 F2' H2' e2' σ2' → Ext F2 F2' → SqK w.K H2' k1 a1 xs ∧ SqK w.K H2' k2 b1 ys := fun F' H' e' σ' R' E' => ⟨hs _ _ _ _ (B2.rp _ _ _ _ R') E', hs2 _ _ _ _ R' E'⟩
  have h0 := both _ _ _ _ R4 (.refl F2)
  exact ⟨k1, k2, a1, b1, xs, ys, rfl, h0.1, h0.2, P4 C2 _ F2 H2 R4 (.refl F2) (B1.trans B2) (itOk_zip hd he both)⟩
section
variable {X : Cx} {w : Wd} {a b c : Expr} {ea eb ec : Ev} {p pos tpos : Pos} {elts : List Expr} {kk : Nat} {tg : Expr}
theorem vi_enum (hw : w.K = X.K) (hg : Gl X "enumerate") (hm : X.mg "enumerate" = none) (ha : PE X a (rdR w ea)) (h1 : starEach [a] X.env = (false, eval a X.env) :: starEach [] X.env := by rfl) (hs : starEach [a] X.env = [(false, eval a X.env)] := by rfl) :
    PI X (.Tuple elts kk tpos) (.Call (.Name "enumerate" p) [a] [] pos) (rdI w (enumE ea)) := pi_mono (pi_enumK hg hm (pa_cons ha pa_nil h1) hs) fun _ _ _ q => hw ▸ rd_enum q
theorem vi_zip (hw : w.K = X.K) (hg : Gl X "zip") (hm : X.mg "zip" = none) (ha : PE X a (rdR w ea)) (hb : PE X b (rdR w eb)) (h1 : starEach [a, b] X.env = (false, eval a X.env) :: starEach [b] X.env := by rfl) (h2 : starEach [b] X.env = (false, eval b X.env) :: starEach [] X.env := by rfl)
    (hpl : (backTo pos (starEach [b] X.env)).any (·.1) = false := by rfl) : PI X (.Tuple elts kk tpos) (.Call (.Name "zip" p) [a, b] [] pos) (rdI w (zipE ea eb)) := pi_mono (pi_zipK hg hm (pa_cons ha (pa_cons hb pa_nil h2) h1) h1 hpl) fun _ _ _ q => hw ▸ rd_zip q
end
end VI
set_option Elab.async false
set_option linter.all false
set_option maxRecDepth 100000
set_option maxHeartbeats 4000000
namespace VI
open PySem PySem.Spec PyProof.Rows L2
variable {K : PySem.W.Frag} {C : Cf} {F H : Hp} {e e' : Env} {σ : L2.St}
def fmApp : FM := fun xs ds => match ds with
  | [d] => if xs.length < sizeLine then some (.none, xs ++ [d]) else none
  | _ => none
theorem m_app : MutS K fmApp rAppend := by
  intro F H p xs vs dx ds z dx' E hp pF hd hv hz Q k
  unfold fmApp at hz
  split at hz
  · split at hz
    · rename_i d hl
      cases hz
      cases hv with
      | cons h1 h2 =>
        cases h2
        exact ⟨p, xs, _, rfl, rfl, hp, by rw [hd.length]; exact hl, k _ _ .non (hd.append (.cons h1 .nil))⟩
    · cases hz
  · cases hz
def fmPop : FM := fun xs ds => match ds with
  | [] => (xs.getLast?).map fun d => (d, xs.dropLast)
  | _ => none
theorem m_pop : MutS K fmPop rPop := by
  intro F H p xs vs dx ds z dx' E hp pF hd hv hz Q k
  unfold fmPop at hz
  split at hz
  · cases hv
    obtain ⟨d, h1, h2⟩ := Option.map_eq_some_iff.mp hz
    cases h2
    rw [List.getLast?_eq_getElem?] at h1
    obtain ⟨v, h3, h4⟩ := hd.get h1
    rw [← hd.length] at h3
    refine ⟨p, xs, v, rfl, rfl, hp, h3, k _ _ h4 ?_⟩
    rw [List.dropLast_eq_take, List.dropLast_eq_take, hd.length]
    exact hd.take _
  · cases hz
def fmPopAt : FM := fun xs ds => match ds with
  | [.int i] => if -(2 ^ 63) ≤ i ∧ i < 2 ^ 63 then match seqIndex? i xs.length with
    | some k => (xs[k]?).map fun d => (d, xs.eraseIdx k)
    | none => none else none
  | _ => none
theorem m_popAt : MutS K fmPopAt rPopAt := by
  intro F H p xs vs dx ds z dx' E hp pF hd hv hz Q k
  unfold fmPopAt at hz
  split at hz
  · split at hz
    · rename_i i hi
      split at hz
      · rename_i j hj
        obtain ⟨d, h1, h2⟩ := Option.map_eq_some_iff.mp hz
        cases h2
        cases hv with
        | cons h5 h6 =>
          cases h6; cases h5
          obtain ⟨v, h3, h4⟩ := hd.get h1
          exact ⟨p, xs, i, j, v, rfl, rfl, hp, hi.1, hi.2, by rw [hd.length]; exact hj, h3, k _ _ h4 (hd.eraseIdx j)⟩
      · cases hz
    · cases hz
  · cases hz
def fmRev : FM := fun xs ds => match ds with
  | [] => some (.none, xs.reverse)
  | _ => none
theorem m_rev : MutS K fmRev rReverse := by
  intro F H p xs vs dx ds z dx' E hp pF hd hv hz Q k
  unfold fmRev at hz
  split at hz
  · cases hz; cases hv
    exact ⟨p, xs, rfl, rfl, hp, k _ _ .non hd.reverse⟩
  · cases hz
def rExtU (K : PySem.W.Frag) : V → List V → Hp → VK → Prop := fun x vs H Q => ∃ l b xs zs, x = .ref l ∧ vs = [.ref b] ∧ H l = some (.lst xs) ∧ L2.Rd H b (.lst zs) ∧ xs.length + zs.length ≤ sizeLine ∧ Q .non (upd H l (.lst (xs ++ zs)))
theorem mt_extU {X : Cx} : MtM X "list.extend" (rExtU X.K) := by
  intro pins s σ H x vs v us Q I rx rv h
  obtain ⟨l, b, xs, zs, rfl, rfl, hH, hB, hz, q⟩ := h
  cases rx
  rw [Vals.ref1 rv]
  obtain ⟨z, its, n, r, hl, e⟩ := I.lstM hH
  obtain ⟨its2, n2, r2, e2, _⟩ := rdl I hB
  have hl2 := r2.length
  have hsz : its.toArray.size + its2.toArray.size ≤ sizeLine := by rw [List.size_toArray, List.size_toArray]; omega
  have hlong : ¬ (!its.toArray.isEmpty && Builtin.List.listTooLong (its.toArray.size + its2.toArray.size)) = true := fun z => by
    rw [notLongL hsz, Bool.and_false] at z; cases z
  refine call_meets F.slot_list_extend ⟨_, e, rfl⟩ F.entry_list_extend (F.args_list_extend_2 _ _)
    (AutoSeq1.list_extend_list_list_0 l its.toArray n b its2.toArray n2 hlong (by rw [List.size_toArray]; omega) (by omega)) ⟨e, e2, ?_⟩
  refine ⟨.non, _, I.lset (its' := its ++ its2) hH e (by simp) (r.append r2) ?_, rfl, q⟩
  rw [List.length_append]; exact hz
def fmExt : FM := fun xs ds => match ds with
  | [.list es] => if xs.length + es.length ≤ sizeLine then some (.none, xs ++ es) else none
  | _ => none
theorem m_ext : MutS K fmExt (rExtU K) := by
  intro F H p xs vs dx ds z dx' E hp pF hd hv hz Q k
  unfold fmExt at hz
  split at hz
  · split at hz
    · rename_i es hl
      cases hz
      cases hv with
      | cons h5 h6 =>
        cases h6
        cases h5 with
        | lst h7 h8 => exact ⟨p, _, xs, _, rfl, rfl, hp, ext_rd E h7, by rw [hd.length, h8.length]; exact hl, k _ _ .non (hd.append h8)⟩
    · cases hz
  · cases hz
structure DF (K : PySem.W.Frag) (mg : Str → Option Value) (x qual : Str) (st : Stmt) (ps : List Str) : Prop where
  ex : ∃ (f : Addr) (fd : FuncData), mg x = some (.ref f) ∧ PySem.W.keepIn K (.ref f) = true ∧ Binds K fd ps [] ∧ Fun K x qual st f fd
theorem DF.to {P : Program} {W : World} {mg : Str → Option Value} {base : Heap} {x qual : Str} {st : Stmt} {ps : List Str} {k n : Nat} {sp : Sp} (d : DF K mg x qual st ps) (hn : ps.length = n) (h : ∀ f fd, Fun K x qual st f fd → FnG P W K mg base k f fd ps sp) : Defn P W K mg base k x n sp := by
  obtain ⟨f, fd, h1, h2, h3, h4⟩ := d.ex
  exact ⟨f, fd, ps, h1, h2, h3, hn, h f fd h4⟩
theorem df_mk {mg : Str → Option Value} {h : Heap} {x qual : Str} {st : Stmt} {ps : List Str} {f : Addr} {oc : Value} {od an : Option Addr} {osl : Array (Option Value)} {kV doc pm cdv ct : Value} (X : K.In h) (G : h.Ns mainGlobals mg)
    (a : PySem.W.nsIn K mainGlobals x = some (some (.ref f))) (l : K.lookup f = some ⟨oc, od, .func (PySem.W.fnOf x qual (defArgs st) (defBody st) (defScope st) .none kV doc pm an cdv ct), osl⟩) (c : PySem.W.codeIn K cdv qual = true) (k : PySem.W.keepIn K (.ref f) = true)
    (hb : ∀ (kV doc pm : Value) (an : Option Addr) (cdv ct : Value) (us : List Value), us.length = ps.length → bindArgs (PySem.W.fnOf x qual (defArgs st) (defBody st) (defScope st) .none kV doc pm an cdv ct) ⟨us, []⟩ = pure (ps.zip us)) : DF K mg x qual st ps :=
  ⟨f, _, PySem.W.mg_of X G a, k, (fun_mk l c k).binds hb, fun_mk l c k⟩
theorem Defn.up {P : Program} {W : World} {mg : Str → Option Value} {base : Heap} {x : Str} {j k n : Nat} {sp : Sp} (d : Defn P W K mg base j x n sp) (h : j ≤ k) : Defn P W K mg base k x n sp := by
  obtain ⟨f, fd, ps, h1, h2, h3, h4, h5⟩ := d.ex
  exact ⟨f, fd, ps, h1, h2, h3, h4, h5.mono h⟩
/-- a promise that nobody asks for -/
theorem DF.no {P : Program} {W : World} {mg : Str → Option Value} {base : Heap} {x qual : Str} {st : Stmt} {ps : List Str} {k n : Nat} {XR : Hp → Hp → Xc → Value → Option Addr → Prop} (d : DF K mg x qual st ps) (hn : ps.length = n) : Defn P W K mg base k x n (spF K XR n fun _ => none) :=
  d.to hn fun f fd _ => ⟨fun vs H Q E h => by rw [hn]; exact h.1, fun A out s H given us vs Q E _ _ _ _ _ h => by obtain ⟨_, F, ds, _, _, _, z⟩ := h; exact z.elim⟩
theorem DF.noI {P : Program} {W : World} {mg : Str → Option Value} {base : Heap} {x qual : Str} {st : Stmt} {ps : List Str} {k n : Nat} {XR : Hp → Hp → Xc → Value → Option Addr → Prop} (d : DF K mg x qual st ps) (hn : ps.length = n) : Defn P W K mg base k x n (spI K XR n fun _ _ => none) :=
  d.to hn fun f fd _ => ⟨fun vs H Q E h => by rw [hn]; exact h.1, fun A out s H given us vs Q E _ _ _ _ _ h => by obtain ⟨_, p, ws, bs, F, b, ds, _, _, _, _, _, _, _, z⟩ := h; exact z.elim⟩
/-- within a block nothing is let out -/
theorem passF {X : Cx} (σ : L2.St) : PassesAt (L2.CX X.prog X.w) X σ (WE (fun _ _ _ _ => False) σ) := fun _ _ _ _ _ _ h => by
  obtain ⟨_, _, _, _, _, _, _, _, _, _, _, _, z⟩ := h
  exact z.elim
theorem u65 {k : Nat} {A : Around} (hr : Room k A) : A.units + 65 < cLine := Nat.lt_of_le_of_lt (Nat.add_le_add_left (by omega : 65 ≤ 16 * k + 200) _) (by have := hr.un; omega)
end VI
set_option Elab.async false
set_option linter.all false
set_option maxRecDepth 100000
set_option maxHeartbeats 4000000
namespace VI
open PySem PySem.Spec PyProof.Rows L2
variable {K : PySem.W.Frag} {C : Cf} {F H : Hp} {e e' : Env} {σ : L2.St}
section
variable {X : Cx}
theorem ipU_add : PIp X .Add (fun x y H Q => (rI0 fun i j => .int (i + j)) x y H Q) := fun pins s σ H x y v u Q I rx ry h => by
  obtain ⟨i, j, rfl, rfl, q⟩ := h
  exact ip_add pins s σ H _ _ v u Q I rx ry ⟨i, j, rfl, rfl, q⟩
theorem ipU_sub : PIp X .Sub (fun x y H Q => (rI0 fun i j => .int (i - j)) x y H Q) := fun pins s σ H x y v u Q I rx ry h => by
  obtain ⟨i, j, rfl, rfl, q⟩ := h
  exact ip_sub pins s σ H _ _ v u Q I rx ry ⟨i, j, rfl, rfl, q⟩
theorem made_ep {pins : List (Addr × Obj)} {s : Shared} {H : Hp} {i : Int} {Q : VK} (I : Inv X pins σ H s) (q : Q (.int i) H) : (Made.int i).post (EP X pins σ Q) s := by
  show EP X pins σ Q (.int i s.toks) { s with toks := s.toks + 1 }
  exact ⟨.int i, H, I.tok _, ⟨_, rfl⟩, q⟩
theorem ipU_mul : PIp X .Mult (fun x y H Q => (rI CMulX fun i j => .int (i * j)) x y H Q) := fun pins s σ H x y v u Q I rx ry h => by
  obtain ⟨i, j, rfl, rfl, hc, q⟩ := h
  obtain ⟨t, rfl⟩ := rx
  obtain ⟨t', rfl⟩ := ry
  exact PySem.AutoIntOps.imul_0 (made_ep I q) hc.ok
theorem ipU_div : PIp X .FloorDiv (fun x y H Q => (rI CDivW fun i j => .int (i / j)) x y H Q) := fun pins s σ H x y v u Q I rx ry h => by
  obtain ⟨i, j, rfl, rfl, hc, q⟩ := h
  obtain ⟨t, rfl⟩ := rx
  obtain ⟨t', rfl⟩ := ry
  have h1 : (0 : Int) < j := hc.1
  refine PySem.AutoIntOps.ifloordiv_1 (by intro z; have := eq_of_beq z; omega) ?_ (made_ep I (by rw [Int.fdiv_eq_ediv_of_nonneg i (by omega)]; exact q))
  rw [PyProof.noPylong_of_log2 hc.2]
  exact Bool.false_ne_true
end
def addI : F2 := ii fun i j => some (.int (i + j))
theorem s_addI : OpS K addI (rI0 fun i j => .int (i + j)) := opS_0 fun i j d h => by cases h; rfl
def mulI : F2 := ii fun i j => if mulOk i j then some (.int (i * j)) else none
theorem s_mulI : OpS K mulI (rI CMulX fun i j => .int (i * j)) := opS_C fun i j d h => by
  split at h
  · rename_i hm; cases h; exact ⟨mulOk_ok hm, rfl⟩
  · cases h
def pick {α : Type} (is : List Nat) (l : List α) : List α := is.filterMap fun i => l[i]?
theorem vals_pick {vs : List V} {us : List Value} (h : Vals vs us) : ∀ is : List Nat, Vals (pick is vs) (pick is us)
  | [] => .nil
  | i :: is => by
    unfold pick
    rw [List.filterMap_cons, List.filterMap_cons]
    cases hv : vs[i]? with
    | none =>
      have : us[i]? = none := by rw [List.getElem?_eq_none_iff] at hv ⊢; rw [← h.length]; exact hv
      rw [this]; exact vals_pick h is
    | some v =>
      obtain ⟨u, hu, r⟩ := h.get hv
      rw [hu]; exact .cons r (vals_pick h is)
def KB (K : PySem.W.Frag) (fd : FuncData) (ps ks : List Str) (is : List Nat) : Prop := ∀ (s : Shared) (ws : List Value), K.In s.heap → ws.length = ks.length → BindsTo s fd ⟨[], ks.zip ws⟩ (ps.zip (pick is ws))
structure DefnK (P : Program) (W : World) (K : PySem.W.Frag) (mg : Str → Option Value) (base : Heap) (k : Nat) (x : Str) (ks : List Str) (is : List Nat) (sp : Sp) : Prop where
  ex : ∃ (f : Addr) (fd : FuncData) (ps : List Str), mg x = some (.ref f) ∧ PySem.W.keepIn K (.ref f) = true ∧ KB K fd ps ks is ∧ FnG P W K mg base k f fd ps sp
structure DFK (K : PySem.W.Frag) (mg : Str → Option Value) (x qual : Str) (st : Stmt) (ps ks : List Str) (is : List Nat) : Prop where
  ex : ∃ (f : Addr) (fd : FuncData), mg x = some (.ref f) ∧ PySem.W.keepIn K (.ref f) = true ∧ KB K fd ps ks is ∧ Fun K x qual st f fd
theorem DFK.to {P : Program} {W : World} {mg : Str → Option Value} {base : Heap} {x qual : Str} {st : Stmt} {ps ks : List Str} {is : List Nat} {k : Nat} {sp : Sp} (d : DFK K mg x qual st ps ks is) (h : ∀ f fd, Fun K x qual st f fd → FnG P W K mg base k f fd ps sp) : DefnK P W K mg base k x ks is sp := by
  obtain ⟨f, fd, h1, h2, h3, h4⟩ := d.ex
  exact ⟨f, fd, ps, h1, h2, h3, h f fd h4⟩
theorem dfk_mk {mg : Str → Option Value} {h : Heap} {x qual : Str} {st : Stmt} {ps ks : List Str} {is : List Nat} {f : Addr} {oc : Value} {od an : Option Addr} {osl : Array (Option Value)} {kV doc pm cdv ct : Value} (X : K.In h) (G : h.Ns mainGlobals mg)
    (a : PySem.W.nsIn K mainGlobals x = some (some (.ref f))) (l : K.lookup f = some ⟨oc, od, .func (PySem.W.fnOf x qual (defArgs st) (defBody st) (defScope st) .none kV doc pm an cdv ct), osl⟩) (c : PySem.W.codeIn K cdv qual = true) (k : PySem.W.keepIn K (.ref f) = true)
    (hb : ∀ (ws : List Value), ws.length = ks.length → bindArgs (PySem.W.fnOf x qual (defArgs st) (defBody st) (defScope st) .none kV doc pm an cdv ct) ⟨[], ks.zip ws⟩ = pure (ps.zip (pick is ws))) : DFK K mg x qual st ps ks is :=
  ⟨f, _, PySem.W.mg_of X G a, k, fun s ws _ hl => .of_eq (hb ws hl), fun_mk l c k⟩
def eFK (fn : List D → Option Ret) (is : List Nat) (n : Nat) (as : Sem1 (List D)) : Ev := fun e => (as e).bind fun ds e1 => if ds.length = n then match fn (pick is ds) with
  | none => .no
  | some (.ok r) => .ok r e1
  | some (.ex x) => .ex x e1 else .no
theorem DpAll.pick {vs : List V} {ds : List D} (h : DpAll K F vs ds) : ∀ is : List Nat, DpAll K F (VI.pick is vs) (VI.pick is ds)
  | [] => .nil
  | i :: is => by
    unfold VI.pick
    rw [List.filterMap_cons, List.filterMap_cons]
    cases hv : ds[i]? with
    | none =>
      have : vs[i]? = none := by rw [List.getElem?_eq_none_iff] at hv ⊢; rw [h.length]; exact hv
      rw [this]; exact DpAll.pick h is
    | some v =>
      obtain ⟨u, hu, r⟩ := h.get hv
      rw [hu]; exact .cons r (DpAll.pick h is)
def tCallKS (sp : Sp) (is : List Nat) (n : Nat) (E : L2.St → XK) (t : TA) : TE := fun σ H Q => t σ H fun vs H1 => vs.length = n ∧ sp (pick is vs) H1 Q (E σ)
theorem rd_callK {w : Wd} {m n : Nat} {fn : List D → Option Ret} {is : List Nat} {as : Sem1 (List D)} (hp : ∀ ds : List D, ds.length = n → (pick is ds).length = m) {Q : VK} (h : rdR w (eFK fn is n as) σ H Q) : tCallKS (spF w.K w.XR m fn) is n (WE w.W) (rdDs w as) σ H Q := by
  obtain ⟨C, F, e, R, P⟩ := h
  refine bindP R P fun F1 H1 e1 ds vs h1 R1 E1 q1 P1 => ?_
  split at P1
  · rename_i hn
    refine ⟨by rw [q1.length]; exact hn, by rw [(DpAll.pick q1 is).length]; exact hp ds hn, F1, _, R1.ext, R1.tup, DpAll.pick q1 is, ?_⟩
    split at P1
    · exact P1.elim
    · rename_i r hf
      simp only [hf]
      exact fun v F' H' A q => P1 v F' H' (R1.after A) A.ext (q.rv R1 A)
    · rename_i x hf
      simp only [hf]
      exact fun F' H' cv od A q => P1 F' H' cv od (R1.after A) A.ext q
  · exact P1.elim
section
variable {X : Cx} {W : WX} {XR : Hp → Hp → Xc → Value → Option Addr → Prop} {k m n : Nat} {x : Str} {p pos kpos : Pos} {kws : List Keyword} {ks : List Str} {is : List Nat} {ex : Expr} {nm : Option Str} {a : Ev} {as : List Ev} {w : Wd}
theorem pk_mono {t t' : TA} (h : PK X kws t) (w : ∀ σ H Q, t' σ H Q → t σ H Q) : PK X kws t' := ⟨fun pos pins s σ H Q I q => h.run pos pins s σ H Q I (w σ H Q q)⟩
theorem vk_nil : PK X [] (rdDs w (toDs [])) := pk_mono pk_nil fun _ _ _ h => rd_toDs_nil h
theorem vk_cons (ha : PE X ex (rdR w a)) (hr : PK X kws (rdDs w (toDs as))) : PK X (⟨nm, ex, kpos⟩ :: kws) (rdDs w (toDs (a :: as))) := pk_mono (pk_cons ha hr) fun _ _ _ h => rd_toDs_cons h
theorem ve_callK {fn : List D → Option Ret} (d : DefnK X.prog X.w X.K X.mg X.base k x ks is (spF X.K XR m fn)) (hr : Room k X.A) (hu : X.A.guards = some []) (hg : Gl X x) (hx : ∀ σ, PassesAt (L2.CX X.prog X.w) X σ (WE W σ)) (hn : ks.length = n) (hp : ∀ ds : List D, ds.length = n → (pick is ds).length = m)
    (ha : PK X kws (rdDs (wd X W XR) (toDs as))) (hall : (backToKw pos (keywordEach kws X.env)).all (·.1.isSome) = true := by rfl) (hks : (backToKw pos (keywordEach kws X.env)).filterMap (·.1) = ks := by rfl) (hdb : (x == ("__debug__" : Str)) = false := by decide)
    (hpl : ((backTo pos (starEach [] X.env)).any (·.1) || (backToKw pos (keywordEach kws X.env)).any (·.1.isNone)) = false := by rfl) : PE X (.Call (.Name x p) [] kws pos) (rdR (wd X W XR) (eFK fn is n (toDs as))) := by
  obtain ⟨f, fd, ps, hm, hk, hb, G⟩ := d.ex
  have base : PE X (.Call (.Name x p) [] kws pos) (tCallKS (spF X.K XR m fn) is n (WE W) (rdDs (wd X W XR) (toDs as))) := ⟨fun pins s σ H Q I h => by
    refine wpAny_Call_Name_kw (ld_glob I hg hm ?_ hdb)
    refine PySem.W.callWith_KW0 (h₀ := X.base) I.ok.mod.kin hk hall (thn (ha.run pos pins s σ H _ I h) fun ws s2 ⟨zs, H2, I2, rz, hl, q2⟩ => ⟨I2.kIn, ?_⟩) hpl
    rw [hks]
    have r2 := vals_pick rz is
    refine wpAny_call (codeAny_mono (G.run X.A X.stack s2 H2 ⟨[], ks.zip ws⟩ (pick is ws) (pick is zs) Q (WE W σ) hr hu I2.env0 (hb s2 ws I2.kIn (by rw [← rz.length, hl, hn])) r2 q2) fun r s3 hc => ?_)
    match r, hc with
    | .ok (.ret u), hc => exact cr_ends I2 (hx σ) hc
    | .ok .next, hc => exact False.elim hc
    | .ok .brk, hc => exact False.elim hc
    | .ok .cont, hc => exact False.elim hc
    | .error z, hc => exact cr_ends I2 (hx σ) hc⟩
  exact pe_mono base fun _ _ _ h => rd_callK hp h
end
theorem rev_adjust (n : Nat) : Builtin.Slice.sliceAdjust none none (-1) (n : Int) = ((n : Int) - 1, -1) := by
  unfold Builtin.Slice.sliceAdjust
  first | rfl | simp
theorem rev_places (n : Nat) : Builtin.Slice.slicePlaces ((n : Int) - 1) (-1) (-1) = n := by
  unfold Builtin.Slice.slicePlaces
  have h1 : ¬ ((-1 : Int) > 0) := by omega
  have h2 : (- -1 : Int) = 1 := by decide
  simp only [h1, if_false, h2, Int.ediv_one]
  split <;> omega
theorem fm_congr {α β : Type} {f g : α → Option β} : ∀ {l : List α}, (∀ x ∈ l, f x = g x) → l.filterMap f = l.filterMap g
  | [], _ => rfl
  | x :: l, h => by
    rw [List.filterMap_cons, List.filterMap_cons, h x List.mem_cons_self, fm_congr fun y hy => h y (List.mem_cons_of_mem _ hy)]
theorem rev_pick (xs : Array Value) : ((List.range xs.size).filterMap fun (m : Nat) => xs[(((xs.size : Int) - 1) + (m : Int) * -1).toNat]?).toArray = xs.toList.reverse.toArray := by
  have h1 : ((List.range xs.size).filterMap fun (m : Nat) => xs[(((xs.size : Int) - 1) + (m : Int) * -1).toNat]?) = ((List.range xs.size).map fun m => xs.size - 1 - m).filterMap (xs[·]?) := by
    rw [List.filterMap_map]
    refine fm_congr fun m hm => ?_
    have := List.mem_range.mp hm
    have e : (((xs.size : Int) - 1) + (m : Int) * -1).toNat = xs.size - 1 - m := by omega
    rw [e]; rfl
  rw [h1, PySem.W.krv_range, List.filterMap_reverse, PySem.W.krv_all]
section
variable {prog : Program} {w : World} {A : Around} {E : Value → Shared → Prop} {s : Shared}
theorem rev_applied {sl : Addr} {vs : Value} {n : Nat} {Q : Int × Int × Nat → Shared → Prop} (hs : s.heap.IsSliceOf sl .none .none vs) (ps : IsPart vs (some (-1))) (h : Q ((n : Int) - 1, -1, n) s) :
    wpAny (model prog w) A (Builtin.Slice.sliceApplied (.ref sl) (pure (n : Int))) Q E s := by
  obtain ⟨os, hos, hcs, hds⟩ := id hs
  cases ps with
  | int _ t =>
    unfold Builtin.Slice.sliceApplied Builtin.Slice.sliceFields
    refine wpAny_bind (wpAny_bind (wpAny_field hos hds (x := Value.none) rfl (wpAny_bind (wpAny_field hos hds (x := Value.none) rfl (wpAny_bind (wpAny_field hos hds (x := .int (-1) t) rfl (wpAny_pure ?_)))))))
    refine wpAny_bind (slicePart_int ?_)
    show wpAny _ _ (if ((-1 : Int) == 0) = true then _ else _) _ _ s
    rw [if_neg (by decide)]
    refine wpAny_bind (slicePart_none (wpAny_bind (slicePart_none (wpAny_bind (wpAny_pure ?_)))))
    show wpAny _ _ (match Builtin.Slice.sliceAdjust none none (-1) (n : Int) with | (lo, hi) => pure (lo, (-1 : Int), Builtin.Slice.slicePlaces lo hi (-1))) _ _ s
    rw [rev_adjust n]
    show wpAny _ _ (pure ((n : Int) - 1, (-1 : Int), Builtin.Slice.slicePlaces ((n : Int) - 1) (-1) (-1))) _ _ s
    rw [rev_places]
    exact wpAny_pure h
theorem rev_tuple {t sl : Addr} {xs : Array Value} {vs : Value} {Q : Value → Shared → Prop} (ht : IsTup s.heap t xs) (hs : s.heap.IsSliceOf sl .none .none vs) (ps : IsPart vs (some (-1)))
    (h : Q (.ref s.heap.objs.size) { s with heap := s.heap.push { cls := .type "tuple", data := .seq xs.toList.reverse.toArray } }) (hz : xs.size ≤ sizeLine) : wpAny (model prog w) A (getItem (.ref t) (.ref sl)) Q E s := by
  have fits : sizeOk (.seq xs.toList.reverse.toArray) := by
    show xs.toList.reverse.toArray.size ≤ sizeLine
    rw [List.size_toArray, List.length_reverse, Array.length_toList]; exact hz
  obtain ⟨os, hos, hcs, hds⟩ := id hs
  have hT : s.TypeIs (.ref sl) "slice" := ⟨os, hos, hcs⟩
  unfold getItem
  try with_reducible refine wpAny_holding ?_
  refine wpAny_bind (wpAny_sequenceKey ht.typeIs (by decide) ?_)
  refine wpAny_bind (wpAny_callSpecial?_slot (name := Str.ofString "__getitem__") ht.typeIs PyProof.Rows.slot_tuple_getitem (wpAny_call_entry PyProof.Rows.slot_tuple_getitem ht.typeIs entry_tuple_getitem ?_ (args_tuple_getitem _ _)))
  refine wpAny_bind (m := Builtin.Tuple.tupleItemsOf (.ref t)) (tupleItemsOf_ ht (wpAny_bind (wpAny_typeOf hT ?_)))
  rw [if_pos (by decide)]
  refine wpAny_bind (rev_applied hs ps ?_)
  have hno : ¬ ((((xs.size : Int) - 1) == 0 && (-1 : Int) == 1 && xs.size == xs.size) = true) := by simp
  show wpAny _ _ (if (((xs.size : Int) - 1) == 0 && (-1 : Int) == 1 && xs.size == xs.size) = true then _ else _) _ _ s
  rw [if_neg hno, rev_pick xs]
  exact wpAny_bind (m := Builtin.Tuple.tupleExact _) (wpAny_newObj_type (wpAny_pure ⟨_, rfl, wpAny_pure h⟩) fits)
end
def tRevU (K : PySem.W.Frag) (te : TE) : TE := fun σ H Q => te σ H fun x H1 => ∃ a xs, x = .ref a ∧ ((SqL K H1 a xs ∧ ∀ p, H1 p = none → Q (.ref p) (upd H1 p (.lst xs.reverse))) ∨ (SqT K H1 a xs ∧ ∀ p, H1 p = none → Q (.ref p) (upd H1 p (.tup xs.reverse))))
theorem pe_revU {X : Cx} {ex : Expr} {te : TE} {k : Nat} {p1 p2 p3 pos : Pos} (he : PE X ex te) : PE X (.Subscript ex (.Slice none none (some (.UnaryOp .USub (.Constant (.int 1) k p1) p2)) p3) pos) (tRevU X.K te) := by
  refine ⟨fun pins s σ H Q I h => ?_⟩
  refine Subscript_ (thn (he.run pins s σ H _ I h) fun v s1 ⟨x, H1, I1, r1, a, xs, hxe, q⟩ => ?_)
  subst hxe
  cases r1
  have hst : PO X (some (.UnaryOp .USub (.Constant (.int 1) k p1) p2)) (tPart (tUn (rU fun i => .int (-i)) (tC (.int 1)))) := po_some (pe_un un_neg pe_int)
  refine wpAny_Slice (thn (po_none.run pins s1 σ H1 (fun o G => o = none ∧ G = H1) I1 ⟨rfl, rfl⟩) fun vl s2 ⟨l, H2, I2, pl, el, e2⟩ => ?_)
  subst el e2
  refine thn (po_none.run pins s2 σ H2 (fun o G => o = none ∧ G = H2) I2 ⟨rfl, rfl⟩) fun vu s3 ⟨u, H3, I3, pu, eu, e3⟩ => ?_
  subst eu e3
  refine thn (hst.run pins s3 σ H3 (fun o G => o = some (-1) ∧ G = H3) I3 ⟨1, rfl, -1, rfl, rfl, rfl⟩) fun vs s4 ⟨o, H4, I4, ps, eo, e4⟩ => ?_
  subst eo e4
  cases pl
  cases pu
  have I5 : Inv X pins σ H4 { s4 with heap := s4.heap.push { cls := .type "slice", data := .fields #[.none, .none, vs] } } := I4.kept (t' := s4.toks) fun b ob q => Heap.get?_push_of_some _ q
  have new := Heap.IsSliceOf.new s4.heap .none .none vs
  show wpAny (model X.prog X.w) X.A (subscriptTail ex (.Slice none none (some (.UnaryOp .USub (.Constant (.int 1) k p1) p2)) p3) (.ref a) (.ref s4.heap.objs.size)) (EP X pins σ Q) X.xe { s4 with heap := s4.heap.push { cls := .type "slice", data := .fields #[.none, .none, vs] } }
  rcases q with ⟨hx, q⟩ | ⟨hx, q⟩
  · obtain ⟨its, r, ht, hz⟩ := I5.list hx
    have hlen := r.length
    refine tail_any (ops := [.ref a, .ref s4.heap.objs.size]) ht.isList.typeIs (PySem.slot_list_getitem.lookup) ?_ (by with_unfolding_all rfl)
    refine wpAny_getItem_list_slice ht.isList new .none .none ps (by decide) ?_ (by rw [List.size_toArray, ← hlen]; exact hz)
    rw [PySem.W.krv_pick]
    refine ⟨.ref _, _, I5.laid (t' := s4.toks) (o := .lst xs.reverse) (fun b ob q => Heap.get?_push_of_some _ q) (Nat.le_refl _) ?_, rfl, q _ (I5.hok.fresh (Nat.le_refl _))⟩
    exact ⟨by rw [List.length_reverse]; exact hz, _, 0, r.reverse, Heap.get?_push_size _ rfl⟩
  · obtain ⟨its, r, ht, hz⟩ := I5.tuple hx
    have hlen := r.length
    refine tail_any (ops := [.ref a, .ref s4.heap.objs.size]) ht.typeIs (PyProof.Rows.slot_tuple_getitem.lookup) ?_ (by with_unfolding_all rfl)
    refine rev_tuple ht new ps ?_ (by rw [List.size_toArray, ← hlen]; exact hz)
    refine ⟨.ref _, _, I5.laid (t' := s4.toks) (o := .tup xs.reverse) (fun b ob q => Heap.get?_push_of_some _ q) (Nat.le_refl _) ?_, rfl, q _ (I5.hok.fresh (Nat.le_refl _))⟩
    exact ⟨by rw [List.length_reverse]; exact hz, _, r.reverse, ⟨_, Heap.get?_push_size _ rfl, rfl, _, rfl⟩⟩
def revD : F1 := fun d => match d with
  | .list ds => some (.fresh ds.reverse)
  | .tuple ds => some (.fz (.tuple ds.reverse))
  | _ => none
theorem ve_rev {X : Cx} {w : Wd} {ex : Expr} {ea : Ev} {k : Nat} {p1 p2 p3 pos : Pos} (hw : w.K = X.K) (he : PE X ex (rdR w ea)) : PE X (.Subscript ex (.Slice none none (some (.UnaryOp .USub (.Constant (.int 1) k p1) p2)) p3) pos) (rdR w (un1 revD ea)) :=
  pe_mono (pe_revU he) fun σ H Q h => by
    obtain ⟨C, F, e, R, P⟩ := h
    rw [← hw]
    refine rd_opd (bindP R P fun F1 H1 e1 x v h1 R1 E1 q1 P1 => ?_)
    obtain ⟨z, hz, P2⟩ := post_ofO P1
    obtain ⟨d, hd, hf⟩ := Option.bind_eq_some_iff.mp hz
    have q2 := RvR.peek R1 (opd_still h1) q1 hd
    unfold revD at hf
    split at hf
    · cases hf
      cases q2 with
      | lst k1 k2 => exact ⟨_, _, rfl, .inl ⟨.inl k1, fun p hp => P2.res R1 (.lst hp k2.reverse)⟩⟩
    · cases hf
      cases q2 with
      | tup k1 k2 => exact ⟨_, _, rfl, .inr ⟨ext_t R1.ext k1, fun p hp => P2.res R1 (.tup hp k2.reverse)⟩⟩
    · cases hf
end VI
set_option Elab.async false
set_option linter.all false
namespace VI
open PySem PySem.Spec PyProof.Rows L2
theorem bb_len : bootBuiltins "len" = some (.builtin "len") := by decide +kernel
theorem bb_abs : bootBuiltins "abs" = some (.builtin "abs") := by decide +kernel
theorem bb_all : bootBuiltins "all" = some (.builtin "all") := by decide +kernel
theorem bb_any : bootBuiltins "any" = some (.builtin "any") := by decide +kernel
theorem bb_sum : bootBuiltins "sum" = some (.builtin "sum") := by decide +kernel
theorem bb_min : bootBuiltins "min" = some (.builtin "min") := by decide +kernel
theorem bb_max : bootBuiltins "max" = some (.builtin "max") := by decide +kernel
theorem bb_sorted : bootBuiltins "sorted" = some (.builtin "sorted") := by decide +kernel
theorem bb_repr : bootBuiltins "repr" = some (.builtin "repr") := by decide +kernel
theorem bb_isinstance : bootBuiltins "isinstance" = some (.builtin "isinstance") := by decide +kernel
theorem bb_divmod : bootBuiltins "divmod" = some (.builtin "divmod") := by decide +kernel
theorem bb_tuple : bootBuiltins "tuple" = some (.type "tuple") := by decide +kernel
theorem bb_list : bootBuiltins "list" = some (.type "list") := by decide +kernel
theorem bb_int : bootBuiltins "int" = some (.type "int") := by decide +kernel
theorem bb_str : bootBuiltins "str" = some (.type "str") := by decide +kernel
theorem bb_bool : bootBuiltins "bool" = some (.type "bool") := by decide +kernel
theorem bb_dict : bootBuiltins "dict" = some (.type "dict") := by decide +kernel
theorem bb_set : bootBuiltins "set" = some (.type "set") := by decide +kernel
theorem bb_range : bootBuiltins "range" = some (.type "range") := by decide +kernel
theorem bb_enumerate : bootBuiltins "enumerate" = some (.type "enumerate") := by decide +kernel
theorem bb_zip : bootBuiltins "zip" = some (.type "zip") := by decide +kernel
theorem bb_LookupError : bootBuiltins "LookupError" = some (.type "LookupError") := by decide +kernel
theorem bb_ValueError : bootBuiltins "ValueError" = some (.type "ValueError") := by decide +kernel
theorem bb_RuntimeError : bootBuiltins "RuntimeError" = some (.type "RuntimeError") := by decide +kernel
theorem bb_OverflowError : bootBuiltins "OverflowError" = some (.type "OverflowError") := by decide +kernel
/-- turns enough for each while -/
def FUEL : Nat := 1000000
/-- the law's own def: what it gives at every script, told to the end -/
theorem law_fn {P : Program} {W : World} {K : PySem.W.Frag} {mg : Str → Option Value} {base : Heap} {XR : Hp → Hp → Xc → Value → Option Addr → Prop} {k n : Nat} {f : Addr} {fd : FuncData} {x : Str} {fn : List D → Option Ret} (G : FnG P W K mg base k f fd [x] (spF K XR 1 fn))
    (hl : ∀ ns : List Int, ns.length ≤ n → (∀ k ∈ ns, Builtin.Int.intBits k ≤ 1048576) → fn [.list (ns.map .int)] = some (.ok (.fz (.bool true)))) : FnG P W K mg base k f fd [x] (spLaw n) where
  len := fun vs H Q E ⟨a, o, ns, h, _⟩ => by subst h; rfl
  run := fun A out s H given us vs Q E hr hu e0 bnd rv ⟨a, o, ns, h, h1, h2, h3, h4⟩ => by
    subst h h3
    refine G.run A out s _ given us _ Q E hr hu e0 bnd rv ⟨rfl, scriptHp a o ns, [.list (ns.map .int)], .refl _, fun b xs z => z, .cons (.lst (.inr ⟨o, scriptHp_at⟩) (DpAll.of_ints ns)) .nil, ?_⟩
    rw [hl ns h1 h2]
    intro v F' H' _ q
    have q : Dp K F' v (.bool true) := q
    cases q
    exact h4 H'
end VI
set_option Elab.async false
set_option linter.all false
set_option maxRecDepth 100000
set_option maxHeartbeats 4000000
namespace VI
open PySem PySem.Spec PyProof.Rows L2
abbrev Po (α : Type) := α → Env → Prop
/-- it ends well, and so -/
def Ok {α : Type} (r : Rs α) (Q : Po α) : Prop := match r with
  | .ok a e => Q a e
  | _ => False
section
variable {α β : Type} {e : Env} {i j : Nat} {d x y : D} {ds xs : List D} {r : Rv} {rs : List Rv} {o : Option (Option Sv)} {a b c : Ev} {as : List Ev} {f g : F2} {f1 : F1} {fb : List D → Option Rv} {s t u : Sem1 Bool} {p q : St1} {ps : List St1}
@[simp] theorem ok_ok {z : α} {Q : Po α} : Ok (.ok z e) Q = Q z e := rfl
@[simp] theorem ok_no {Q : Po α} : Ok .no Q = False := rfl
theorem ok_bind {z : Rs α} {k : α → Env → Rs β} {Q : Po β} : Ok (z.bind k) Q = Ok z (fun w e => Ok (k w e) Q) := by cases z <;> rfl
@[simp] theorem ok_ite {m : Prop} [Decidable m] {z w : Rs α} {Q : Po α} : Ok (if m then z else w) Q = if m then Ok z Q else Ok w Q := by split <;> rfl
theorem Ok.mono {z : Rs α} {Q Q' : Po α} (h : Ok z Q) (k : ∀ w e, Q w e → Q' w e) : Ok z Q' := by
  cases z with
  | ok w e => exact k w e h
  | no => exact h
  | ex w e => exact h
theorem ok_of {z : Rs α} {w : α} {Q : Po α} (h : z = .ok w e) (q : Q w e) : Ok z Q := by rw [h]; exact q
theorem ok_get {z : Rs α} {Q : Po α} (h : Ok z Q) : ∃ w e, z = .ok w e ∧ Q w e := by
  cases z with
  | ok w e => exact ⟨w, e, rfl, h⟩
  | no => exact h.elim
  | ex w e => exact h.elim
def okO (z : Option α) (e : Env) (Q : Po α) : Prop := match z with
  | none => False
  | some w => Q w e
@[simp] theorem okO_some {w : α} {Q : Po α} : okO (some w) e Q = Q w e := rfl
@[simp] theorem okO_none {Q : Po α} : okO none e Q = False := rfl
@[simp] theorem okO_ite {m : Prop} [Decidable m] {z w : Option α} {Q : Po α} : okO (if m then z else w) e Q = if m then okO z e Q else okO w e Q := by split <;> rfl
@[simp] theorem ok_ofO {z : Option α} {Q : Po α} : Ok (ofO z e) Q = okO z e Q := by cases z <;> rfl
def okL (o : Option (Option Sv)) (i : Nat) (e : Env) (Q : Po Rv) : Prop := match o with
  | some (some (.fz d)) => Q (.fz d) e
  | some (some _) => Q (.bor i) e
  | _ => False
@[simp] theorem okL_fz {Q : Po Rv} : okL (some (some (.fz d))) i e Q = Q (.fz d) e := rfl
@[simp] theorem okL_own {Q : Po Rv} : okL (some (some (.own ds))) i e Q = Q (.bor i) e := rfl
@[simp] theorem okL_lent {Q : Po Rv} : okL (some (some (.lent ds))) i e Q = Q (.bor i) e := rfl
@[simp] theorem okL_io {Q : Po Rv} : okL (some (some (.io ds))) i e Q = Q (.bor i) e := rfl
@[simp] theorem ok_V {Q : Po Rv} : Ok (eV i e) Q = okL e[i]? i e Q := by
  unfold eV okL
  cases e[i]? with
  | none => rfl
  | some z => cases z with
    | none => rfl
    | some y => cases y <;> rfl
@[simp] theorem ok_C {Q : Po Rv} : Ok (eC d e) Q = Q (.fz d) e := rfl
@[simp] theorem calm_fz : calmR (.fz d) = .fz d := rfl
@[simp] theorem calm_fresh : calmR (.fresh ds) = .fz (.list ds) := rfl
@[simp] theorem calm_bor : calmR (.bor i) = .bor i := rfl
def kOpd (Q : Po Rv) : Po Rv := fun r e => Q (calmR r) e
@[simp] theorem kOpd_eq {Q : Po Rv} : kOpd Q r e = Q (calmR r) e := rfl
@[simp] theorem ok_opd {Q : Po Rv} : Ok (opd a e) Q = Ok (a e) (kOpd Q) := by unfold opd; rw [ok_bind]; rfl
def okF (o : Option (Option Sv)) (i : Nat) (e : Env) (Q : Po D) : Prop := match o with
  | some (some (.fz d)) => Q d e
  | some (some (.own ds)) => Q (.list ds) (e.set i (some (.fz (.list ds))))
  | _ => False
@[simp] theorem okF_fz {Q : Po D} : okF (some (some (.fz d))) i e Q = Q d e := rfl
@[simp] theorem okF_own {Q : Po D} : okF (some (some (.own ds))) i e Q = Q (.list ds) (e.set i (some (.fz (.list ds)))) := rfl
def kFrz (Q : Po D) : Po Rv := fun r e => Ok (frz r e) Q
@[simp] theorem kFrz_fz {Q : Po D} : kFrz Q (.fz d) e = Q d e := rfl
@[simp] theorem kFrz_fresh {Q : Po D} : kFrz Q (.fresh ds) e = Q (.list ds) e := rfl
@[simp] theorem kFrz_bor {Q : Po D} : kFrz Q (.bor i) e = okF e[i]? i e Q := by
  unfold kFrz frz okF
  simp only
  cases e[i]? with
  | none => rfl
  | some z => cases z with
    | none => rfl
    | some y => cases y <;> rfl
@[simp] theorem ok_toD {Q : Po D} : Ok (toD a e) Q = Ok (a e) (kFrz Q) := by unfold toD; rw [ok_bind]; rfl
def lookD (o : Option (Option Sv)) : Option D := match o with
  | some (some (.fz d)) => some d
  | some (some (.own ds)) => some (.list ds)
  | some (some (.lent ds)) => some (.list ds)
  | some (some (.io ds)) => some (.list ds)
  | _ => none
@[simp] theorem peek_fz : peek (.fz d) e = some d := rfl
@[simp] theorem peek_fresh : peek (.fresh ds) e = some (.list ds) := rfl
@[simp] theorem peek_bor : peek (.bor i) e = lookD e[i]? := rfl
@[simp] theorem lookD_fz : lookD (some (some (.fz d))) = some d := rfl
@[simp] theorem lookD_own : lookD (some (some (.own ds))) = some (.list ds) := rfl
@[simp] theorem lookD_lent : lookD (some (some (.lent ds))) = some (.list ds) := rfl
@[simp] theorem lookD_io : lookD (some (some (.io ds))) = some (.list ds) := rfl
def kDs2 (x : D) (Q : Po (List D)) : Po (List D) := fun xs e => Q (x :: xs) e
@[simp] theorem kDs2_eq {Q : Po (List D)} : kDs2 x Q xs e = Q (x :: xs) e := rfl
def kDs1 (as : List Ev) (Q : Po (List D)) : Po D := fun x e => Ok (toDs as e) (kDs2 x Q)
@[simp] theorem kDs1_eq {Q : Po (List D)} : kDs1 as Q x e = Ok (toDs as e) (kDs2 x Q) := rfl
@[simp] theorem ok_toDs_nil {Q : Po (List D)} : Ok (toDs [] e) Q = Q [] e := rfl
@[simp] theorem ok_toDs {Q : Po (List D)} : Ok (toDs (a :: as) e) Q = Ok (a e) (kFrz (kDs1 as Q)) := by
  unfold toDs
  rw [ok_bind, ok_toD]
  congr 2
  funext x e1
  rw [ok_bind]; rfl
def kRs2 (x : Rv) (Q : Po (List Rv)) : Po (List Rv) := fun xs e => Q (x :: xs) e
@[simp] theorem kRs2_eq {Q : Po (List Rv)} : kRs2 r Q rs e = Q (r :: rs) e := rfl
def kRs1 (as : List Ev) (Q : Po (List Rv)) : Po Rv := fun x e => Ok (opds as e) (kRs2 x Q)
@[simp] theorem kRs1_eq {Q : Po (List Rv)} : kRs1 as Q r e = Ok (opds as e) (kRs2 r Q) := rfl
@[simp] theorem ok_opds_nil {Q : Po (List Rv)} : Ok (opds [] e) Q = Q [] e := rfl
@[simp] theorem ok_opds {Q : Po (List Rv)} : Ok (opds (a :: as) e) Q = Ok (a e) (kOpd (kRs1 as Q)) := by
  unfold opds
  rw [ok_bind, ok_opd]
  congr 2
  funext x e1
  rw [ok_bind]; rfl
@[simp] theorem peeks_nil : peeks [] e = some [] := rfl
@[simp] theorem peeks_cons : peeks (r :: rs) e = (peek r e).bind fun d => (peeks rs e).bind fun ds => some (d :: ds) := rfl
@[simp] theorem ap2_eq {x y : Rv} : ap2 f x y e = (peek x e).bind fun dx => (peek y e).bind fun dy => f dx dy := rfl
@[simp] theorem ap1_eq {x : Rv} : ap1 f1 x e = (peek x e).bind f1 := rfl
def kB2 (f : F2) (x : Rv) (Q : Po Rv) : Po Rv := kOpd fun y e2 => Ok (ofO (ap2 f x y e2) e2) Q
def kB1 (f : F2) (b : Ev) (Q : Po Rv) : Po Rv := kOpd fun x e1 => Ok ((opd b e1).bind fun y e2 => ofO (ap2 f x y e2) e2) Q
@[simp] theorem kB2_eq {x : Rv} {Q : Po Rv} : kB2 f x Q r e = okO (ap2 f x (calmR r) e) e Q := ok_ofO
@[simp] theorem kB1_eq {Q : Po Rv} : kB1 f b Q r e = Ok (b e) (kB2 f (calmR r) Q) := by
  show Ok ((opd b e).bind fun y e2 => ofO (ap2 f (calmR r) y e2) e2) Q = _
  rw [ok_bind, ok_opd]; rfl
@[simp] theorem ok_bin {Q : Po Rv} : Ok (bin2 f a b e) Q = Ok (a e) (kB1 f b Q) := by unfold bin2; rw [ok_bind, ok_opd]; rfl
def kU (f1 : F1) (Q : Po Rv) : Po Rv := kOpd fun x e1 => Ok (ofO (ap1 f1 x e1) e1) Q
@[simp] theorem kU_eq {Q : Po Rv} : kU f1 Q r e = okO (ap1 f1 (calmR r) e) e Q := ok_ofO
@[simp] theorem ok_un {Q : Po Rv} : Ok (un1 f1 a e) Q = Ok (a e) (kU f1 Q) := by unfold un1; rw [ok_bind, ok_opd]; rfl
def kBl (fb : List D → Option Rv) (Q : Po Rv) : Po (List Rv) := fun rs e => okO ((peeks rs e).bind fb) e Q
@[simp] theorem kBl_eq {Q : Po Rv} : kBl fb Q rs e = okO ((peeks rs e).bind fb) e Q := rfl
@[simp] theorem ok_B {k : Sem1 (List Rv)} {Q : Po Rv} : Ok (eB fb k e) Q = Ok (k e) (kBl fb Q) := by
  unfold eB
  rw [ok_bind]
  congr 1
  funext rs e1
  exact ok_ofO
@[simp] theorem on1_eq {h : D → Option Rv} : on1 h [d] = h d := rfl
@[simp] theorem on2_eq {h : D → D → Option Rv} : on2 h [x, y] = h x y := rfl
def kTup (Q : Po Rv) : Po (List D) := fun ds e => ds.length ≤ sizeLine ∧ Q (.fz (.tuple ds)) e
@[simp] theorem kTup_eq {Q : Po Rv} : kTup Q ds e = (ds.length ≤ sizeLine ∧ Q (.fz (.tuple ds)) e) := rfl
@[simp] theorem ok_tup {k : Sem1 (List D)} {Q : Po Rv} : Ok (eTup k e) Q = Ok (k e) (kTup Q) := by
  unfold eTup
  rw [ok_bind]
  congr 1
  funext ds e1
  by_cases h : ds.length ≤ sizeLine <;> simp [h]
def kLst (Q : Po Rv) : Po (List D) := fun ds e => ds.length ≤ sizeLine ∧ Q (.fresh ds) e
@[simp] theorem kLst_eq {Q : Po Rv} : kLst Q ds e = (ds.length ≤ sizeLine ∧ Q (.fresh ds) e) := rfl
@[simp] theorem ok_lst {k : Sem1 (List D)} {Q : Po Rv} : Ok (eLst k e) Q = Ok (k e) (kLst Q) := by
  unfold eLst
  rw [ok_bind]
  congr 1
  funext ds e1
  by_cases h : ds.length ≤ sizeLine <;> simp [h]
def okI (r : Rv) (e : Env) (Q : Po (Option Int)) : Prop := match r with
  | .fz (.int i) => Q (some i) e
  | _ => False
@[simp] theorem okI_eq {z : Int} {Q : Po (Option Int)} : okI (.fz (.int z)) e Q = Q (some z) e := rfl
def kI (Q : Po (Option Int)) : Po Rv := fun r e => okI (calmR r) e Q
@[simp] theorem kI_eq {Q : Po (Option Int)} : kI Q r e = okI (calmR r) e Q := rfl
@[simp] theorem ok_opI0 {Q : Po (Option Int)} : Ok (opI none e) Q = Q none e := rfl
@[simp] theorem ok_opI1 {Q : Po (Option Int)} : Ok (opI (some a) e) Q = Ok (a e) (kI Q) := by
  show Ok ((opd a e).bind _) Q = _
  rw [ok_bind, ok_opd]
  congr 2
  funext r e1
  cases r with
  | fz d => cases d <;> rfl
  | fresh _ => rfl
  | bor _ => rfl
def kS3 (x : Rv) (l : Option Int) (Q : Po Rv) : Po (Option Int) := fun u e => okO ((peek x e).bind fun dx => slD dx l u) e Q
def kS2 (x : Rv) (hi : Option Ev) (Q : Po Rv) : Po (Option Int) := fun l e => Ok (opI hi e) (kS3 x l Q)
def kS1 (lo hi : Option Ev) (Q : Po Rv) : Po Rv := fun r e => Ok (opI lo e) (kS2 (calmR r) hi Q)
@[simp] theorem kS3_eq {x : Rv} {l u : Option Int} {Q : Po Rv} : kS3 x l Q u e = okO ((peek x e).bind fun dx => slD dx l u) e Q := rfl
@[simp] theorem kS2_eq {x : Rv} {l : Option Int} {hi : Option Ev} {Q : Po Rv} : kS2 x hi Q l e = Ok (opI hi e) (kS3 x l Q) := rfl
@[simp] theorem kS1_eq {lo hi : Option Ev} {Q : Po Rv} : kS1 lo hi Q r e = Ok (opI lo e) (kS2 (calmR r) hi Q) := rfl
@[simp] theorem ok_sl {lo hi : Option Ev} {Q : Po Rv} : Ok (slE a lo hi e) Q = Ok (a e) (kS1 lo hi Q) := by
  unfold slE
  rw [ok_bind, ok_opd]
  congr 1
  funext r e1
  show Ok ((opI lo e1).bind _) Q = _
  rw [ok_bind]
  show _ = Ok (opI lo e1) _
  congr 1
  funext l e2
  rw [ok_bind]
  show _ = Ok (opI hi e2) _
  congr 1
  funext u e3
  exact ok_ofO
def okB (r : Rv) (e : Env) (Q : Po Bool) : Prop := match r with
  | .fz (.bool b) => Q b e
  | _ => False
@[simp] theorem okB_eq {z : Bool} {Q : Po Bool} : okB (.fz (.bool z)) e Q = Q z e := rfl
def kT (Q : Po Bool) : Po Rv := fun r e => okB r e Q
@[simp] theorem kT_eq {Q : Po Bool} : kT Q r e = okB r e Q := rfl
@[simp] theorem ok_tst {Q : Po Bool} : Ok (tst a e) Q = Ok (a e) (kT Q) := by
  unfold tst
  rw [ok_bind]
  congr 1
  funext r e1
  cases r with
  | fz d => cases d <;> rfl
  | fresh _ => rfl
  | bor _ => rfl
def kIf (p q : Sem1 α) (Q : Po α) : Po Bool := fun z e => if z then Ok (p e) Q else Ok (q e) Q
@[simp] theorem kIf_t {p q : Sem1 α} {Q : Po α} : kIf p q Q true e = Ok (p e) Q := rfl
@[simp] theorem kIf_f {p q : Sem1 α} {Q : Po α} : kIf p q Q false e = Ok (q e) Q := rfl
@[simp] theorem kIf_d {m : Prop} [Decidable m] {p q : Sem1 α} {Q : Po α} : kIf p q Q (decide m) e = if m then Ok (p e) Q else Ok (q e) Q := by by_cases h : m <;> simp [h, kIf]
@[simp] theorem kIf_n {z : Bool} {p q : Sem1 α} {Q : Po α} : kIf p q Q (!z) e = kIf q p Q z e := by cases z <;> rfl
def cT (z : Bool) : Sem1 Bool := fun e => .ok z e
@[simp] theorem ok_cT {z : Bool} {Q : Po Bool} : Ok (cT z e) Q = Q z e := rfl
def cV (z : Bool) : Ev := fun e => .ok (.fz (.bool z)) e
@[simp] theorem ok_cV {z : Bool} {Q : Po Rv} : Ok (cV z e) Q = Q (.fz (.bool z)) e := rfl
theorem ok_if2 {z : Rs Bool} {p q : Sem1 α} {Q : Po α} : Ok (z.bind fun w e1 => if w then p e1 else q e1) Q = Ok z (kIf p q Q) := by
  rw [ok_bind]
  congr 1
  funext w e1
  cases w <;> rfl
@[simp] theorem ok_and {Q : Po Bool} : Ok (andT s t e) Q = Ok (s e) (kIf t (cT false) Q) := ok_if2 (q := cT false)
@[simp] theorem ok_or {Q : Po Bool} : Ok (orT s t e) Q = Ok (s e) (kIf (cT true) t Q) := ok_if2 (p := cT true)
def kNot (Q : Po Bool) : Po Bool := fun z e => Q (!z) e
@[simp] theorem kNot_eq {z : Bool} {Q : Po Bool} : kNot Q z e = Q (!z) e := rfl
@[simp] theorem ok_not {Q : Po Bool} : Ok (notT s e) Q = Ok (s e) (kNot Q) := by unfold notT; rw [ok_bind]; rfl
@[simp] theorem ok_andV {Q : Po Rv} : Ok (andV a b e) Q = Ok (a e) (kT (kIf b (cV false) Q)) := by
  rw [← ok_tst]; exact ok_if2 (q := cV false)
@[simp] theorem ok_orV {Q : Po Rv} : Ok (orV a b e) Q = Ok (a e) (kT (kIf (cV true) b Q)) := by
  rw [← ok_tst]; exact ok_if2 (p := cV true)
def kNotV (Q : Po Rv) : Po Bool := fun z e => Q (.fz (.bool (!z))) e
@[simp] theorem kNotV_eq {z : Bool} {Q : Po Rv} : kNotV Q z e = Q (.fz (.bool (!z))) e := rfl
@[simp] theorem ok_notV {Q : Po Rv} : Ok (notV a e) Q = Ok (a e) (kT (kNotV Q)) := by unfold notV; rw [ok_bind, ok_tst]; rfl
@[simp] theorem ok_iteV {Q : Po Rv} : Ok (iteV s a b e) Q = Ok (s e) (kIf a b Q) := ok_if2
@[simp] theorem ok_yes {Q : Po Bool} : Ok (yesT e) Q = Q true e := rfl
def kSeq (q : St1) (Q : Po Fl) : Po Fl := fun w e => match w with
  | .nx => Ok (q e) Q
  | w => Q w e
@[simp] theorem kSeq_nx {Q : Po Fl} : kSeq q Q .nx e = Ok (q e) Q := rfl
@[simp] theorem kSeq_bk {Q : Po Fl} : kSeq q Q .bk e = Q .bk e := rfl
@[simp] theorem kSeq_ct {Q : Po Fl} : kSeq q Q .ct e = Q .ct e := rfl
@[simp] theorem kSeq_ret {Q : Po Fl} : kSeq q Q (.ret r) e = Q (.ret r) e := rfl
theorem ok_seq {Q : Po Fl} : Ok (seqS p q e) Q = Ok (p e) (kSeq q Q) := by
  unfold seqS
  rw [ok_bind]
  congr 1
  funext w e1
  cases w <;> rfl
@[simp] theorem ok_blk0 {Q : Po Fl} : Ok (block [] e) Q = Q .nx e := rfl
@[simp] theorem ok_blk1 {Q : Po Fl} : Ok (block [p] e) Q = Ok (p e) Q := rfl
@[simp] theorem ok_blk {Q : Po Fl} : Ok (block (p :: q :: ps) e) Q = Ok (p e) (kSeq (block (q :: ps)) Q) := ok_seq
@[simp] theorem ok_skip {Q : Po Fl} : Ok (skipS e) Q = Q .nx e := rfl
def okP (o : Option (Option Sv)) (i : Nat) (z : Sv) (e : Env) (Q : Po Fl) : Prop := match o with
  | some (some (.lent _)) => False
  | some (some (.io _)) => False
  | some (some (.tr _ _)) => False
  | some _ => Q .nx (e.set i (some z))
  | none => False
@[simp] theorem okP_none {z : Sv} {Q : Po Fl} : okP (some none) i z e Q = Q .nx (e.set i (some z)) := rfl
@[simp] theorem okP_fz {z : Sv} {Q : Po Fl} : okP (some (some (.fz d))) i z e Q = Q .nx (e.set i (some z)) := rfl
@[simp] theorem okP_own {z : Sv} {Q : Po Fl} : okP (some (some (.own ds))) i z e Q = Q .nx (e.set i (some z)) := rfl
theorem okP_eq {z : Sv} {Q : Po Fl} : Ok (if freeAt e i then .ok .nx (e.set i (some z)) else .no : Rs Fl) Q = okP e[i]? i z e Q := by
  unfold freeAt
  cases e[i]? with
  | none => rfl
  | some o => cases o with
    | none => rfl
    | some y => cases y <;> rfl
def kSt (i : Nat) (Q : Po Fl) : Po Rv := fun r e => Ok (store i r e) Q
@[simp] theorem kSt_fz {Q : Po Fl} : kSt i Q (.fz d) e = okP e[i]? i (.fz d) e Q := okP_eq
@[simp] theorem kSt_fresh {Q : Po Fl} : kSt i Q (.fresh ds) e = okP e[i]? i (.own ds) e Q := okP_eq
def kSt2 (i : Nat) (Q : Po Fl) : Po D := fun d e => okP e[i]? i (.fz d) e Q
@[simp] theorem kSt2_eq {Q : Po Fl} : kSt2 i Q d e = okP e[i]? i (.fz d) e Q := rfl
@[simp] theorem kSt_bor {Q : Po Fl} : kSt i Q (.bor j) e = okF e[j]? j e (kSt2 i Q) := by
  show Ok ((frz (.bor j) e).bind _) Q = _
  rw [ok_bind, ← kFrz_bor]
  show _ = Ok (frz (.bor j) e) _
  congr 1
  funext d e1
  exact okP_eq
@[simp] theorem ok_asg {Q : Po Fl} : Ok (asgS i a e) Q = Ok (a e) (kSt i Q) := by unfold asgS; rw [ok_bind]; rfl
@[simp] theorem ok_if {Q : Po Fl} : Ok (ifS s p q e) Q = Ok (s e) (kIf p q Q) := ok_if2
def kEx (Q : Po Fl) : Po Rv := fun _ e => Q .nx e
@[simp] theorem kEx_eq {Q : Po Fl} : kEx Q r e = Q .nx e := rfl
@[simp] theorem ok_expr {Q : Po Fl} : Ok (exprS a e) Q = Ok (a e) (kEx Q) := by unfold exprS; rw [ok_bind]; rfl
def okR (o : Option (Option Sv)) (i : Nat) (e : Env) (Q : Po Fl) : Prop := match o with
  | some (some (.own ds)) => Q (.ret (.fresh ds)) (e.set i none)
  | some (some (.fz d)) => Q (.ret (.fz d)) e
  | _ => False
@[simp] theorem okR_own {Q : Po Fl} : okR (some (some (.own ds))) i e Q = Q (.ret (.fresh ds)) (e.set i none) := rfl
@[simp] theorem okR_fz {Q : Po Fl} : okR (some (some (.fz d))) i e Q = Q (.ret (.fz d)) e := rfl
def kRet (Q : Po Fl) : Po Rv := fun r e => match r with
  | .fz d => Q (.ret (.fz d)) e
  | .fresh ds => Q (.ret (.fresh ds)) e
  | .bor i => okR e[i]? i e Q
@[simp] theorem kRet_fz {Q : Po Fl} : kRet Q (.fz d) e = Q (.ret (.fz d)) e := rfl
@[simp] theorem kRet_fresh {Q : Po Fl} : kRet Q (.fresh ds) e = Q (.ret (.fresh ds)) e := rfl
@[simp] theorem kRet_bor {Q : Po Fl} : kRet Q (.bor i) e = okR e[i]? i e Q := rfl
@[simp] theorem ok_ret {Q : Po Fl} : Ok (retS a e) Q = Ok (a e) (kRet Q) := by
  unfold retS
  rw [ok_bind]
  congr 1
  funext r e1
  cases r with
  | fz d => rfl
  | fresh d => rfl
  | bor i =>
    show Ok (match e1[i]? with | some (some (.own ds)) => .ok (.ret (.fresh ds)) (e1.set i none) | some (some (.fz d)) => .ok (.ret (.fz d)) e1 | _ => .no) Q = okR e1[i]? i e1 Q
    cases e1[i]? with
    | none => rfl
    | some o => cases o with
      | none => rfl
      | some y => cases y <;> rfl
@[simp] theorem ok_retN {Q : Po Fl} : Ok (retN e) Q = Q (.ret (.fz .none)) e := rfl
@[simp] theorem ok_bk {Q : Po Fl} : Ok (bkS e) Q = Q .bk e := rfl
@[simp] theorem ok_ct {Q : Po Fl} : Ok (ctS e) Q = Q .ct e := rfl
end
end VI
set_option Elab.async false
set_option linter.all false
set_option maxRecDepth 100000
set_option maxHeartbeats 4000000
namespace VI
open PySem PySem.Spec PyProof.Rows L2
section
variable {α β : Type} {e : Env} {i j n : Nat} {d x y : D} {ds xs : List D} {r : Rv} {rs : List Rv} {o : Option (Option Sv)} {a b c : Ev} {as : List Ev} {f g : F2} {s t u : Sem1 Bool} {p q : St1} {ps : List St1} {is : List Nat}
def kMv (Q : Po Rv) : Po Rv := fun r e => Ok (mvR r e) Q
def kMv1 (Q : Po Rv) : Po D := fun d e => Q (.fz d) e
@[simp] theorem kMv1_eq {Q : Po Rv} : kMv1 Q d e = Q (.fz d) e := rfl
@[simp] theorem kMv_fz {Q : Po Rv} : kMv Q (.fz d) e = Q (.fz d) e := rfl
@[simp] theorem kMv_fresh {Q : Po Rv} : kMv Q (.fresh ds) e = Q (.fresh ds) e := rfl
@[simp] theorem kMv_bor {Q : Po Rv} : kMv Q (.bor i) e = okF e[i]? i e (kMv1 Q) := by
  show Ok ((frz (.bor i) e).bind _) Q = _
  rw [ok_bind, ← kFrz_bor]; rfl
def kMs2 (x : Rv) (Q : Po (List Rv)) : Po (List Rv) := fun xs e => Q (x :: xs) e
@[simp] theorem kMs2_eq {Q : Po (List Rv)} : kMs2 r Q rs e = Q (r :: rs) e := rfl
def kMs1 (as : List Ev) (Q : Po (List Rv)) : Po Rv := fun x e => Ok (mvs as e) (kMs2 x Q)
@[simp] theorem kMs1_eq {Q : Po (List Rv)} : kMs1 as Q r e = Ok (mvs as e) (kMs2 r Q) := rfl
@[simp] theorem ok_mvs0 {Q : Po (List Rv)} : Ok (mvs [] e) Q = Q [] e := rfl
@[simp] theorem ok_mvs {Q : Po (List Rv)} : Ok (mvs (a :: as) e) Q = Ok (a e) (kMv (kMs1 as Q)) := by
  unfold mvs
  rw [ok_bind, ok_bind]
  congr 1
  funext x e1
  show Ok (mvR x e1) _ = Ok (mvR x e1) _
  congr 1
  funext x e1
  rw [ok_bind]; rfl
def kPar (is : List Nat) (Q : Po Fl) : Po (List Rv) := fun rs e => Ok (stores is rs e) Q
@[simp] theorem kPar0 {Q : Po Fl} : kPar [] Q [] e = Q .nx e := rfl
def kPar2 (is : List Nat) (rs : List Rv) (Q : Po Fl) : Po Fl := fun _ e => kPar is Q rs e
@[simp] theorem kPar2_eq {w : Fl} {Q : Po Fl} : kPar2 is rs Q w e = kPar is Q rs e := rfl
@[simp] theorem kPar1 {Q : Po Fl} : kPar (i :: is) Q (r :: rs) e = kSt i (kPar2 is rs Q) r e := by
  show Ok ((store i r e).bind _) Q = _
  rw [ok_bind]; rfl
@[simp] theorem ok_par {Q : Po Fl} : Ok (parS is as e) Q = Ok (mvs as e) (kPar is Q) := by unfold parS; rw [ok_bind]; rfl
def kAug2 (f : F2) (i : Nat) (d : D) (Q : Po Fl) : Po Rv := fun y e => okO ((peek (calmR y) e).bind fun dy => f d dy) e (kSt i Q)
@[simp] theorem kAug2_eq {Q : Po Fl} : kAug2 f i d Q r e = okO ((peek (calmR r) e).bind fun dy => f d dy) e (kSt i Q) := rfl
def isFz (o : Option (Option Sv)) : Bool := match o with
  | some (some (.fz _)) => true
  | _ => false
def okA (f : F2) (i : Nat) (a : Ev) (Q : Po Fl) (o : Option (Option Sv)) (e : Env) : Prop := match o with
  | some (some (.fz d)) => Ok (a e) fun y e1 => match e1[i]? with
    | some (some (.fz _)) => Ok (ofO ((peek (calmR y) e1).bind fun dy => f d dy) e1) fun r e2 => Ok (putR i r e2) Q
    | _ => False
  | _ => False
theorem ok_aug0 {Q : Po Fl} : Ok (augS f i a e) Q = okA f i a Q e[i]? e := by
  unfold augS okA
  cases e[i]? with
  | none => rfl
  | some z => cases z with
    | none => rfl
    | some w => cases w with
      | fz d =>
        simp only
        rw [ok_bind, ok_opd]
        show Ok (a e) _ = Ok (a e) _
        congr 1
        funext y e1
        show Ok (match e1[i]? with | some (some (.fz _)) => _ | _ => _) Q = _
        cases h : e1[i]? with
        | none => rfl
        | some z2 => cases z2 with
          | none => rfl
          | some w2 => cases w2 <;> first | rfl | (simp only; rw [ok_bind])
      | _ => rfl
def kAug (f : F2) (i : Nat) (d : D) (Q : Po Fl) : Po Rv := fun y e1 => match e1[i]? with
    | some (some (.fz _)) => Ok (ofO ((peek (calmR y) e1).bind fun dy => f d dy) e1) fun r e2 => Ok (putR i r e2) Q
    | _ => False
def kPutR (i : Nat) (Q : Po Fl) : Po Rv := fun r e => Ok (putR i r e) Q
@[simp] theorem kPutR_fz {Q : Po Fl} : kPutR i Q (.fz d) e = okP e[i]? i (.fz d) e Q := okP_eq
def okA2 (f : F2) (i : Nat) (d : D) (y : Rv) (e1 : Env) (Q : Po Fl) (o : Option (Option Sv)) : Prop := match o with
    | some (some (.fz _)) => okO ((peek (calmR y) e1).bind fun dy => f d dy) e1 (kPutR i Q)
    | _ => False
@[simp] theorem okA2_fz {z : D} {Q : Po Fl} : okA2 f i d r e Q (some (some (.fz z))) = okO ((peek (calmR r) e).bind fun dy => f d dy) e (kPutR i Q) := rfl
@[simp] theorem kAug_eq {Q : Po Fl} : kAug f i d Q r e = okA2 f i d r e Q e[i]? := by
  unfold kAug okA2
  cases e[i]? with
  | none => rfl
  | some z => cases z with
    | none => rfl
    | some w => cases w <;> first | rfl | exact ok_ofO
@[simp] theorem okA_fz {Q : Po Fl} : okA f i a Q (some (some (.fz d))) e = Ok (a e) (kAug f i d Q) := rfl
@[simp] theorem ok_aug {Q : Po Fl} : Ok (augS f i a e) Q = okA f i a Q e[i]? e := ok_aug0
def mutO (o : Option (Option Sv)) : Option (List D) := match o with
  | some (some (.own ds)) => some ds
  | some (some (.io ds)) => some ds
  | _ => none
@[simp] theorem mutO_own : mutO (some (some (.own ds))) = some ds := rfl
@[simp] theorem mutO_io : mutO (some (some (.io ds))) = some ds := rfl
def putO (o : Option (Option Sv)) (i : Nat) (ds : List D) (e : Env) : Env := match o with
  | some (some (.own _)) => e.set i (some (.own ds))
  | some (some (.io _)) => e.set i (some (.io ds))
  | _ => e
@[simp] theorem putO_own : putO (some (some (.own ds))) i xs e = e.set i (some (.own xs)) := rfl
@[simp] theorem putO_io : putO (some (some (.io ds))) i xs e = e.set i (some (.io xs)) := rfl
theorem mut_eq : VI.mutAt e i = mutO e[i]? := by
  unfold VI.mutAt mutO
  cases e[i]? with
  | none => rfl
  | some o => cases o with
    | none => rfl
    | some y => cases y <;> rfl
theorem put_eq : VI.putAt e i ds = putO e[i]? i ds e := by
  unfold VI.putAt putO
  cases e[i]? with
  | none => rfl
  | some o => cases o with
    | none => rfl
    | some y => cases y <;> rfl
/-- there is a list to change -/
def okM (o : Option (List D)) (p : Prop) : Prop := match o with
  | some _ => p
  | none => False
@[simp] theorem okM_some {z : Prop} : okM (some ds) z = z := rfl
def okM1 (fm : FM) (i : Nat) (ds : List D) (e : Env) (Q : Po Rv) (o : Option (List D)) : Prop := match o with
  | none => False
  | some xs => match fm xs ds with
    | none => False
    | some (z, xs') => Q (.fz z) (putO e[i]? i xs' e)
@[simp] theorem okM1_some {fm : FM} {Q : Po Rv} : okM1 fm i ds e Q (some xs) = match fm xs ds with
    | none => False
    | some (z, xs') => Q (.fz z) (putO e[i]? i xs' e) := rfl
def kM (fm : FM) (i : Nat) (Q : Po Rv) : Po (List D) := fun ds e => okM1 fm i ds e Q (mutO e[i]?)
@[simp] theorem kM_eq {fm : FM} {Q : Po Rv} : kM fm i Q ds e = okM1 fm i ds e Q (mutO e[i]?) := rfl
@[simp] theorem ok_M {fm : FM} {k : Sem1 (List D)} {Q : Po Rv} : Ok (eM fm i k e) Q = okM (mutO e[i]?) (Ok (k e) (kM fm i Q)) := by
  unfold eM
  rw [mut_eq]
  cases mutO e[i]? with
  | none => rfl
  | some z =>
    show Ok ((k e).bind _) Q = Ok (k e) _
    rw [ok_bind]
    congr 1
    funext ds e1
    rw [mut_eq]
    show _ = okM1 fm i ds e1 Q (mutO e1[i]?)
    cases mutO e1[i]? with
    | none => rfl
    | some xs =>
      simp only [okM1_some]
      cases fm xs ds with
      | none => rfl
      | some w => simp only [put_eq]; rfl
def okS3 (i : Nat) (d : D) (k : Rv) (e : Env) (Q : Po Fl) (o : Option (List D)) : Prop := match k, o with
  | .fz (.int k), some xs => match ixN xs.length k with
    | none => False
    | some j => Q .nx (putO e[i]? i (xs.set j d) e)
  | _, _ => False
@[simp] theorem okS3_eq {z : Int} {Q : Po Fl} : okS3 i d (.fz (.int z)) e Q (some xs) = match ixN xs.length z with
    | none => False
    | some j => Q .nx (putO e[i]? i (xs.set j d) e) := rfl
def kSet2 (i : Nat) (d : D) (Q : Po Fl) : Po Rv := fun r e => okS3 i d (calmR r) e Q (mutO e[i]?)
@[simp] theorem kSet2_eq {Q : Po Fl} : kSet2 i d Q r e = okS3 i d (calmR r) e Q (mutO e[i]?) := rfl
def kSet1 (i : Nat) (ix : Ev) (Q : Po Fl) : Po D := fun d e => okM (mutO e[i]?) (Ok (ix e) (kSet2 i d Q))
@[simp] theorem kSet1_eq {Q : Po Fl} : kSet1 i a Q d e = okM (mutO e[i]?) (Ok (a e) (kSet2 i d Q)) := rfl
@[simp] theorem ok_set {Q : Po Fl} : Ok (setS i a b e) Q = Ok (b e) (kFrz (kSet1 i a Q)) := by
  unfold setS
  rw [ok_bind, ok_toD]
  congr 2
  funext d e1
  rw [mut_eq]
  show _ = okM (mutO e1[i]?) _
  cases mutO e1[i]? with
  | none => rfl
  | some z =>
    show Ok ((opd a e1).bind _) Q = Ok (a e1) _
    rw [ok_bind, ok_opd]
    congr 1
    funext r e2
    show Ok (match calmR r, VI.mutAt e2 i with | .fz (.int k), some xs => _ | _, _ => _) Q = okS3 i d (calmR r) e2 Q (mutO e2[i]?)
    rw [mut_eq]
    unfold okS3
    cases calmR r with
    | fz d =>
      cases d <;> cases mutO e2[i]? <;> first | rfl | skip
      rename_i k xs
      simp only
      cases ixN xs.length k <;> first | rfl | (simp only [put_eq]; rfl)
    | fresh _ => rfl
    | bor _ => rfl
/-- what a call comes to: told by a promise -/
def okFn (z : Option Ret) (e : Env) (Q : Po Rv) : Prop := match z with
  | some (.ok r) => Q r e
  | _ => False
@[simp] theorem okFn_ok {Q : Po Rv} : okFn (some (.ok r)) e Q = Q r e := rfl
def kFn (fn : List D → Option Ret) (Q : Po Rv) : Po (List D) := fun ds e => okFn (fn ds) e Q
@[simp] theorem kFn_eq {fn : List D → Option Ret} {Q : Po Rv} : kFn fn Q ds e = okFn (fn ds) e Q := rfl
@[simp] theorem ok_F {fn : List D → Option Ret} {k : Sem1 (List D)} {Q : Po Rv} : Ok (eF fn k e) Q = Ok (k e) (kFn fn Q) := by
  unfold eF
  rw [ok_bind]
  congr 1
  funext ds e1
  show _ = okFn (fn ds) e1 Q
  cases fn ds with
  | none => rfl
  | some z => cases z <;> rfl
@[simp] theorem pick_nil {l : List α} : pick [] l = [] := rfl
@[simp] theorem pick_cons {l : List α} : pick (i :: is) l = (match l[i]? with | none => pick is l | some z => z :: pick is l) := by
  unfold pick
  rw [List.filterMap_cons]
  cases l[i]? <;> rfl
def kFnK (fn : List D → Option Ret) (is : List Nat) (n : Nat) (Q : Po Rv) : Po (List D) := fun ds e => ds.length = n ∧ okFn (fn (pick is ds)) e Q
@[simp] theorem kFnK_eq {fn : List D → Option Ret} {Q : Po Rv} : kFnK fn is n Q ds e = (ds.length = n ∧ okFn (fn (pick is ds)) e Q) := rfl
@[simp] theorem ok_FK {fn : List D → Option Ret} {k : Sem1 (List D)} {Q : Po Rv} : Ok (eFK fn is n k e) Q = Ok (k e) (kFnK fn is n Q) := by
  unfold eFK
  rw [ok_bind]
  congr 1
  funext ds e1
  show _ = (ds.length = n ∧ okFn (fn (pick is ds)) e1 Q)
  by_cases h : ds.length = n
  · simp only [h, if_true, true_and]
    cases fn (pick is ds) with
    | none => rfl
    | some z => cases z <;> rfl
  · simp [h]
/-- a call that may change its list -/
def okIo (z : Option (Ret × List D)) (i : Nat) (e : Env) (Q : Po Rv) : Prop := match z with
  | some (.ok r, b) => Q r (putO e[i]? i b e)
  | _ => False
@[simp] theorem okIo_ok {Q : Po Rv} : okIo (some (.ok r, ds)) i e Q = Q r (putO e[i]? i ds e) := rfl
def okIo1 (fn : List D → List D → Option (Ret × List D)) (i : Nat) (ds : List D) (e : Env) (Q : Po Rv) (o : Option (List D)) : Prop := match o with
  | none => False
  | some b => okIo (fn b ds) i e Q
@[simp] theorem okIo1_some {fn : List D → List D → Option (Ret × List D)} {Q : Po Rv} : okIo1 fn i ds e Q (some xs) = okIo (fn xs ds) i e Q := rfl
def kIo (fn : List D → List D → Option (Ret × List D)) (i : Nat) (Q : Po Rv) : Po (List D) := fun ds e => okIo1 fn i ds e Q (mutO e[i]?)
@[simp] theorem kIo_eq {fn : List D → List D → Option (Ret × List D)} {Q : Po Rv} : kIo fn i Q ds e = okIo1 fn i ds e Q (mutO e[i]?) := rfl
@[simp] theorem ok_Io {fn : List D → List D → Option (Ret × List D)} {k : Sem1 (List D)} {Q : Po Rv} : Ok (eI fn i k e) Q = okM (mutO e[i]?) (Ok (k e) (kIo fn i Q)) := by
  unfold eI
  rw [mut_eq]
  cases mutO e[i]? with
  | none => rfl
  | some z =>
    show Ok ((k e).bind _) Q = Ok (k e) _
    rw [ok_bind]
    congr 1
    funext ds e1
    rw [mut_eq]
    show _ = okIo1 fn i ds e1 Q (mutO e1[i]?)
    cases mutO e1[i]? with
    | none => rfl
    | some xs =>
      show Ok (match fn xs ds with | none => .no | some (.ok r, b') => .ok r (VI.putAt e1 i b') | some (.ex x, b') => .ex x (VI.putAt e1 i b')) Q = okIo (fn xs ds) i e1 Q
      cases fn xs ds with
      | none => rfl
      | some w =>
        obtain ⟨w1, w2⟩ := w
        cases w1 with
        | ok r => simp only [put_eq]; rfl
        | ex x => rfl
/-- the promise of a def that changes its list -/
def OkI (z : Option (Ret × List D)) (P : Rv → List D → Prop) : Prop := ∃ r b, z = some (.ok r, b) ∧ P r b
theorem okIo_of {z : Option (Ret × List D)} {P : Rv → List D → Prop} {Q : Po Rv} (h : OkI z P) (k : ∀ r b, P r b → Q r (putO e[i]? i b e)) : okIo z i e Q := by
  obtain ⟨r, b, rfl, q⟩ := h
  exact k r b q
def endI (P : Rv → List D → Prop) : Po Fl := fun w e => ∃ b, ioAt e = some b ∧ match w with
  | .ret r => P r b
  | .nx => P (.fz .none) b
  | _ => False
@[simp] theorem endI_ret {P : Rv → List D → Prop} : endI P (.ret r) e = ∃ b, ioAt e = some b ∧ P r b := rfl
@[simp] theorem endI_nx {P : Rv → List D → Prop} : endI P .nx e = ∃ b, ioAt e = some b ∧ P (.fz .none) b := rfl
theorem fnI_of {body : St1} {b : List D} {P : Rv → List D → Prop} (h : Ok (body (initI n b ds)) (endI P)) : OkI (fnI body n b ds) P := by
  obtain ⟨w, e1, h1, b', h2, h3⟩ := ok_get h
  unfold fnI
  rw [h1]
  cases w with
  | ret r => exact ⟨r, b', by simp only [h2]; rfl, h3⟩
  | nx => exact ⟨.fz .none, b', by simp only [h2]; rfl, h3⟩
  | bk => exact h3.elim
  | ct => exact h3.elim
@[simp] theorem ioAt_cons {b : List D} {e : Env} : ioAt (some (.io b) :: e) = some b := rfl
/-- the promise of another def -/
def OkF (z : Option Ret) (P : Rv → Prop) : Prop := ∃ r, z = some (.ok r) ∧ P r
theorem okFn_of {z : Option Ret} {P : Rv → Prop} {Q : Po Rv} (h : OkF z P) (k : ∀ r, P r → Q r e) : okFn z e Q := by
  obtain ⟨r, rfl, q⟩ := h
  exact k r q
def endF (P : Rv → Prop) : Po Fl := fun w _ => match w with
  | .ret r => P r
  | .nx => P (.fz .none)
  | _ => False
@[simp] theorem endF_ret {P : Rv → Prop} : endF P (.ret r) e = P r := rfl
@[simp] theorem endF_nx {P : Rv → Prop} : endF P .nx e = P (.fz .none) := rfl
theorem fnF_of {body : St1} {P : Rv → Prop} (h : Ok (body (initE n ds)) (endF P)) : OkF (fnF body n ds) P := by
  obtain ⟨w, e1, h1, h3⟩ := ok_get h
  unfold fnF
  rw [h1]
  cases w with
  | ret r => exact ⟨r, rfl, h3⟩
  | nx => exact ⟨.fz .none, rfl, h3⟩
  | bk => exact h3.elim
  | ct => exact h3.elim
theorem fnF_is {body : St1} {z : Rv} (h : Ok (body (initE n ds)) (endF fun r => r = z)) : fnF body n ds = some (.ok z) := by
  obtain ⟨r, h1, rfl⟩ := fnF_of h
  exact h1
@[simp] theorem initE1 {x : D} : initE n [x] = some (.fz x) :: List.replicate (n - 1) none := rfl
@[simp] theorem initE2 {x y : D} : initE n [x, y] = some (.fz x) :: some (.fz y) :: List.replicate (n - 2) none := rfl
@[simp] theorem initE3 {x y z : D} : initE n [x, y, z] = some (.fz x) :: some (.fz y) :: some (.fz z) :: List.replicate (n - 3) none := rfl
@[simp] theorem initI0 {b : List D} : initI n b [] = some (.io b) :: List.replicate (n - 1) none := rfl
@[simp] theorem initI1 {b : List D} {x : D} : initI n b [x] = some (.io b) :: some (.fz x) :: List.replicate (n - 2) none := rfl
@[simp] theorem initI2 {b : List D} {x y : D} : initI n b [x, y] = some (.io b) :: some (.fz x) :: some (.fz y) :: List.replicate (n - 3) none := rfl
end
end VI
set_option Elab.async false
set_option linter.all false
set_option maxRecDepth 100000
set_option maxHeartbeats 4000000
namespace VI
open PySem PySem.Spec PyProof.Rows L2
section
variable {α β : Type} {e : Env} {i j n : Nat} {d x y : D} {ds xs : List D} {r : Rv} {a b c : Ev} {f g : F2} {s t u : Sem1 Bool} {p q : St1}
variable {k l m : Int}
@[simp] theorem subD_eq : subD (.int k) (.int l) = some (.fz (.int (k - l))) := rfl
@[simp] theorem addD_eq : addD (.int k) (.int l) = some (.fz (.int (k + l))) := rfl
@[simp] theorem addI_eq : addI (.int k) (.int l) = some (.fz (.int (k + l))) := rfl
@[simp] theorem addD_lst : addD (.list ds) (.list xs) = if ds.length + xs.length ≤ sizeLine then some (.fresh (ds ++ xs)) else none := rfl
@[simp] theorem addD_tup : addD (.tuple ds) (.tuple xs) = if ds.length + xs.length ≤ sizeLine then some (.fz (.tuple (ds ++ xs))) else none := rfl
@[simp] theorem mulD_eq : mulD (.int k) (.int l) = if mulOk k l then some (.fz (.int (k * l))) else none := rfl
@[simp] theorem mulI_eq : mulI (.int k) (.int l) = if mulOk k l then some (.fz (.int (k * l))) else none := by unfold mulI ii; simp only; split <;> rfl
@[simp] theorem divD_eq : divD (.int k) (.int l) = if divOk l then some (.fz (.int (k / l))) else none := by unfold divD ii; simp only; split <;> rfl
@[simp] theorem modD_eq : modD (.int k) (.int l) = if 0 < l then some (.fz (.int (k % l))) else none := by unfold modD ii; simp only; split <;> rfl
@[simp] theorem powD_eq : powD (.int k) (.int l) = if powOk k l then some (.fz (.int (k ^ l.toNat))) else none := by unfold powD ii; simp only; split <;> rfl
@[simp] theorem negD_eq : negD (.int k) = some (.fz (.int (-k))) := rfl
@[simp] theorem ltD_eq : ltD (.int k) (.int l) = some (.fz (.bool (decide (k < l)))) := rfl
@[simp] theorem leD_eq : leD (.int k) (.int l) = some (.fz (.bool (decide (k ≤ l)))) := rfl
@[simp] theorem gtD_eq : gtD (.int k) (.int l) = some (.fz (.bool (decide (l < k)))) := rfl
@[simp] theorem geD_eq : geD (.int k) (.int l) = some (.fz (.bool (decide (l ≤ k)))) := rfl
@[simp] theorem sh_int : SeqAt.shaped (.int k) = true := rfl
@[simp] theorem sh_bool {z : Bool} : SeqAt.shaped (.bool z) = true := rfl
@[simp] theorem sh_none : SeqAt.shaped .none = true := rfl
@[simp] theorem eqD_eq : eqD (.int k) (.int l) = some (.fz (.bool (decide (k = l)))) := by
  show some (Rv.fz (PyData.bool (k == l))) = _
  rfl
@[simp] theorem neD_eq : neD (.int k) (.int l) = some (.fz (.bool (!decide (k = l)))) := by
  show some (Rv.fz (PyData.bool (!(k == l)))) = _
  rfl
@[simp] theorem eqD_bool {z w : Bool} : eqD (.bool z) (.bool w) = some (.fz (.bool (z == w))) := rfl
@[simp] theorem neD_bool {z w : Bool} : neD (.bool z) (.bool w) = some (.fz (.bool (!(z == w)))) := rfl
@[simp] theorem eqD_str {z w : Str} : eqD (.str z) (.str w) = some (.fz (.bool (z == w))) := rfl
@[simp] theorem neD_str {z w : Str} : neD (.str z) (.str w) = some (.fz (.bool (!(z == w)))) := rfl
@[simp] theorem lenD_lst : lenD (.list ds) = some (.fz (.int ds.length)) := rfl
@[simp] theorem lenD_tup : lenD (.tuple ds) = some (.fz (.int ds.length)) := rfl
@[simp] theorem tupD_lst : tupD (.list ds) = some (.fz (.tuple ds)) := rfl
@[simp] theorem tupD_tup : tupD (.tuple ds) = some (.fz (.tuple ds)) := rfl
@[simp] theorem lstD_lst : lstD (.list ds) = some (.fresh ds) := rfl
@[simp] theorem lstD_tup : lstD (.tuple ds) = some (.fresh ds) := rfl
@[simp] theorem absD_eq : absD (.int k) = some (.fz (.int (if k < 0 then -k else k))) := rfl
@[simp] theorem intD_int : intD (.int k) = some (.fz (.int k)) := rfl
@[simp] theorem intD_bool {z : Bool} : intD (.bool z) = some (.fz (.int (if z then 1 else 0))) := rfl
@[simp] theorem min2_eq : min2D (.int k) (.int l) = some (.fz (.int (if l < k then l else k))) := rfl
@[simp] theorem max2_eq : max2D (.int k) (.int l) = some (.fz (.int (if l > k then l else k))) := rfl
@[simp] theorem revD_lst : revD (.list ds) = some (.fresh ds.reverse) := rfl
@[simp] theorem revD_tup : revD (.tuple ds) = some (.fz (.tuple ds.reverse)) := rfl
@[simp] theorem ixD_lst : ixD (.list ds) (.int k) = (atI ds k).map .fz := rfl
@[simp] theorem ixD_tup : ixD (.tuple ds) (.int k) = (atI ds k).map .fz := rfl
@[simp] theorem slD_lst {lo hi : Option Int} : slD (.list ds) lo hi = some (.fresh (cutD ds lo hi)) := rfl
@[simp] theorem slD_tup {lo hi : Option Int} : slD (.tuple ds) lo hi = some (.fz (.tuple (cutD ds lo hi))) := rfl
@[simp] theorem isD_eq {fs : List (D → Bool)} : isD fs d = some (.fz (.bool (fs.any fun f => f d))) := rfl
@[simp] theorem isN_eq : isND d .none = some (.fz (.bool (isNone d))) := rfl
@[simp] theorem notN_eq : notND d .none = some (.fz (.bool (!isNone d))) := rfl
@[simp] theorem allD_map {bs : List Bool} : allD (.list (bs.map .bool)) = some (.fz (.bool (bs.all id))) := by unfold allD; simp only [boolsD_map]; rfl
@[simp] theorem anyD_map {bs : List Bool} : anyD (.list (bs.map .bool)) = some (.fz (.bool (bs.any id))) := by unfold anyD; simp only [boolsD_map]; rfl
@[simp] theorem sumD_map {ns : List Int} : sumD (.list (ns.map .int)) = some (.fz (.int ns.sum)) := by unfold sumD; simp only [intsD_map]; rfl
@[simp] theorem sumD_mapT {ns : List Int} : sumD (.tuple (ns.map .int)) = some (.fz (.int ns.sum)) := by unfold sumD; simp only [intsD_map]; rfl
@[simp] theorem fmApp_eq : fmApp xs [d] = if xs.length < sizeLine then some (.none, xs ++ [d]) else none := rfl
theorem atN {i : Nat} (h : ds[i]? = some d) : atI ds (i : Int) = some d := by
  unfold atI ixN
  have hi := (List.getElem?_eq_some_iff.mp h).1
  have h1 : (0 : Int) ≤ i := Int.natCast_nonneg i
  have h2 : ¬ ((i : Int) < 0) := by omega
  rw [List.getElem?_eq_getElem hi] at h
  simp [h2, hi, Option.some.inj h]
@[simp] theorem intsOf_len {lo : Int} {n : Nat} : (intsOf lo n).length = n := by unfold intsOf; rw [List.length_map, List.length_range]
theorem intsOf_get {lo : Int} {n i : Nat} {d : D} (h : (intsOf lo n)[i]? = some d) : i < n ∧ d = .int (lo + (i : Nat)) := by
  have hi := (List.getElem?_eq_some_iff.mp h).1
  rw [intsOf_len] at hi
  unfold intsOf at h
  rw [List.getElem?_map, List.getElem?_range hi] at h
  exact ⟨hi, (Option.some.inj h).symm⟩
theorem inR_nat {n : Nat} (h : n < 2 ^ 62) : VI.inR (n : Int) = true := by
  unfold VI.inR
  rw [decide_eq_true (by omega), decide_eq_true (by omega)]; rfl
def kSr (Q : Po Src) : Po Rv := fun r e => Ok (srcR r e) Q
@[simp] theorem kSr_lst {Q : Po Src} : kSr Q (.fz (.list ds)) e = Q ⟨ds, []⟩ e := rfl
@[simp] theorem kSr_tup {Q : Po Src} : kSr Q (.fz (.tuple ds)) e = Q ⟨ds, []⟩ e := rfl
def okSr (o : Option (Option Sv)) (i : Nat) (e : Env) (Q : Po Src) : Prop := match o with
  | some (some (.fz (.list ds))) => Q ⟨ds, []⟩ e
  | some (some (.fz (.tuple ds))) => Q ⟨ds, []⟩ e
  | some (some (.lent ds)) => Q ⟨ds, []⟩ e
  | some (some (.own ds)) => Q ⟨ds, [i]⟩ (e.set i (some (.lent ds)))
  | _ => False
@[simp] theorem okSr_lst {Q : Po Src} : okSr (some (some (.fz (.list ds)))) i e Q = Q ⟨ds, []⟩ e := rfl
@[simp] theorem okSr_tup {Q : Po Src} : okSr (some (some (.fz (.tuple ds)))) i e Q = Q ⟨ds, []⟩ e := rfl
@[simp] theorem okSr_lent {Q : Po Src} : okSr (some (some (.lent ds))) i e Q = Q ⟨ds, []⟩ e := rfl
@[simp] theorem okSr_own {Q : Po Src} : okSr (some (some (.own ds))) i e Q = Q ⟨ds, [i]⟩ (e.set i (some (.lent ds))) := rfl
@[simp] theorem kSr_bor {Q : Po Src} : kSr Q (.bor i) e = okSr e[i]? i e Q := by
  unfold kSr srcR okSr
  simp only
  cases e[i]? with
  | none => rfl
  | some z => cases z with
    | none => rfl
    | some w => cases w with
      | fz d => cases d <;> rfl
      | _ => rfl
def kSc (Q : Po Src) : Po Rv := fun r e => kSr Q (calmR r) e
@[simp] theorem kSc_eq {Q : Po Src} : kSc Q r e = kSr Q (calmR r) e := rfl
@[simp] theorem ok_src {Q : Po Src} : Ok (srcE a e) Q = Ok (a e) (kSc Q) := by
  unfold srcE
  rw [ok_bind, ok_opd]; rfl
def kEn (Q : Po Src) : Po Src := fun z e => Q ⟨enumD z.items, z.lend⟩ e
@[simp] theorem kEn_eq {Q : Po Src} {z : Src} : kEn Q z e = Q ⟨enumD z.items, z.lend⟩ e := rfl
@[simp] theorem ok_enum {Q : Po Src} : Ok (enumE a e) Q = Ok (a e) (kSc (kEn Q)) := by
  unfold enumE
  rw [ok_bind, ok_opd]
  congr 1
  funext r e1
  show Ok ((srcR (calmR r) e1).bind _) Q = _
  rw [ok_bind]; rfl
def kZ4 (z : Src) (Q : Po Src) : Po Src := fun w e => Q ⟨zipD z.items w.items, w.lend ++ z.lend⟩ e
def kZ3 (s : Rv) (Q : Po Src) : Po Src := fun z e => kSr (kZ4 z Q) s e
def kZ2 (r : Rv) (Q : Po Src) : Po Rv := fun s e => kSr (kZ3 (calmR s) Q) r e
def kZ1 (b : Ev) (Q : Po Src) : Po Rv := fun r e => Ok (b e) (kZ2 (calmR r) Q)
@[simp] theorem kZ4_eq {z w : Src} {Q : Po Src} : kZ4 z Q w e = Q ⟨zipD z.items w.items, w.lend ++ z.lend⟩ e := rfl
@[simp] theorem kZ3_eq {z : Src} {Q : Po Src} : kZ3 r Q z e = kSr (kZ4 z Q) r e := rfl
@[simp] theorem kZ2_eq {s : Rv} {Q : Po Src} : kZ2 r Q s e = kSr (kZ3 (calmR s) Q) r e := rfl
@[simp] theorem kZ1_eq {Q : Po Src} : kZ1 b Q r e = Ok (b e) (kZ2 (calmR r) Q) := rfl
@[simp] theorem ok_zip {Q : Po Src} : Ok (zipE a b e) Q = Ok (a e) (kZ1 b Q) := by
  unfold zipE
  rw [ok_bind, ok_opd]
  congr 1
  funext r e1
  show Ok ((opd b e1).bind _) Q = _
  rw [ok_bind, ok_opd]
  show _ = Ok (b e1) _
  congr 1
  funext s e2
  show Ok ((srcR (calmR r) e2).bind _) Q = Ok (srcR (calmR r) e2) _
  rw [ok_bind]
  congr 1
  funext z e3
  show Ok ((srcR (calmR s) e3).bind _) Q = Ok (srcR (calmR s) e3) _
  rw [ok_bind]; rfl
def kRg (Q : Po Src) : Po Rv := fun r e => match calmR r with
  | .fz (.int j) => inR j = true ∧ Q ⟨intsOf 0 j.toNat, []⟩ e
  | _ => False
@[simp] theorem kRg_eq {Q : Po Src} : kRg Q (.fz (.int k)) e = (inR k = true ∧ Q ⟨intsOf 0 k.toNat, []⟩ e) := rfl
@[simp] theorem ok_rng1 {Q : Po Src} : Ok (rng1 a e) Q = Ok (a e) (kRg Q) := by
  unfold rng1
  rw [ok_bind, ok_opd]
  congr 1
  funext r e1
  show Ok (match calmR r with | .fz (.int j) => if inR j then .ok ⟨intsOf 0 j.toNat, []⟩ e1 else .no | _ => .no) Q = _
  unfold kRg
  cases calmR r with
  | fz d =>
    cases d <;> first | rfl | skip
    rename_i j
    by_cases h : inR j = true <;> simp [h]
  | fresh _ => rfl
  | bor _ => rfl
def kRh2 (z : Rv) (Q : Po Src) : Po Rv := fun r e => match z, calmR r with
  | .fz (.int i), .fz (.int j) => (inR i = true ∧ inR j = true) ∧ Q ⟨intsOf i (j - i).toNat, []⟩ e
  | _, _ => False
def kRh1 (b : Ev) (Q : Po Src) : Po Rv := fun r e => Ok (b e) (kRh2 (calmR r) Q)
@[simp] theorem kRh2_eq {Q : Po Src} : kRh2 (.fz (.int k)) Q (.fz (.int l)) e = ((inR k = true ∧ inR l = true) ∧ Q ⟨intsOf k (l - k).toNat, []⟩ e) := rfl
@[simp] theorem kRh1_eq {Q : Po Src} : kRh1 b Q r e = Ok (b e) (kRh2 (calmR r) Q) := rfl
@[simp] theorem ok_rng2 {Q : Po Src} : Ok (rng2 a b e) Q = Ok (a e) (kRh1 b Q) := by
  unfold rng2
  rw [ok_bind, ok_opd]
  congr 1
  funext r e1
  show Ok ((opd b e1).bind _) Q = Ok (b e1) _
  rw [ok_bind, ok_opd]
  congr 1
  funext s e2
  show Ok (match calmR r, calmR s with | .fz (.int i), .fz (.int j) => if inR i && inR j then .ok ⟨intsOf i (j - i).toNat, []⟩ e2 else .no | _, _ => .no) Q = kRh2 (calmR r) Q s e2
  unfold kRh2
  cases calmR r with
  | fz d =>
    cases d <;> first | rfl | skip
    rename_i i
    cases calmR s with
    | fz d =>
      cases d <;> first | rfl | skip
      rename_i j
      by_cases h : inR i = true <;> by_cases h2 : inR j = true <;> simp [h, h2]
    | fresh _ => rfl
    | bor _ => rfl
  | fresh _ => rfl
  | bor _ => rfl
def kFor (t : Tg) (b : St1) (Q : Po Fl) : Po Src := fun z e => Ok (turns t b z.items e) fun w e1 => Q w (unlend z.lend e1)
@[simp] theorem ok_for {it : Sem1 Src} {t : Tg} {b : St1} {Q : Po Fl} : Ok (forS it t b e) Q = Ok (it e) (kFor t b Q) := by
  unfold forS
  rw [ok_bind]
  congr 1
  funext z e1
  unfold kFor
  cases turns t b z.items e1 <;> rfl
/-- a turn: on, out of the loop, or out of the def -/
def TurnOk (t : Tg) (b : St1) (d : D) (e : Env) (I : Env → Prop) (B : Env → Prop) (R : Rv → Env → Prop) : Prop := match t.run d e with
  | none => False
  | some e1 => Ok (b e1) fun w e2 => match w with
    | .nx => I e2
    | .ct => I e2
    | .bk => B e2
    | .ret r => R r e2
def endT (I B : Env → Prop) (R : Rv → Env → Prop) : Po Fl := fun w e => match w with
    | .nx => I e
    | .ct => I e
    | .bk => B e
    | .ret r => R r e
@[simp] theorem endT_nx {I B : Env → Prop} {R : Rv → Env → Prop} : endT I B R .nx e = I e := rfl
@[simp] theorem endT_ct {I B : Env → Prop} {R : Rv → Env → Prop} : endT I B R .ct e = I e := rfl
@[simp] theorem endT_bk {I B : Env → Prop} {R : Rv → Env → Prop} : endT I B R .bk e = B e := rfl
@[simp] theorem endT_ret {I B : Env → Prop} {R : Rv → Env → Prop} : endT I B R (.ret r) e = R r e := rfl
/-- THE RULE for a loop: I i e ahead of the i-th turn -/
theorem turns_ok {t : Tg} {b : St1} {Q : Po Fl} : ∀ {items : List D} {e : Env} (I : Nat → Env → Prop), I 0 e →
    (∀ i d e, items[i]? = some d → I i e → ∃ e1, t.run d e = some e1 ∧ Ok (b e1) (endT (I (i + 1)) (fun e2 => Q .nx e2) (fun r e2 => Q (.ret r) e2))) → (∀ e, I items.length e → Q .nx e) → Ok (turns t b items e) Q
  | [], e, I, h0, _, hq => hq e h0
  | d :: ds, e, I, h0, hs, hq => by
    obtain ⟨e1, h1, h2⟩ := hs 0 d e rfl h0
    unfold turns
    rw [h1]
    show Ok ((b e1).bind _) Q
    rw [ok_bind]
    refine Ok.mono h2 fun w e2 h3 => ?_
    cases w with
    | nx => exact turns_ok (fun i => I (i + 1)) h3 (fun i d e hi => hs (i + 1) d e hi) hq
    | ct => exact turns_ok (fun i => I (i + 1)) h3 (fun i d e hi => hs (i + 1) d e hi) hq
    | bk => exact h3
    | ret r => exact h3
theorem for_ok {t : Tg} {b : St1} {Q : Po Fl} {z : Src} (I : Nat → Env → Prop) (h0 : I 0 e)
    (hs : ∀ i d e, z.items[i]? = some d → I i e → ∃ e1, t.run d e = some e1 ∧ Ok (b e1) (endT (I (i + 1)) (fun e2 => Q .nx (unlend z.lend e2)) (fun r e2 => Q (.ret r) (unlend z.lend e2)))) (hq : ∀ e, I z.items.length e → Q .nx (unlend z.lend e)) : kFor t b Q z e :=
  turns_ok I h0 hs hq
/-- THE RULE for a while: a measure -/
theorem while_ok {c : Sem1 Bool} {b : St1} {Q : Po Fl} : ∀ {n : Nat} {e : Env} (I : Env → Prop) (μ : Env → Nat), I e → μ e < n →
    (∀ e, I e → Ok (c e) fun w e1 => if w then Ok (b e1) (endT (fun e2 => I e2 ∧ μ e2 < μ e) (fun e2 => Q .nx e2) (fun r e2 => Q (.ret r) e2)) else Q .nx e1) → Ok (whS c b n e) Q
  | 0, e, I, μ, h0, hm, hs => by omega
  | n + 1, e, I, μ, h0, hm, hs => by
    unfold whS
    rw [ok_bind]
    refine Ok.mono (hs e h0) fun w e1 h1 => ?_
    cases w with
    | false => exact h1
    | true =>
      have h1 : Ok (b e1) (endT (fun e2 => I e2 ∧ μ e2 < μ e) (fun e2 => Q .nx e2) (fun r e2 => Q (.ret r) e2)) := h1
      show Ok ((b e1).bind _) Q
      rw [ok_bind]
      refine Ok.mono h1 fun w e2 h2 => ?_
      cases w with
      | nx => exact while_ok I μ h2.1 (by have := h2.2; omega) hs
      | ct => exact while_ok I μ h2.1 (by have := h2.2; omega) hs
      | bk => exact h2
      | ret r => exact h2
def kLc (t : Tg) (c : Sem1 Bool) (elt : Ev) (own : List Nat) (Q : Po Rv) : Po Src := fun z e => (z.items.length ≤ sizeLine ∧ (∀ i ∈ t.ix, i ∈ own)) ∧ ∃ ds e2, lcTurns t c elt own z.items (wipeE e own) = some (ds, e2) ∧ Q (.fresh ds) (unlend z.lend (backE e own e2))
@[simp] theorem ok_lc {it : Sem1 Src} {t : Tg} {c : Sem1 Bool} {elt : Ev} {own : List Nat} {Q : Po Rv} : Ok (lcS it t c elt own e) Q = Ok (it e) (kLc t c elt own Q) := by
  unfold lcS
  rw [ok_bind]
  congr 1
  funext z e1
  unfold kLc
  by_cases h : z.items.length ≤ sizeLine ∧ (∀ i ∈ t.ix, i ∈ own)
  · rw [if_pos h]
    cases hl : lcTurns t c elt own z.items (wipeE e1 own) with
    | none => exact propext ⟨fun q => q.elim, fun ⟨_, _, _, h1, _⟩ => by cases h1⟩
    | some w =>
      obtain ⟨ds, e2⟩ := w
      exact propext ⟨fun q => ⟨h, ds, e2, rfl, q⟩, fun ⟨_, _, _, h1, q⟩ => by cases h1; exact q⟩
  · rw [if_neg h]
    exact propext ⟨fun q => q.elim, fun q => absurd q.1 h⟩
/-- what a turn of a comprehension comes to -/
def endL (own : List Nat) (I : Env → Prop) : Po D := fun d e => I (wipeE e own)
/-- THE RULE: a comprehension without a test, item by item; P is told of each -/
theorem lc_ok {t : Tg} {elt : Ev} {own : List Nat} {P : D → D → Prop} : ∀ {items : List D} {e : Env} (I : Nat → Env → Prop), I 0 e →
    (∀ i d e, items[i]? = some d → I i e → ∃ e1, t.run d e = some e1 ∧ Ok (elt e1) (kFrz fun y e2 => P d y ∧ I (i + 1) (wipeE e2 own))) →
    ∃ ys e2, lcTurns t yesT elt own items e = some (ys, e2) ∧ Paired P items ys ∧ I items.length e2
  | [], e, I, h0, _ => ⟨[], e, rfl, .nil, h0⟩
  | d :: ds, e, I, h0, hs => by
    obtain ⟨e1, h1, h2⟩ := hs 0 d e rfl h0
    rw [← ok_toD] at h2
    obtain ⟨y, e2, h3, h4, h5⟩ := ok_get h2
    obtain ⟨ys, e3, k1, k2, k3⟩ := lc_ok (items := ds) (fun i => I (i + 1)) h5 (fun i d e hi => hs (i + 1) d e hi)
    refine ⟨y :: ys, e3, ?_, .cons h4 k2, k3⟩
    unfold lcTurns
    rw [h1]
    have hy : yesT e1 = .ok true e1 := rfl
    simp only [hy, h3, k1]
    rfl
/-- .. that changes nothing: a map -/
theorem lc_map {t : Tg} {elt : Ev} {own : List Nat} {items : List D} {e : Env} (h : D → D)
    (hs : ∀ d ∈ items, ∃ e1, t.run d e = some e1 ∧ Ok (elt e1) (kFrz fun y e2 => y = h d ∧ wipeE e2 own = e)) : lcTurns t yesT elt own items e = some (items.map h, e) := by
  obtain ⟨ys, e2, k1, k2, k3⟩ := lc_ok (t := t) (elt := elt) (own := own) (items := items) (e := e) (P := fun d y => y = h d) (fun _ e' => e' = e) rfl (fun i d e' hi he => by
    subst he
    obtain ⟨e1, h1, h2⟩ := hs d (List.mem_of_getElem? hi)
    exact ⟨e1, h1, h2⟩)
  subst k3
  have : ys = items.map h := by
    clear k1 hs
    induction k2 with
    | nil => rfl
    | cons a _ ih => rw [List.map_cons, ← ih, a]
  rw [k1, this]
end
end VI
set_option Elab.async false
set_option linter.all false
set_option maxRecDepth 100000
set_option maxHeartbeats 4000000
namespace VI
open PySem PySem.Spec PyProof.Rows L2
theorem lay_ints : ∀ ns : List Int, PyData.canLayAll0 (ns.map PyData.int) = true
  | [] => by simp only [List.map_nil, PyData.canLayAll0]
  | n :: ns => by
    rw [List.map_cons]
    simp only [PyData.canLayAll0, PyData.canLay0, Bool.true_and]
    exact lay_ints ns
theorem deep_ints : ∀ ns : List Int, PyData.depthAll (ns.map PyData.int) = 0
  | [] => by simp only [List.map_nil, PyData.depthAll]
  | n :: ns => by
    rw [List.map_cons]
    simp only [PyData.depthAll, PyData.depth, deep_ints ns]
    rfl
theorem eqv_ints : ∀ as bs : List Int, PyData.eqvAll (as.map PyData.int) (bs.map PyData.int) = decide (as = bs)
  | [], [] => by simp [PyData.eqvAll]
  | a :: as, [] => by simp [PyData.eqvAll]
  | [], b :: bs => by simp [PyData.eqvAll]
  | a :: as, b :: bs => by
    rw [List.map_cons, List.map_cons]
    simp only [PyData.eqvAll, PyData.eqv, eqv_ints as bs]
    by_cases h : a = b <;> by_cases h2 : as = bs <;> simp [h, h2]
@[simp] theorem sh_ints (ns : List Int) : SeqAt.shaped (.list (ns.map PyData.int)) = true := by
  unfold SeqAt.shaped
  simp only [PyData.canLay0, PyData.depth, lay_ints, deep_ints]
  rfl
@[simp] theorem sh_intsT (ns : List Int) : SeqAt.shaped (.tuple (ns.map PyData.int)) = true := by
  unfold SeqAt.shaped
  simp only [PyData.canLay0, PyData.depth, lay_ints, deep_ints]
  rfl
@[simp] theorem eqD_ints {as bs : List Int} : eqD (.list (as.map PyData.int)) (.list (bs.map PyData.int)) = some (.fz (.bool (decide (as = bs)))) := by
  unfold eqD
  rw [sh_ints, sh_ints]
  simp only [Bool.and_self, Bool.or_true, if_true, PyData.eqv, eqv_ints]
@[simp] theorem eqD_intsT {as bs : List Int} : eqD (.tuple (as.map PyData.int)) (.tuple (bs.map PyData.int)) = some (.fz (.bool (decide (as = bs)))) := by
  unfold eqD
  rw [sh_intsT, sh_intsT]
  simp only [Bool.and_self, Bool.or_true, if_true, PyData.eqv, eqv_ints]
@[simp] theorem neD_ints {as bs : List Int} : neD (.list (as.map PyData.int)) (.list (bs.map PyData.int)) = some (.fz (.bool (!decide (as = bs)))) := by
  unfold neD
  rw [sh_ints, sh_ints]
  simp only [Bool.and_self, Bool.or_true, if_true, PyData.eqv, eqv_ints]
@[simp] theorem neD_intsT {as bs : List Int} : neD (.tuple (as.map PyData.int)) (.tuple (bs.map PyData.int)) = some (.fz (.bool (!decide (as = bs)))) := by
  unfold neD
  rw [sh_intsT, sh_intsT]
  simp only [Bool.and_self, Bool.or_true, if_true, PyData.eqv, eqv_ints]
@[simp] theorem neD_ints0 {as : List Int} : neD (.list (as.map PyData.int)) (.list []) = some (.fz (.bool (!decide (as = [])))) := neD_ints (bs := [])
@[simp] theorem eqD_ints0 {as : List Int} : eqD (.list (as.map PyData.int)) (.list []) = some (.fz (.bool (decide (as = [])))) := eqD_ints (bs := [])
end VI
set_option Elab.async false
set_option linter.all false
set_option maxRecDepth 100000
set_option maxHeartbeats 4000000
namespace VI
open PySem PySem.Spec PyProof.Rows L2
mutual
/-- no dict; texts of true characters; numbers of at most B bits -/
def good (B : Nat) : D → Bool
  | .none => true
  | .bool _ => true
  | .int i => decide (i.natAbs < 2 ^ B)
  | .str x => PyData.strOk x
  | .list xs => goodAll B xs
  | .tuple xs => goodAll B xs
  | .dict _ => false
def goodAll (B : Nat) : List D → Bool
  | [] => true
  | x :: xs => good B x && goodAll B xs
end
theorem goodAll_iff {B : Nat} : ∀ {xs : List D}, goodAll B xs = true ↔ ∀ x ∈ xs, good B x = true
  | [] => by simp [goodAll]
  | x :: xs => by simp [goodAll, goodAll_iff (xs := xs)]
mutual
theorem good_mono {B B' : Nat} (hB : B ≤ B') : ∀ d : D, good B d = true → good B' d = true
  | .none, _ => by simp only [good]
  | .bool _, _ => by simp only [good]
  | .int i, h => by
    simp only [good, decide_eq_true_eq] at h ⊢
    exact Nat.lt_of_lt_of_le h (Nat.pow_le_pow_right (by omega) hB)
  | .str _, h => by simpa only [good] using h
  | .list xs, h => by simp only [good] at h ⊢; exact goodAll_mono hB xs h
  | .tuple xs, h => by simp only [good] at h ⊢; exact goodAll_mono hB xs h
  | .dict _, h => by simp [good] at h
theorem goodAll_mono {B B' : Nat} (hB : B ≤ B') : ∀ xs : List D, goodAll B xs = true → goodAll B' xs = true
  | [], _ => by simp only [goodAll]
  | x :: xs, h => by
    simp only [goodAll, Bool.and_eq_true] at h ⊢
    exact ⟨good_mono hB x h.1, goodAll_mono hB xs h.2⟩
end
mutual
theorem good_lay {B : Nat} : ∀ d : D, good B d = true → d.canLay0 = true
  | .none, _ => by simp only [PyData.canLay0]
  | .bool _, _ => by simp only [PyData.canLay0]
  | .int i, h => by simp only [PyData.canLay0]
  | .str _, h => by simpa only [good, PyData.canLay0] using h
  | .list xs, h => by simp only [good, PyData.canLay0] at h ⊢; exact goodAll_lay xs h
  | .tuple xs, h => by simp only [good, PyData.canLay0] at h ⊢; exact goodAll_lay xs h
  | .dict _, h => by simp [good] at h
theorem goodAll_lay {B : Nat} : ∀ xs : List D, goodAll B xs = true → PyData.canLayAll0 xs = true
  | [], _ => by simp only [PyData.canLayAll0]
  | x :: xs, h => by
    simp only [goodAll, PyData.canLayAll0, Bool.and_eq_true] at h ⊢
    exact ⟨good_lay x h.1, goodAll_lay xs h.2⟩
end
theorem log2_of_lt {n B : Nat} (hB : 0 < B) (h : n < 2 ^ B) : n.log2 < B := by
  by_cases h0 : n = 0
  · subst h0; exact hB
  · exact (Nat.log2_lt h0).mpr h
mutual
theorem good_short {B : Nat} (hB : 0 < B) : ∀ d : D, good B d = true → d.intsShort (B + 1) = true
  | .none, _ => by simp only [PyData.intsShort]
  | .bool _, _ => by simp only [PyData.intsShort]
  | .int i, h => by
    simp only [good, PyData.intsShort, decide_eq_true_eq] at h ⊢
    show (Str.ofString (toString i)).length ≤ _
    rw [PySem.ofString_length]
    exact int_text_length_le hB (log2_of_lt hB h)
  | .str _, h => by simp only [PyData.intsShort]
  | .list xs, h => by simp only [good, PyData.intsShort] at h ⊢; exact goodAll_short hB xs h
  | .tuple xs, h => by simp only [good, PyData.intsShort] at h ⊢; exact goodAll_short hB xs h
  | .dict _, h => by simp [good] at h
theorem goodAll_short {B : Nat} (hB : 0 < B) : ∀ xs : List D, goodAll B xs = true → PyData.intsShortAll (B + 1) xs = true
  | [], _ => by simp only [PyData.intsShortAll]
  | x :: xs, h => by
    simp only [goodAll, PyData.intsShortAll, Bool.and_eq_true] at h ⊢
    exact ⟨good_short hB x h.1, goodAll_short hB xs h.2⟩
end
mutual
theorem good_showable {B : Nat} (hB : 0 < B) (hB2 : B ≤ 1920) : ∀ d : D, good B d = true → d.showable = true
  | .none, _ => by simp only [PyData.showable]
  | .bool _, _ => by simp only [PyData.showable]
  | .int i, h => by
    simp only [good, PyData.showable, decide_eq_true_eq] at h ⊢
    exact Nat.lt_of_lt_of_le (log2_of_lt hB h) hB2
  | .str _, h => by simp only [PyData.showable]
  | .list xs, h => by simp only [good, PyData.showable] at h ⊢; exact goodAll_showable hB hB2 xs h
  | .tuple xs, h => by simp only [good, PyData.showable] at h ⊢; exact goodAll_showable hB hB2 xs h
  | .dict _, h => by simp [good] at h
theorem goodAll_showable {B : Nat} (hB : 0 < B) (hB2 : B ≤ 1920) : ∀ xs : List D, goodAll B xs = true → PyData.showableAll xs = true
  | [], _ => by simp only [PyData.showableAll]
  | x :: xs, h => by
    simp only [goodAll, PyData.showableAll, Bool.and_eq_true] at h ⊢
    exact ⟨good_showable hB hB2 x h.1, goodAll_showable hB hB2 xs h.2⟩
end
/-- a datum of such a size -/
structure Sz (B W N : Nat) (d : D) : Prop where
  good : good B d = true
  wt : d.weight ≤ W
  dp : d.depth ≤ N
theorem Sz.mono {B B' W W' N N' : Nat} {d : D} (h : Sz B W N d) (hB : B ≤ B') (hW : W ≤ W') (hN : N ≤ N') : Sz B' W' N' d := ⟨good_mono hB d h.good, Nat.le_trans h.wt hW, Nat.le_trans h.dp hN⟩
theorem Sz.shaped {B W N : Nat} {d : D} (h : Sz B W N d) (hN : N ≤ 64) : SeqAt.shaped d = true := by
  unfold SeqAt.shaped
  rw [good_lay d h.good, Bool.true_and]
  exact decide_eq_true (Nat.le_trans h.dp hN)
theorem Sz.repr {B W N : Nat} {d : D} (h : Sz B W N d) (hB : 7 ≤ B) (hB2 : B ≤ 1920) (hN : N ≤ 50) (hW : (B + 3) * W + B + 1 ≤ 16777216) : reprD d = some (.fz (.str d.shown)) := by
  unfold reprD
  have h1 := good_showable (by omega) hB2 d h.good
  have h2 := PyData.hasDict_of_canLay d (good_lay d h.good)
  have h3 : d.depth ≤ 50 := Nat.le_trans h.dp hN
  have h4 := PyData.shown_le (B + 1) (by omega) d (PyData.leavesShort_of_canLay0 _ d (good_lay d h.good) (good_short (by omega) d h.good))
  have h5 : (B + 1 + 2) * d.weight ≤ (B + 3) * W := Nat.mul_le_mul_left _ h.wt
  have h6 : d.shown.length ≤ sizeLine := by rw [sizeLine_eq]; omega
  rw [h1, h2, decide_eq_true h3, decide_eq_true h6]; rfl
theorem Sz.eqv {B W N : Nat} {d : D} (h : Sz B W N d) : PyData.eqv d d = true := SeqAt.eqv_refl d (good_lay d h.good)
theorem weight_int (i : Int) {B : Nat} (h : i.natAbs < 2 ^ B) : (PyData.int i).weight ≤ B := by
  simp only [PyData.weight]
  split
  · omega
  · rename_i h0
    have h0 : i.natAbs ≠ 0 := by
      have : i ≠ 0 := by simpa using h0
      omega
    exact (Nat.log2_lt h0).mpr h
theorem Sz.int {i : Int} {B N : Nat} (h : i.natAbs < 2 ^ B) : Sz B B N (.int i) := ⟨by simp only [VI.good, decide_eq_true_eq]; exact h, weight_int i h, by simp only [PyData.depth]; omega⟩
/-- the whole of a list -/
structure SzAll (B W N : Nat) (ds : List D) : Prop where
  good : goodAll B ds = true
  wt : PyData.weightAll ds ≤ W
  dp : PyData.depthAll ds ≤ N
theorem Sz.list {B W N : Nat} {ds : List D} (h : SzAll B W N ds) : Sz B W (N + 1) (.list ds) := ⟨by simp only [VI.good]; exact h.good, by simp only [PyData.weight]; exact h.wt, by simp only [PyData.depth]; exact Nat.succ_le_succ h.dp⟩
theorem Sz.tuple {B W N : Nat} {ds : List D} (h : SzAll B W N ds) : Sz B W (N + 1) (.tuple ds) := ⟨by simp only [VI.good]; exact h.good, by simp only [PyData.weight]; exact h.wt, by simp only [PyData.depth]; exact Nat.succ_le_succ h.dp⟩
theorem Sz.of_list {B W N : Nat} {ds : List D} (h : Sz B W N (.list ds)) : SzAll B W (N - 1) ds ∧ 0 < N := by
  have h1 := h.good; have h2 := h.wt; have h3 := h.dp
  simp only [VI.good, PyData.weight, PyData.depth] at h1 h2 h3
  exact ⟨⟨h1, h2, by omega⟩, by omega⟩
theorem Sz.of_tuple {B W N : Nat} {ds : List D} (h : Sz B W N (.tuple ds)) : SzAll B W (N - 1) ds ∧ 0 < N := by
  have h1 := h.good; have h2 := h.wt; have h3 := h.dp
  simp only [VI.good, PyData.weight, PyData.depth] at h1 h2 h3
  exact ⟨⟨h1, h2, by omega⟩, by omega⟩
theorem SzAll.nil {B W N : Nat} : SzAll B W N [] := ⟨by simp only [goodAll], by simp only [PyData.weightAll]; omega, by simp only [PyData.depthAll]; omega⟩
theorem SzAll.cons {B W W' N : Nat} {d : D} {ds : List D} (h : Sz B W N d) (r : SzAll B W' N ds) : SzAll B (W + 1 + W') N (d :: ds) :=
  ⟨by simp only [goodAll, h.good, r.good, Bool.and_self], by have := h.wt; have := r.wt; simp only [PyData.weightAll]; omega, by simp only [PyData.depthAll]; exact Nat.max_le.mpr ⟨h.dp, r.dp⟩⟩
theorem SzAll.mono {B B' W W' N N' : Nat} {d : List D} (h : SzAll B W N d) (hB : B ≤ B') (hW : W ≤ W') (hN : N ≤ N') : SzAll B' W' N' d := ⟨goodAll_mono hB d h.good, Nat.le_trans h.wt hW, Nat.le_trans h.dp hN⟩
theorem weightAll_append : ∀ xs ys : List D, PyData.weightAll (xs ++ ys) = PyData.weightAll xs + PyData.weightAll ys
  | [], ys => by simp only [List.nil_append, PyData.weightAll]; omega
  | x :: xs, ys => by simp only [List.cons_append, PyData.weightAll, weightAll_append xs ys]; omega
theorem depthAll_append : ∀ xs ys : List D, PyData.depthAll (xs ++ ys) = max (PyData.depthAll xs) (PyData.depthAll ys)
  | [], ys => by simp only [List.nil_append, PyData.depthAll]; omega
  | x :: xs, ys => by simp only [List.cons_append, PyData.depthAll, depthAll_append xs ys]; omega
theorem SzAll.append {B W W' N : Nat} {xs ys : List D} (h : SzAll B W N xs) (r : SzAll B W' N ys) : SzAll B (W + W') N (xs ++ ys) :=
  ⟨goodAll_iff.mpr fun x hx => by
      rcases List.mem_append.mp hx with hx | hx
      · exact goodAll_iff.mp h.good x hx
      · exact goodAll_iff.mp r.good x hx, by have := h.wt; have := r.wt; rw [weightAll_append]; omega, by rw [depthAll_append]; exact Nat.max_le.mpr ⟨h.dp, r.dp⟩⟩
theorem SzAll.split {B W N : Nat} {xs ys : List D} (h : SzAll B W N (xs ++ ys)) : SzAll B (PyData.weightAll xs) N xs ∧ SzAll B (PyData.weightAll ys) N ys ∧ PyData.weightAll xs + PyData.weightAll ys ≤ W := by
  have h2 := h.wt; have h3 := h.dp
  rw [weightAll_append] at h2
  rw [depthAll_append] at h3
  exact ⟨⟨goodAll_iff.mpr fun x hx => goodAll_iff.mp h.good x (List.mem_append_left _ hx), Nat.le_refl _, by omega⟩, ⟨goodAll_iff.mpr fun x hx => goodAll_iff.mp h.good x (List.mem_append_right _ hx), Nat.le_refl _, by omega⟩, h2⟩
theorem SzAll.take {B W N : Nat} {xs : List D} (h : SzAll B W N xs) (n : Nat) : SzAll B W N (xs.take n) := by
  rw [← List.take_append_drop n xs] at h
  obtain ⟨h1, h2, h3⟩ := h.split
  exact h1.mono (Nat.le_refl _) (by omega) (Nat.le_refl _)
theorem SzAll.drop {B W N : Nat} {xs : List D} (h : SzAll B W N xs) (n : Nat) : SzAll B W N (xs.drop n) := by
  rw [← List.take_append_drop n xs] at h
  obtain ⟨h1, h2, h3⟩ := h.split
  exact h2.mono (Nat.le_refl _) (by omega) (Nat.le_refl _)
theorem SzAll.cut {B W N : Nat} {xs : List D} (h : SzAll B W N xs) (lo hi : Option Int) : SzAll B W N (cutD xs lo hi) := (h.drop _).take _
/-- an item, and the list without it -/
theorem SzAll.at {B W N : Nat} {xs : List D} (h : SzAll B W N xs) {i : Nat} {d : D} (hi : xs[i]? = some d) : Sz B d.weight N d ∧ d.weight + 1 ≤ W ∧ ∀ {B' W' N' : Nat} {d' : D}, Sz B' W' N' d' → B ≤ B' → N ≤ N' → SzAll B' (W - d.weight + W') N' (xs.set i d') := by
  have hlt := (List.getElem?_eq_some_iff.mp hi).1
  have hd : xs = xs.take i ++ d :: xs.drop (i + 1) := by
    have h1 := List.take_append_drop i xs
    rw [List.drop_eq_getElem_cons hlt] at h1
    have h2 := (List.getElem?_eq_some_iff.mp hi).2
    rw [h2] at h1
    exact h1.symm
  have h' := h
  rw [hd] at h'
  obtain ⟨h1, h2, h3⟩ := h'.split
  have g2 := h2.good; have d2 := h2.dp
  simp only [goodAll, Bool.and_eq_true, PyData.depthAll] at g2 d2
  simp only [PyData.weightAll] at h3
  refine ⟨⟨g2.1, Nat.le_refl _, by omega⟩, by omega, fun {B' W' N' d'} z hB hN => ?_⟩
  have e : xs.set i d' = xs.take i ++ d' :: xs.drop (i + 1) := List.set_eq_take_append_cons_drop .. |>.trans (by rw [if_pos hlt])
  rw [e]
  have r2 : SzAll B' (PyData.weightAll (xs.drop (i + 1))) N' (xs.drop (i + 1)) := ⟨goodAll_mono hB _ g2.2, Nat.le_refl _, by omega⟩
  exact (((h1.mono hB (Nat.le_refl _) hN).append (.cons z r2))).mono (Nat.le_refl _) (by omega) (Nat.le_refl _)
theorem SzAll.ints {B N : Nat} : ∀ {ns : List Int}, (∀ n ∈ ns, n.natAbs < 2 ^ B) → SzAll B ((B + 1) * ns.length) N (ns.map .int)
  | [], _ => .nil
  | n :: ns, h => (SzAll.cons (Sz.int (h n List.mem_cons_self)) (SzAll.ints fun m hm => h m (List.mem_cons_of_mem _ hm))).mono (Nat.le_refl _) (by rw [List.length_cons, Nat.mul_add, Nat.mul_one]; omega) (Nat.le_refl _)
theorem len_le_weight : ∀ ds : List D, ds.length ≤ PyData.weightAll ds
  | [] => by simp [PyData.weightAll]
  | d :: ds => by have := len_le_weight ds; simp only [List.length_cons, PyData.weightAll]; omega
theorem cut_len (ds : List D) (lo hi : Option Int) : (VI.cutD ds lo hi).length ≤ ds.length := by
  unfold VI.cutD
  rw [List.length_take, List.length_drop]; omega
theorem ixN_nat {n i : Nat} (h : i < n) : ixN n (i : Int) = some i := by
  unfold ixN
  rw [if_pos (by omega), if_pos (by omega)]; rfl
end VI
set_option Elab.async false
set_option linter.all false
set_option maxRecDepth 100000
set_option maxHeartbeats 4000000
namespace VI
open PySem PySem.Spec PyProof.Rows L2
theorem mulD_rep (x : D) {k : Nat} (h2 : k ≤ 1000) : mulD (.tuple [x]) (.int k) = some (.fz (.tuple (List.replicate k x))) := by
  show (if -1000 ≤ (k : Int) ∧ (k : Int) ≤ 1000 ∧ [x].length ≤ 1000 then some (Rv.fz (.tuple (List.replicate (k : Int).toNat [x]).flatten)) else none) = _
  rw [if_pos ⟨by omega, by omega, by simp⟩, Int.toNat_natCast, List.flatten_replicate_singleton]
theorem mulD_repL (x : D) {k : Nat} (h2 : k ≤ 1000) : mulD (.list [x]) (.int k) = some (.fresh (List.replicate k x)) := by
  show (if -1000 ≤ (k : Int) ∧ (k : Int) ≤ 1000 ∧ [x].length ≤ 1000 then some (Rv.fresh (List.replicate (k : Int).toNat [x]).flatten) else none) = _
  rw [if_pos ⟨by omega, by omega, by simp⟩, Int.toNat_natCast, List.flatten_replicate_singleton]
theorem mulD_0 (xs : List D) {k : Nat} (h2 : k ≤ 1000) (h : xs.length ≤ 1000) : mulD (.tuple xs) (.int k) = some (.fz (.tuple (List.replicate k xs).flatten)) := by
  show (if -1000 ≤ (k : Int) ∧ (k : Int) ≤ 1000 ∧ xs.length ≤ 1000 then some (Rv.fz (.tuple (List.replicate (k : Int).toNat xs).flatten)) else none) = _
  rw [if_pos ⟨by omega, by omega, h⟩, Int.toNat_natCast]
theorem SzAll.rep {B W N : Nat} {x : D} (h : Sz B W N x) : ∀ k : Nat, SzAll B ((W + 1) * k) N (List.replicate k x)
  | 0 => .nil
  | k + 1 => by
    rw [List.replicate_succ]
    exact (SzAll.cons h (SzAll.rep h k)).mono (Nat.le_refl _) (by rw [Nat.mul_add, Nat.mul_one]; omega) (Nat.le_refl _)
section
variable {e : Env} {d : D} {ds : List D}
/-- a slot that may be stored to -/
def Fr : Option Sv → Prop := fun o => match o with
  | some (.lent _) => False
  | some (.io _) => False
  | some (.tr _ _) => False
  | _ => True
@[simp] theorem Fr_none : Fr none = True := rfl
@[simp] theorem Fr_fz : Fr (some (.fz d)) = True := rfl
@[simp] theorem Fr_own : Fr (some (.own ds)) = True := rfl
theorem okP_fr {o : Option Sv} (h : Fr o) {i : Nat} {z : Sv} {Q : Po Fl} : okP (some o) i z e Q = Q .nx (e.set i (some z)) := by
  cases o with
  | none => rfl
  | some x => cases x <;> first | rfl | exact h.elim
theorem put_fr {o : Option Sv} {i : Nat} (h : e[i]? = some o) (f : Fr o) : put i d e = some (e.set i (some (.fz d))) := by
  have : freeAt e i = true := by
    unfold freeAt
    rw [h]
    cases o with
    | none => rfl
    | some x => cases x <;> first | rfl | exact f.elim
  unfold put
  rw [this]; rfl
theorem tgV_fr {o : Option Sv} {i : Nat} (h : e[i]? = some o) (f : Fr o) : (tgV i).run d e = some (e.set i (some (.fz d))) := put_fr h f
theorem tgT2_fr {o p : Option Sv} {i j : Nat} {x y : D} (h : e[i]? = some o) (f : Fr o) (h2 : (e.set i (some (.fz x)))[j]? = some p) (f2 : Fr p) : (tgT [tgV i, tgV j]).run (.tuple [x, y]) e = some ((e.set i (some (.fz x))).set j (some (.fz y))) := by
  have h1 := put_fr (d := x) h f
  have h3 := put_fr (d := y) h2 f2
  simp [tgT, tgRun, tgV, h1, h3]
/-- what a block's own name is behind it -/
def bkO : Option Sv → Option Sv := fun o => match o with
  | some (.fz d) => some (.fz d)
  | _ => none
@[simp] theorem Fr_bkO {o : Option Sv} : Fr (bkO o) = True := by
  cases o with
  | none => rfl
  | some x => cases x <;> rfl
@[simp] theorem bkO_none : bkO none = none := rfl
@[simp] theorem bkO_fz : bkO (some (.fz d)) = some (.fz d) := rfl
@[simp] theorem bkO_own : bkO (some (.own ds)) = none := rfl
def bakS (o : Option (Option Sv)) (i : Nat) (e : Env) : Env := match o with
  | some o => e.set i (bkO o)
  | none => e.set i none
@[simp] theorem bkS_some {o : Option Sv} {i : Nat} : bakS (some o) i e = e.set i (bkO o) := rfl
@[simp] theorem backE_nil {e0 : Env} : backE e0 [] e = e := rfl
@[simp] theorem backE_cons {e0 : Env} {i : Nat} {is : List Nat} : backE e0 (i :: is) e = bakS e0[i]? i (backE e0 is e) := by
  show (match e0[i]? with | some (some (.fz d)) => (backE e0 is e).set i (some (.fz d)) | _ => (backE e0 is e).set i none) = _
  cases e0[i]? with
  | none => rfl
  | some o => cases o with
    | none => rfl
    | some x => cases x <;> rfl
@[simp] theorem wipeE_nil : wipeE e [] = e := rfl
@[simp] theorem wipeE_cons {i : Nat} {is : List Nat} : wipeE e (i :: is) = (wipeE e is).set i none := rfl
@[simp] theorem unlend_is0 : unlend [] e = e := rfl
def unlS (is : List Nat) (o : Option (Option Sv)) (i : Nat) (e : Env) : Env := match o with
  | some (some (.lent ds)) => unlend is (e.set i (some (.own ds)))
  | _ => unlend is e
@[simp] theorem unS_lent {is : List Nat} {i : Nat} : unlS is (some (some (.lent ds))) i e = unlend is (e.set i (some (.own ds))) := rfl
@[simp] theorem unlend_is {i : Nat} {is : List Nat} : unlend (i :: is) e = unlS is e[i]? i e := by
  show (match e[i]? with | some (some (.lent ds)) => unlend is (e.set i (some (.own ds))) | _ => unlend is e) = _
  unfold unlS
  cases e[i]? with
  | none => rfl
  | some o => cases o with
    | none => rfl
    | some x => cases x <;> rfl
def kCy (own : List Nat) (J : List D → Env → Prop) (ys : List D) : Po D := fun y e => J (ys ++ [y]) (wipeE e own)
@[simp] theorem kCy_eq {own : List Nat} {J : List D → Env → Prop} {ys : List D} : kCy own J ys d e = J (ys ++ [d]) (wipeE e own) := rfl
def kCt (elt : Ev) (own : List Nat) (J : List D → Env → Prop) (ys : List D) : Po Bool := fun w e => if w then Ok (elt e) (kFrz (kCy own J ys)) else J ys (wipeE e own)
@[simp] theorem kCt_t {elt : Ev} {own : List Nat} {J : List D → Env → Prop} {ys : List D} : kCt elt own J ys true e = Ok (elt e) (kFrz (kCy own J ys)) := rfl
@[simp] theorem kCt_f {elt : Ev} {own : List Nat} {J : List D → Env → Prop} {ys : List D} : kCt elt own J ys false e = J ys (wipeE e own) := rfl
@[simp] theorem kCt_d {m : Prop} [Decidable m] {elt : Ev} {own : List Nat} {J : List D → Env → Prop} {ys : List D} : kCt elt own J ys (decide m) e = if m then Ok (elt e) (kFrz (kCy own J ys)) else J ys (wipeE e own) := by by_cases h : m <;> simp [h, kCt]
theorem lcTurns_ok {t : Tg} {c : Sem1 Bool} {elt : Ev} {own : List Nat} : ∀ {items : List D} {e : Env} {ys : List D} (J : Nat → List D → Env → Prop), J 0 ys e →
    (∀ i d ys e, items[i]? = some d → J i ys e → ∃ e1, t.run d e = some e1 ∧ Ok (c e1) (kCt elt own (J (i + 1)) ys)) →
    ∃ zs e2, lcTurns t c elt own items e = some (zs, e2) ∧ J items.length (ys ++ zs) e2
  | [], e, ys, J, h0, _ => ⟨[], e, rfl, by rw [List.append_nil]; exact h0⟩
  | d :: ds, e, ys, J, h0, hs => by
    obtain ⟨e1, h1, h2⟩ := hs 0 d ys e rfl h0
    obtain ⟨w, e2, h3, h4⟩ := ok_get h2
    unfold lcTurns
    rw [h1]
    simp only [h3]
    cases w with
    | false =>
      obtain ⟨zs, e3, k1, k2⟩ := lcTurns_ok (items := ds) (fun i => J (i + 1)) h4 (fun i d ys e hi => hs (i + 1) d ys e hi)
      exact ⟨zs, e3, k1, k2⟩
    | true =>
      have h4 : Ok (elt e2) (kFrz (kCy own (J (0 + 1)) ys)) := h4
      rw [← ok_toD] at h4
      obtain ⟨y, e3, h5, h6⟩ := ok_get h4
      obtain ⟨zs, e4, k1, k2⟩ := lcTurns_ok (items := ds) (fun i => J (i + 1)) h6 (fun i d ys e hi => hs (i + 1) d ys e hi)
      refine ⟨y :: zs, e4, ?_, by rw [List.append_assoc] at k2; exact k2⟩
      simp only [h5, k1]
      rfl
/-- THE RULE for a comprehension: J i ys e ahead of the i-th item, ys found so far -/
theorem lcG_ok {t : Tg} {c : Sem1 Bool} {elt : Ev} {own : List Nat} {Q : Po Rv} {z : Src} (J : Nat → List D → Env → Prop) (hl : z.items.length ≤ sizeLine) (hi : ∀ i ∈ t.ix, i ∈ own) (h0 : J 0 [] (wipeE e own))
    (hs : ∀ i d ys e, z.items[i]? = some d → J i ys e → ∃ e1, t.run d e = some e1 ∧ Ok (c e1) (kCt elt own (J (i + 1)) ys))
    (hq : ∀ ys e2, J z.items.length ys e2 → Q (.fresh ys) (unlend z.lend (backE e own e2))) : kLc t c elt own Q z e := by
  obtain ⟨zs, e2, k1, k2⟩ := lcTurns_ok J h0 hs
  exact ⟨⟨hl, hi⟩, zs, e2, k1, hq _ _ k2⟩
@[simp] theorem ok_yes' {elt : Ev} {own : List Nat} {J : List D → Env → Prop} {ys : List D} : Ok (yesT e) (kCt elt own J ys) = Ok (elt e) (kFrz (kCy own J ys)) := rfl
/-- .. of a map -/
theorem lcM_ok {t : Tg} {elt : Ev} {own : List Nat} {Q : Po Rv} {z : Src} (h : D → D) (hl : z.items.length ≤ sizeLine) (hi : ∀ i ∈ t.ix, i ∈ own)
    (hs : ∀ d ∈ z.items, ∃ e1, t.run d (wipeE e own) = some e1 ∧ Ok (elt e1) (kFrz fun y e2 => y = h d ∧ wipeE e2 own = wipeE e own))
    (hq : Q (.fresh (z.items.map h)) (unlend z.lend (backE e own (wipeE e own)))) : kLc t yesT elt own Q z e :=
  ⟨⟨hl, hi⟩, _, _, lc_map h hs, hq⟩
/-- .. of a map under a test -/
theorem lcF_ok {t : Tg} {c : Sem1 Bool} {elt : Ev} {own : List Nat} {Q : Po Rv} {z : Src} (p : D → Bool) (h : D → D) (hl : z.items.length ≤ sizeLine) (hi : ∀ i ∈ t.ix, i ∈ own)
    (hs : ∀ d ∈ z.items, ∃ e1, t.run d (wipeE e own) = some e1 ∧ Ok (c e1) (fun w e2 => w = p d ∧ if p d then Ok (elt e2) (kFrz fun y e3 => y = h d ∧ wipeE e3 own = wipeE e own) else wipeE e2 own = wipeE e own))
    (hq : Q (.fresh ((z.items.filter p).map h)) (unlend z.lend (backE e own (wipeE e own)))) : kLc t c elt own Q z e := by
  refine lcG_ok (fun i ys e2 => ys = ((z.items.take i).filter p).map h ∧ e2 = wipeE e own) hl hi ⟨rfl, rfl⟩ ?_ ?_
  · rintro i d ys e2 hd ⟨rfl, rfl⟩
    obtain ⟨e1, h1, h2⟩ := hs d (List.mem_of_getElem? hd)
    refine ⟨e1, h1, Ok.mono h2 ?_⟩
    rintro w e2 ⟨rfl, h3⟩
    have ht : z.items.take (i + 1) = z.items.take i ++ [d] := by rw [List.take_succ, hd]; rfl
    cases hp : p d with
    | false =>
      rw [hp] at h3
      refine ⟨?_, h3⟩
      rw [ht, List.filter_append, List.map_append]
      simp [hp]
    | true =>
      rw [hp] at h3
      have h3 : Ok (elt e2) (kFrz fun y e3 => y = h d ∧ wipeE e3 own = wipeE e own) := h3
      show Ok (elt e2) _
      rw [← ok_toD] at h3 ⊢
      refine Ok.mono h3 ?_
      rintro y e3 ⟨rfl, h4⟩
      refine ⟨?_, h4⟩
      rw [ht, List.filter_append, List.map_append]
      simp [hp]
  · rintro ys e2 ⟨rfl, rfl⟩
    rw [List.take_length]
    exact hq
def kBrk (l : List Nat) (Q : Po Fl) : Env → Prop := fun e => Q .nx (unlend l e)
def kRtn (l : List Nat) (Q : Po Fl) : Rv → Env → Prop := fun r e => Q (.ret r) (unlend l e)
@[simp] theorem kBrk_eq {l : List Nat} {Q : Po Fl} : kBrk l Q e = Q .nx (unlend l e) := rfl
@[simp] theorem kRtn_eq {l : List Nat} {Q : Po Fl} {r : Rv} : kRtn l Q r e = Q (.ret r) (unlend l e) := rfl
theorem for_ok2 {t : Tg} {b : St1} {Q : Po Fl} {z : Src} (I : Nat → Env → Prop) (h0 : I 0 e)
    (hs : ∀ i d e, z.items[i]? = some d → I i e → ∃ e1, t.run d e = some e1 ∧ Ok (b e1) (endT (I (i + 1)) (kBrk z.lend Q) (kRtn z.lend Q))) (hq : ∀ e, I z.items.length e → Q .nx (unlend z.lend e)) : kFor t b Q z e :=
  for_ok I h0 hs hq
abbrev noB : Env → Prop := fun _ => False
abbrev noR : Rv → Env → Prop := fun _ _ => False
theorem endT_mono {I I' B : Env → Prop} {R : Rv → Env → Prop} (h : ∀ e, I e → I' e) : ∀ w e, endT I noB noR w e → endT I' B R w e := fun w e q => by
  cases w with
  | nx => exact h e q
  | ct => exact h e q
  | bk => exact q.elim
  | ret r => exact q.elim
/-- a loop that is not left in the middle -/
theorem for_okN {t : Tg} {b : St1} {Q : Po Fl} {z : Src} (I : Nat → Env → Prop) (h0 : I 0 e)
    (hs : ∀ i d e, z.items[i]? = some d → I i e → ∃ e1, t.run d e = some e1 ∧ Ok (b e1) (endT (I (i + 1)) noB noR)) (hq : ∀ e, I z.items.length e → Q .nx (unlend z.lend e)) : kFor t b Q z e :=
  for_ok2 I h0 (fun i d e hi h => by
    obtain ⟨e1, h1, h2⟩ := hs i d e hi h
    exact ⟨e1, h1, Ok.mono h2 (endT_mono fun _ h => h)⟩) hq
def kWh (b : St1) (J : Env → Prop) (E : Env → Prop) : Po Bool := fun w e => if w then Ok (b e) (endT J noB noR) else E e
@[simp] theorem kWh_t {b : St1} {J E : Env → Prop} : kWh b J E true e = Ok (b e) (endT J noB noR) := rfl
@[simp] theorem kWh_f {b : St1} {J E : Env → Prop} : kWh b J E false e = E e := rfl
@[simp] theorem kWh_d {m : Prop} [Decidable m] {b : St1} {J E : Env → Prop} : kWh b J E (decide m) e = if m then Ok (b e) (endT J noB noR) else E e := by by_cases h : m <;> simp [h, kWh]
@[simp] theorem kWh_nd {m : Prop} [Decidable m] {b : St1} {J E : Env → Prop} : kWh b J E (!decide m) e = if m then E e else Ok (b e) (endT J noB noR) := by by_cases h : m <;> simp [h, kWh]
/-- a while that is not left in the middle: I m e, where m is made less -/
theorem while_okN {c : Sem1 Bool} {b : St1} {Q : Po Fl} : ∀ {n : Nat} {e : Env} (I : Nat → Env → Prop) (E : Env → Prop) (m : Nat), I m e → m < n → (∀ m e, I m e → Ok (c e) (kWh b (fun e2 => ∃ m', m' < m ∧ I m' e2) E)) → (∀ e, E e → Q .nx e) → Ok (whS c b n e) Q
  | 0, e, I, E, m, h0, hm, hs, hq => by omega
  | n + 1, e, I, E, m, h0, hm, hs, hq => by
    unfold whS
    rw [ok_bind]
    refine Ok.mono (hs m e h0) fun w e1 h1 => ?_
    cases w with
    | false => exact hq _ h1
    | true =>
      have h1 : Ok (b e1) (endT (fun e2 => ∃ m', m' < m ∧ I m' e2) noB noR) := h1
      show Ok ((b e1).bind _) Q
      rw [ok_bind]
      refine Ok.mono h1 fun w e2 h2 => ?_
      cases w with
      | nx =>
        obtain ⟨m', h3, h4⟩ := h2
        exact while_okN I E m' h4 (by omega) hs hq
      | ct =>
        obtain ⟨m', h3, h4⟩ := h2
        exact while_okN I E m' h4 (by omega) hs hq
      | bk => exact h2.elim
      | ret r => exact h2.elim
end
theorem ixLast {n : Nat} : ixN (n + 1) (-1) = some n := by
  unfold ixN
  rw [if_neg (by omega), if_pos (by omega)]
  congr 1; omega
theorem atLast {l : List D} {x : D} : atI (l ++ [x]) (-1) = some x := by
  unfold atI
  rw [List.length_append, List.length_singleton, ixLast]
  simp
theorem setLast {α : Type} {l : List α} {x y : α} : (l ++ [x]).set l.length y = l ++ [y] := by
  rw [List.set_append_right _ _ (Nat.le_refl _), Nat.sub_self]; rfl
end VI
set_option Elab.async false
set_option linter.all false
set_option maxRecDepth 100000
set_option maxHeartbeats 4000000
namespace VI
open PySem PySem.Spec PyProof.Rows L2
@[simp] theorem szE : sizeLine = 16777216 := sizeLine_eq
@[simp] theorem atI_0 {x : D} {xs : List D} : atI (x :: xs) 0 = some x := by
  unfold atI
  rw [show ixN (x :: xs).length 0 = some 0 from ixN_nat (by simp)]; rfl
@[simp] theorem atI_1 {x y : D} {xs : List D} : atI (x :: y :: xs) 1 = some y := by
  unfold atI
  rw [show ixN (x :: y :: xs).length 1 = some 1 from ixN_nat (i := 1) (by simp)]; rfl
@[simp] theorem atI_2 {x y z : D} {xs : List D} : atI (x :: y :: z :: xs) 2 = some z := by
  unfold atI
  rw [show ixN (x :: y :: z :: xs).length 2 = some 2 from ixN_nat (i := 2) (by simp)]; rfl
section
variable {e : Env} {d : D} {ds : List D} {i : Nat} {o : Option Sv}
def putP (o : Option (Option Sv)) (i : Nat) (d : D) (e : Env) : Option Env := match o with
  | some (some (.lent _)) => none
  | some (some (.io _)) => none
  | some (some (.tr _ _)) => none
  | some _ => some (e.set i (some (.fz d)))
  | none => none
@[simp] theorem putP_none : putP (some none) i d e = some (e.set i (some (.fz d))) := rfl
@[simp] theorem putP_fz {d' : D} : putP (some (some (.fz d'))) i d e = some (e.set i (some (.fz d))) := rfl
@[simp] theorem putP_own : putP (some (some (.own ds))) i d e = some (e.set i (some (.fz d))) := rfl
theorem putP_fr (h : Fr o) : putP (some o) i d e = some (e.set i (some (.fz d))) := by
  cases o with
  | none => rfl
  | some x => cases x <;> first | rfl | exact h.elim
@[simp] theorem put_P : put i d e = putP e[i]? i d e := by
  unfold put freeAt putP
  cases e[i]? with
  | none => rfl
  | some o => cases o with
    | none => rfl
    | some x => cases x <;> rfl
@[simp] theorem tgV_run : (tgV i).run d e = put i d e := rfl
@[simp] theorem tgT_run {ts : List Tg} : (tgT ts).run (.tuple ds) e = tgRun ts ds e := rfl
@[simp] theorem tgT_runL {ts : List Tg} : (tgT ts).run (.list ds) e = tgRun ts ds e := rfl
@[simp] theorem tgRun_nil : tgRun [] [] e = some e := rfl
@[simp] theorem tgRun_cons {t : Tg} {ts : List Tg} : tgRun (t :: ts) (d :: ds) e = (t.run d e).bind fun e1 => tgRun ts ds e1 := rfl
def okTg (o : Option Env) (Q : Po Fl) : Prop := match o with
  | none => False
  | some e1 => Q .nx e1
@[simp] theorem okTg_some {Q : Po Fl} : okTg (some e) Q = Q .nx e := rfl
def kTg (t : Tg) (Q : Po Fl) : Po D := fun d e => okTg (t.run d e) Q
@[simp] theorem kTg_eq {t : Tg} {Q : Po Fl} : kTg t Q d e = okTg (t.run d e) Q := rfl
@[simp] theorem ok_asgT {t : Tg} {a : Ev} {Q : Po Fl} : Ok (asgTS t a e) Q = Ok (a e) (kFrz (kTg t Q)) := by
  unfold asgTS
  rw [ok_bind, ok_toD]
  congr 2
  funext d e1
  show _ = okTg (t.run d e1) Q
  cases t.run d e1 <;> rfl
end
@[simp] theorem fmPop_eq {xs : List D} : fmPop xs [] = (xs.getLast?).map fun d => (d, xs.dropLast) := rfl
/-- f writes plain values as data of depth at most k; == tells them apart -/
structure Enc {α : Type} [DecidableEq α] (k : Nat) (f : α → D) : Prop where
  eqv : ∀ a b, PyData.eqv (f a) (f b) = decide (a = b)
  lay : ∀ a, (f a).canLay0 = true
  dp : ∀ a, (f a).depth ≤ k
section
variable {α β : Type} [DecidableEq α] [DecidableEq β] {k l : Nat} {f : α → D} {g : β → D}
theorem Enc.mono (h : Enc k f) (e : k ≤ l) : Enc l f := ⟨h.eqv, h.lay, fun a => Nat.le_trans (h.dp a) e⟩
theorem Enc.shaped (h : Enc k f) (hk : k ≤ 64) (a : α) : SeqAt.shaped (f a) = true := by
  unfold SeqAt.shaped
  rw [h.lay a, Bool.true_and]
  exact decide_eq_true (Nat.le_trans (h.dp a) hk)
theorem Enc.eqvAll (h : Enc k f) : ∀ as bs : List α, PyData.eqvAll (as.map f) (bs.map f) = decide (as = bs)
  | [], [] => by simp [PyData.eqvAll]
  | a :: as, [] => by simp [PyData.eqvAll]
  | [], b :: bs => by simp [PyData.eqvAll]
  | a :: as, b :: bs => by
    rw [List.map_cons, List.map_cons]
    simp only [PyData.eqvAll, h.eqv, h.eqvAll as bs]
    by_cases h1 : a = b <;> by_cases h2 : as = bs <;> simp [h1, h2]
theorem Enc.layAll (h : Enc k f) : ∀ as : List α, PyData.canLayAll0 (as.map f) = true
  | [] => by simp only [List.map_nil, PyData.canLayAll0]
  | a :: as => by
    rw [List.map_cons]
    simp only [PyData.canLayAll0, h.lay, h.layAll as, Bool.and_self]
theorem Enc.dpAll (h : Enc k f) : ∀ as : List α, PyData.depthAll (as.map f) ≤ k
  | [] => by simp only [List.map_nil, PyData.depthAll]; omega
  | a :: as => by
    rw [List.map_cons]
    simp only [PyData.depthAll]
    exact Nat.max_le.mpr ⟨h.dp a, h.dpAll as⟩
theorem Enc.list (h : Enc k f) : Enc (k + 1) (fun as : List α => PyData.list (as.map f)) where
  eqv a b := by simp only [PyData.eqv]; exact h.eqvAll a b
  lay a := by simp only [PyData.canLay0]; exact h.layAll a
  dp a := by simp only [PyData.depth]; exact Nat.succ_le_succ (h.dpAll a)
theorem Enc.tuple (h : Enc k f) : Enc (k + 1) (fun as : List α => PyData.tuple (as.map f)) where
  eqv a b := by simp only [PyData.eqv]; exact h.eqvAll a b
  lay a := by simp only [PyData.canLay0]; exact h.layAll a
  dp a := by simp only [PyData.depth]; exact Nat.succ_le_succ (h.dpAll a)
theorem Enc.pair (h : Enc k f) (h' : Enc k g) : Enc (k + 1) (fun p : α × β => PyData.tuple [f p.1, g p.2]) where
  eqv a b := by
    obtain ⟨a1, a2⟩ := a
    obtain ⟨b1, b2⟩ := b
    simp only [PyData.eqv, PyData.eqvAll, h.eqv, h'.eqv]
    by_cases h1 : a1 = b1 <;> by_cases h2 : a2 = b2 <;> simp [h1, h2]
  lay a := by simp only [PyData.canLay0, PyData.canLayAll0, h.lay, h'.lay, Bool.and_self]
  dp a := by simp only [PyData.depth, PyData.depthAll]; have := h.dp a.1; have := h'.dp a.2; omega
theorem Enc.eqD (h : Enc k f) (hk : k ≤ 64) (a b : α) : VI.eqD (f a) (f b) = some (.fz (.bool (decide (a = b)))) := by
  unfold VI.eqD
  rw [h.shaped hk, h.shaped hk, Bool.and_self, Bool.or_true, if_pos rfl, h.eqv]
theorem Enc.neD (h : Enc k f) (hk : k ≤ 64) (a b : α) : VI.neD (f a) (f b) = some (.fz (.bool (!decide (a = b)))) := by
  unfold VI.neD
  rw [h.shaped hk, h.shaped hk, Bool.and_self, Bool.or_true, if_pos rfl, h.eqv]
end
theorem enc_int : Enc 0 PyData.int := ⟨fun a b => by simp only [PyData.eqv]; rfl, fun a => by simp only [PyData.canLay0], fun a => by simp only [PyData.depth]; omega⟩
/-- a number from 0 on -/
abbrev nI : Nat → D := fun x => .int (x : Int)
theorem enc_nat : Enc 0 nI := ⟨fun a b => by
  simp only [PyData.eqv]
  by_cases h : a = b
  · subst h; simp
  · have : ¬ ((a : Int) = (b : Int)) := by omega
    simp [h, this], fun a => by simp only [PyData.canLay0], fun a => by simp only [PyData.depth]; omega⟩
/-- two numbers -/
abbrev nP : Nat × Nat → D := fun p => .tuple [.int (p.1 : Int), .int (p.2 : Int)]
theorem enc_pair : Enc 1 nP := enc_nat.pair enc_nat
@[simp] theorem eqD_rowT {a b : List Nat} : eqD (.tuple (a.map nI)) (.tuple (b.map nI)) = some (.fz (.bool (decide (a = b)))) := enc_nat.tuple.eqD (by omega) a b
@[simp] theorem neD_rowT {a b : List Nat} : neD (.tuple (a.map nI)) (.tuple (b.map nI)) = some (.fz (.bool (!decide (a = b)))) := enc_nat.tuple.neD (by omega) a b
@[simp] theorem eqD_rowL {a b : List Nat} : eqD (.list (a.map nI)) (.list (b.map nI)) = some (.fz (.bool (decide (a = b)))) := enc_nat.list.eqD (by omega) a b
@[simp] theorem neD_rowL {a b : List Nat} : neD (.list (a.map nI)) (.list (b.map nI)) = some (.fz (.bool (!decide (a = b)))) := enc_nat.list.neD (by omega) a b
@[simp] theorem neD_rowL0 {a : List Nat} : neD (.list (a.map nI)) (.list []) = some (.fz (.bool (!decide (a = [])))) := enc_nat.list.neD (by omega) a []
@[simp] theorem eqD_rowL0 {a : List Nat} : eqD (.list (a.map nI)) (.list []) = some (.fz (.bool (decide (a = [])))) := enc_nat.list.eqD (by omega) a []
@[simp] theorem neD_rowT0 {a : List Nat} : neD (.tuple (a.map nI)) (.tuple []) = some (.fz (.bool (!decide (a = [])))) := enc_nat.tuple.neD (by omega) a []
@[simp] theorem eqD_rowT0 {a : List Nat} : eqD (.tuple (a.map nI)) (.tuple []) = some (.fz (.bool (decide (a = [])))) := enc_nat.tuple.eqD (by omega) a []
@[simp] theorem eqD_prL {a b : List (Nat × Nat)} : eqD (.list (a.map nP)) (.list (b.map nP)) = some (.fz (.bool (decide (a = b)))) := enc_pair.list.eqD (by omega) a b
@[simp] theorem neD_prL {a b : List (Nat × Nat)} : neD (.list (a.map nP)) (.list (b.map nP)) = some (.fz (.bool (!decide (a = b)))) := enc_pair.list.neD (by omega) a b
@[simp] theorem neD_prL0 {a : List (Nat × Nat)} : neD (.list (a.map nP)) (.list []) = some (.fz (.bool (!decide (a = [])))) := enc_pair.list.neD (by omega) a []
theorem eqD_nP {a b : Nat × Nat} : eqD (nP a) (nP b) = some (.fz (.bool (decide (a = b)))) := enc_pair.eqD (by omega) a b
theorem neD_nP {a b : Nat × Nat} : neD (nP a) (nP b) = some (.fz (.bool (!decide (a = b)))) := enc_pair.neD (by omega) a b
@[simp] theorem neD_nil : neD (.list []) (.list []) = some (.fz (.bool false)) := enc_nat.list.neD (by omega) [] []
@[simp] theorem eqD_nil : eqD (.list []) (.list []) = some (.fz (.bool true)) := enc_nat.list.eqD (by omega) [] []
@[simp] theorem neD_nilT : neD (.tuple []) (.tuple []) = some (.fz (.bool false)) := enc_nat.tuple.neD (by omega) [] []
@[simp] theorem eqD_nilT : eqD (.tuple []) (.tuple []) = some (.fz (.bool true)) := enc_nat.tuple.eqD (by omega) [] []
theorem getN {ns : List Nat} {i : Nat} (h : i < ns.length) : (ns.map nI)[i]? = some (.int (ns[i] : Int)) := by rw [List.getElem?_map, List.getElem?_eq_getElem h]; rfl
theorem getP {ns : List (Nat × Nat)} {i : Nat} (h : i < ns.length) : (ns.map nP)[i]? = some (nP ns[i]) := by rw [List.getElem?_map, List.getElem?_eq_getElem h]; rfl
theorem Sz.nat {x B N : Nat} (h : x < 2 ^ B) : Sz B B N (.int (x : Int)) := Sz.int (by rw [Int.natAbs_natCast]; exact h)
theorem SzAll.nats {B N : Nat} : ∀ {ns : List Nat}, (∀ n ∈ ns, n < 2 ^ B) → SzAll B ((B + 1) * ns.length) N (ns.map nI)
  | [], _ => .nil
  | n :: ns, h => (SzAll.cons (Sz.nat (N := N) (h n List.mem_cons_self)) (SzAll.nats fun m hm => h m (List.mem_cons_of_mem _ hm))).mono (Nat.le_refl _) (by rw [List.length_cons, Nat.mul_add, Nat.mul_one]; omega) (Nat.le_refl _)
/-- numbers from 0 on, among the whole ones -/
theorem to_nats : ∀ {ns : List Int}, (∀ x ∈ ns, 0 ≤ x) → ∃ ms : List Nat, ns = ms.map (fun x : Nat => (x : Int)) ∧ ns.map PyData.int = ms.map nI
  | [], _ => ⟨[], rfl, rfl⟩
  | n :: ns, h => by
    obtain ⟨ms, h1, h2⟩ := to_nats (fun x hx => h x (List.mem_cons_of_mem _ hx))
    obtain ⟨m, hm⟩ := Int.eq_ofNat_of_zero_le (h n List.mem_cons_self)
    refine ⟨m :: ms, ?_, ?_⟩
    · rw [List.map_cons, ← h1, hm]
    · rw [List.map_cons, List.map_cons, ← h2, hm]
end VI
set_option Elab.async false
set_option linter.all false
set_option maxRecDepth 100000
set_option maxHeartbeats 4000000
namespace VI
open PySem PySem.Spec PyProof.Rows L2
section
variable {xs : List D}
theorem sIx_some (n d : Nat) (i : Nat) : HT.sIx n d (some (i : Int)) = min i n := by
  show (if (i : Int) < 0 then ((i : Int) + (n : Int)).toNat else min (i : Int).toNat n) = _
  rw [if_neg (by omega)]; rfl
theorem sIx_none (n d : Nat) : HT.sIx n d none = d := rfl
theorem sIx_neg (n d : Nat) (i : Nat) (h : 0 < i) : HT.sIx n d (some (-(i : Int))) = n - i := by
  show (if -(i : Int) < 0 then (-(i : Int) + (n : Int)).toNat else min (-(i : Int)).toNat n) = _
  rw [if_pos (by omega)]; omega
theorem cut_from (i : Nat) : VI.cutD xs (some (i : Int)) none = xs.drop i := by
  unfold VI.cutD
  rw [sIx_some, sIx_none]
  by_cases h : i ≤ xs.length
  · rw [Nat.min_eq_left h, List.take_of_length_le (by rw [List.length_drop]; omega)]
  · rw [Nat.min_eq_right (by omega), List.drop_length, List.drop_of_length_le (by omega)]; simp
theorem cut_upto (i : Nat) : VI.cutD xs none (some (i : Int)) = xs.take i := by
  unfold VI.cutD
  rw [sIx_some, sIx_none, List.drop_zero, Nat.sub_zero]
  by_cases h : i ≤ xs.length
  · rw [Nat.min_eq_left h]
  · rw [Nat.min_eq_right (by omega), List.take_length, List.take_of_length_le (by omega)]
theorem cut_mid2 (i j : Nat) : VI.cutD xs (some (i : Int)) (some (j : Int)) = (xs.drop i).take (j - i) := by
  unfold VI.cutD
  rw [sIx_some, sIx_some]
  by_cases h : i ≤ xs.length
  · rw [Nat.min_eq_left h]
    by_cases h2 : j ≤ xs.length
    · rw [Nat.min_eq_left h2]
    · rw [Nat.min_eq_right (by omega), List.take_of_length_le (by rw [List.length_drop]; omega), List.take_of_length_le (by rw [List.length_drop]; omega)]
  · rw [show min i xs.length = xs.length by omega, List.drop_length, List.drop_of_length_le (by omega)]; simp
@[simp] theorem cutF0 {i : Nat} : VI.cutD xs (some (i : Int)) none = xs.drop i := cut_from i
@[simp] theorem cutF1 {i : Nat} : VI.cutD xs (some ((i : Int) + 1)) none = xs.drop (i + 1) := cut_from (i + 1)
@[simp] theorem cutF2 {i : Nat} : VI.cutD xs (some ((i : Int) + 2)) none = xs.drop (i + 2) := cut_from (i + 2)
@[simp] theorem cutT0 {i : Nat} : VI.cutD xs none (some (i : Int)) = xs.take i := cut_upto i
@[simp] theorem cutT1 {i : Nat} : VI.cutD xs none (some ((i : Int) + 1)) = xs.take (i + 1) := cut_upto (i + 1)
@[simp] theorem cut12 {i : Nat} : VI.cutD xs (some ((i : Int) + 1)) (some ((i : Int) + 2)) = (xs.drop (i + 1)).take 1 := by
  have := cut_mid2 (xs := xs) (i + 1) (i + 2)
  rw [show i + 2 - (i + 1) = 1 by omega] at this
  exact this
theorem cut_nn {k : Int} (h : 0 ≤ k) : VI.cutD xs none (some k) = xs.take k.toNat := by
  obtain ⟨n, rfl⟩ := Int.eq_ofNat_of_zero_le h
  exact cut_upto n
@[simp] theorem cut_one : VI.cutD xs none (some 1) = xs.take 1 := cut_upto 1
@[simp] theorem cutF_one : VI.cutD xs (some 1) none = xs.drop 1 := cut_from 1
@[simp] theorem cut_last : VI.cutD xs none (some (-1)) = xs.dropLast := by
  unfold VI.cutD
  have h := sIx_neg xs.length xs.length 1 (by omega)
  rw [show (-((1 : Nat) : Int)) = -1 from rfl] at h
  rw [h, sIx_none, List.drop_zero, Nat.sub_zero, List.dropLast_eq_take]
@[simp] theorem cut_tail1 : VI.cutD xs (some (-1)) none = xs.drop (xs.length - 1) := by
  unfold VI.cutD
  have h := sIx_neg xs.length 0 1 (by omega)
  rw [show (-((1 : Nat) : Int)) = -1 from rfl] at h
  rw [h, sIx_none, List.take_of_length_le (by rw [List.length_drop]; omega)]
end
theorem nat_ints (l : List Nat) : l.map nI = (l.map fun x : Nat => (x : Int)).map PyData.int := by rw [List.map_map]; rfl
theorem sum_ints : ∀ l : List Nat, (l.map fun x : Nat => (x : Int)).sum = ((l.sum : Nat) : Int)
  | [] => rfl
  | x :: l => by rw [List.map_cons, List.sum_cons, List.sum_cons, sum_ints l]; omega
@[simp] theorem sumD_nat {l : List Nat} : sumD (.tuple (l.map nI)) = some (.fz (.int ((l.sum : Nat) : Int))) := by rw [nat_ints, sumD_mapT, sum_ints]
@[simp] theorem sumD_natL {l : List Nat} : sumD (.list (l.map nI)) = some (.fz (.int ((l.sum : Nat) : Int))) := by rw [nat_ints, sumD_map, sum_ints]
end VI
set_option Elab.async false
set_option linter.all false
set_option maxRecDepth 100000
set_option maxHeartbeats 4000000
namespace VI
open PySem PySem.Spec PyProof.Rows L2
abbrev IsZipF (h : Heap) (z TI TO : Addr) (f0 : Value) (fl : Bool) : Prop :=
  h.get? z = some { cls := .type "zip", dict := none, data := .fields #[f0, .bool fl, .bool false, .ref TI, .ref TO], slots := #[] }
section
variable {prog : Program} {w : World} {A : Around} {E : Value → Shared → Prop} {s : Shared} {z TI TO i1 i2 T0 : Addr} {fp1 fp2 : List Addr} {n1 n2 i : Nat} {P1 P2 : Nat → Value → Prop} {St1 St2 : Nat → Heap → Prop} {fl : Bool} {oT : Obj}
/-- the owned tuple is out: a new one is made -/
theorem zipM_item {Q : Value → Shared → Prop} (S : ZipSep2 z TI TO i1 i2 fp1 fp2) (D1 : Draws prog w A i1 fp1 n1 P1 St1) (D2 : Draws prog w A i2 fp2 n2 P2 St2)
    (hz : IsZipF s.heap z TI TO (rawInt T0) fl) (hT0 : s.heap.get? T0 = some oT) (hTI : IsTupOf2 s.heap TI (.ref i1) (.ref i2)) (st1 : St1 i s.heap) (st2 : St2 i s.heap) (hlt1 : i < n1) (hlt2 : i < n2)
    (hQ : ∀ x1 x2 h' tk, P1 i x1 → P2 i x2 → IsZipF h' z TI TO (rawInt T0) true → St1 (i + 1) h' → St2 (i + 1) h' → IsTupOf2 h' s.heap.objs.size x1 x2 → h'.objs.size = s.heap.objs.size + 1 →
      (∀ c o, c ≠ z → c ≠ i1 → c ≠ i2 → s.heap.get? c = some o → h'.get? c = some o) → Q (.ref s.heap.objs.size) { s with heap := h', toks := tk }) :
    wpAny (model prog w) A (Builtin.«zip.__next__» ⟨[.ref z], []⟩) (fun fin s' => ∃ v, fin = .done (.ret v) ∧ Q v s') E s := by
  obtain ⟨hp, g, d, tk0, os⟩ := s
  show wpAny _ _ (field (.ref z) 2 >>= _) _ _ _
  refine wpAny_bind (wpAny_field hz rfl (x := .bool false) rfl ?_)
  show wpAny _ _ (field (.ref z) 3 >>= _) _ _ _
  refine wpAny_bind (wpAny_field hz rfl (x := .ref TI) rfl ?_)
  refine wpAny_bind (wpAny_seqItems hTI rfl ?_)
  show wpAny _ _ (Builtin.SmallTypes.ownedTupleIsFree (.ref z) >>= _) _ _ _
  refine wpAny_bind ?_
  unfold Builtin.SmallTypes.ownedTupleIsFree
  refine wpAny_bind (wpAny_field hz rfl (x := rawInt T0) rfl ?_)
  show wpAny _ _ (loadIfAlive ((T0 : Int).toNat) >>= _) _ _ _
  rw [Int.toNat_natCast]
  refine wpAny_bind (PySem.W.kdx_alive hT0 ?_)
  simp only [Option.isNone_some, Bool.false_eq_true, if_false]
  refine wpAny_bind (wpAny_field hz rfl (x := .bool fl) rfl ?_)
  have hzlt : z < hp.objs.size := Heap.lt_size hz
  have key : ∀ (g0 : Heap), IsZipF g0 z TI TO (rawInt T0) true → Heap.SameBut z hp g0 → ∀ (x1 : Value) (p1 : Heap), P1 i x1 → St1 (i + 1) p1 → Heap.SameBut i1 g0 p1 → ∀ (x2 : Value) (p2 : Heap) (tk2 : Nat), P2 i x2 → St2 (i + 1) p2 → Heap.SameBut i2 p1 p2 →
      Q (.ref p2.objs.size) ⟨p2.push { cls := .type "tuple", data := .seq #[x1, x2] }, g, d, tk2, os⟩ := by
    intro g0 hz0 hs0 x1 p1 hx1 sn1 hp1 x2 p2 tk2 hx2 sn2 hp2
    have hsz : p2.objs.size = hp.objs.size := by rw [hp2.1, hp1.1, hs0.1]
    have up : ∀ c o, p2.get? c = some o → (p2.push { cls := .type "tuple", data := .seq #[x1, x2] }).get? c = some o := fun c o e => Heap.get?_push_of_some _ e
    have hz2 : IsZipF p2 z TI TO (rawInt T0) true := hp2.extBut _ _ S.zi2 (hp1.extBut _ _ S.zi1 hz0)
    rw [hsz]
    have hT : IsTupOf2 (p2.push { cls := .type "tuple", data := .seq #[x1, x2] }) p2.objs.size x1 x2 := Heap.get?_push_size _ rfl
    rw [hsz] at hT
    exact hQ x1 x2 _ tk2 hx1 hx2 (up _ _ hz2) (D1.frame _ _ _ (D1.over sn1 hp2 S.sep2_1) fun b hb o e => up b o e) (D2.frame _ _ _ sn2 fun b hb o e => up b o e) hT (by show _ = hp.objs.size + 1; rw [Heap.size_push, hsz])
      fun c o cz c1 c2 e => up c o (hp2.extBut _ _ c2 (hp1.extBut _ _ c1 (hs0.extBut _ _ cz e)))
  cases fl with
  | true =>
    rw [if_neg (show ¬ ((Value.bool true != Value.bool true) = true) from Bool.false_ne_true)]
    refine wpAny_pure ?_
    simp only [Bool.false_eq_true, if_false, ← Array.forIn_toList, List.forIn_cons, List.forIn_nil]
    have hs0 : Heap.SameBut z hp hp := Heap.SameBut.refl _ _
    have hz0 : IsZipF hp z TI TO (rawInt T0) true := hz
    refine wpAny_bind (wpAny_bind (wpAny_bind (wpAny_holding ?_)))
    show wpAny _ _ (Builtin.SmallTypes.nextOf (.ref i1) >>= _) _ _ _
    refine wpAny_bind (D1.item i _ _ _ hlt1 (D1.over st1 hs0 S.zf1) fun x1 p1 tk1 hx1 sn1 hp1 => wpAny_pure ?_)
    refine wpAny_pure ?_
    refine wpAny_bind (wpAny_bind (wpAny_holding ?_))
    show wpAny _ _ (Builtin.SmallTypes.nextOf (.ref i2) >>= _) _ _ _
    refine wpAny_bind (D2.item i _ _ _ hlt2 (D2.over (D2.over st2 hs0 S.zf2) hp1 S.sep1_2) fun x2 p2 tk2 hx2 sn2 hp2 => wpAny_pure ?_)
    refine wpAny_pure (wpAny_pure ?_)
    refine wpAny_bind (wpAny_newTuple (hsz := by show 2 ≤ sizeLine; decide) ?_)
    exact wpAny_pure ⟨_, rfl, key _ hz0 hs0 x1 p1 hx1 sn1 hp1 x2 p2 tk2 hx2 sn2 hp2⟩
  | false =>
    rw [if_pos (show (Value.bool false != Value.bool true) = true from rfl)]
    refine wpAny_bind (wpAny_setField_rec hz (by simp) fun g0 hz0 hs0 => ?_)
    replace hs0 : Heap.SameBut z hp g0 := hs0
    replace hz0 : IsZipF g0 z TI TO (rawInt T0) true := hz0
    refine wpAny_pure ?_
    simp only [Bool.false_eq_true, if_false, ← Array.forIn_toList, List.forIn_cons, List.forIn_nil]
    refine wpAny_bind (wpAny_bind (wpAny_bind (wpAny_holding ?_)))
    show wpAny _ _ (Builtin.SmallTypes.nextOf (.ref i1) >>= _) _ _ _
    refine wpAny_bind (D1.item i _ _ _ hlt1 (D1.over st1 hs0 S.zf1) fun x1 p1 tk1 hx1 sn1 hp1 => wpAny_pure ?_)
    refine wpAny_pure ?_
    refine wpAny_bind (wpAny_bind (wpAny_holding ?_))
    show wpAny _ _ (Builtin.SmallTypes.nextOf (.ref i2) >>= _) _ _ _
    refine wpAny_bind (D2.item i _ _ _ hlt2 (D2.over (D2.over st2 hs0 S.zf2) hp1 S.sep1_2) fun x2 p2 tk2 hx2 sn2 hp2 => wpAny_pure ?_)
    refine wpAny_pure (wpAny_pure ?_)
    refine wpAny_bind (wpAny_newTuple (hsz := by show 2 ≤ sizeLine; decide) ?_)
    exact wpAny_pure ⟨_, rfl, key _ hz0 hs0 x1 p1 hx1 sn1 hp1 x2 p2 tk2 hx2 sn2 hp2⟩
theorem zipM_end {Q : Fin → Shared → Prop} (S : ZipSep2 z TI TO i1 i2 fp1 fp2) (D1 : Draws prog w A i1 fp1 n1 P1 St1) (D2 : Draws prog w A i2 fp2 n2 P2 St2)
    (hz : IsZipF s.heap z TI TO (rawInt T0) fl) (hT0 : s.heap.get? T0 = some oT) (hTI : IsTupOf2 s.heap TI (.ref i1) (.ref i2)) (st1 : St1 i s.heap) (st2 : St2 i s.heap) (hle1 : i ≤ n1) (hle2 : i ≤ n2) (hend : i = n1 ∨ i = n2)
    (hE : ∀ h' tk e, (∀ c o, c ≠ z → c ≠ i1 → c ≠ i2 → s.heap.get? c = some o → h'.get? c = some o) → (∃ o, h'.get? e = some o ∧ o.cls = .type "StopIteration") → E (.ref e) { s with heap := h', toks := tk }) :
    wpAny (model prog w) A (Builtin.«zip.__next__» ⟨[.ref z], []⟩) Q E s := by
  obtain ⟨hp, g, d, tk0, os⟩ := s
  show wpAny _ _ (field (.ref z) 2 >>= _) _ _ _
  refine wpAny_bind (wpAny_field hz rfl (x := .bool false) rfl ?_)
  show wpAny _ _ (field (.ref z) 3 >>= _) _ _ _
  refine wpAny_bind (wpAny_field hz rfl (x := .ref TI) rfl ?_)
  refine wpAny_bind (wpAny_seqItems hTI rfl ?_)
  show wpAny _ _ (Builtin.SmallTypes.ownedTupleIsFree (.ref z) >>= _) _ _ _
  refine wpAny_bind ?_
  unfold Builtin.SmallTypes.ownedTupleIsFree
  refine wpAny_bind (wpAny_field hz rfl (x := rawInt T0) rfl ?_)
  show wpAny _ _ (loadIfAlive ((T0 : Int).toNat) >>= _) _ _ _
  rw [Int.toNat_natCast]
  refine wpAny_bind (PySem.W.kdx_alive hT0 ?_)
  simp only [Option.isNone_some, Bool.false_eq_true, if_false]
  refine wpAny_bind (wpAny_field hz rfl (x := .bool fl) rfl ?_)
  cases fl with
  | true =>
    rw [if_neg (show ¬ ((Value.bool true != Value.bool true) = true) from Bool.false_ne_true)]
    refine wpAny_pure ?_
    simp only [Bool.false_eq_true, if_false, ← Array.forIn_toList, List.forIn_cons, List.forIn_nil]
    have hs0 : Heap.SameBut z hp hp := Heap.SameBut.refl _ _
    have hz0 : IsZipF hp z TI TO (rawInt T0) true := hz
    refine wpAny_bind (wpAny_bind (wpAny_bind (wpAny_holding ?_)))
    show wpAny _ _ (Builtin.SmallTypes.nextOf (.ref i1) >>= _) _ _ _
    by_cases hlt1 : i < n1
    · refine wpAny_bind (D1.item i _ _ _ hlt1 (D1.over st1 hs0 S.zf1) fun x1 p1 tk1 hx1 sn1 hp1 => wpAny_pure ?_)
      refine wpAny_pure ?_
      have hi2 : i = n2 := by omega
      refine wpAny_bind (wpAny_bind (wpAny_holding ?_))
      show wpAny _ _ (Builtin.SmallTypes.nextOf (.ref i2) >>= _) _ _ _
      refine wpAny_bind (D2.done _ _ _ (by rw [← hi2]; exact (D2.over (D2.over st2 hs0 S.zf2) hp1 S.sep1_2)) fun q e hq he => ?_)
      exact hE _ _ e (fun c o cz c1 c2 x => hq _ _ c2 (hp1.extBut _ _ c1 (hs0.extBut _ _ cz x))) he
    · have hi1 : i = n1 := by omega
      refine wpAny_bind (D1.done _ _ _ (by rw [← hi1]; exact (D1.over st1 hs0 S.zf1)) fun q e hq he => ?_)
      exact hE _ _ e (fun c o cz c1 c2 x => hq _ _ c1 (hs0.extBut _ _ cz x)) he
  | false =>
    rw [if_pos (show (Value.bool false != Value.bool true) = true from rfl)]
    refine wpAny_bind (wpAny_setField_rec hz (by simp) fun g0 hz0 hs0 => ?_)
    replace hs0 : Heap.SameBut z hp g0 := hs0
    replace hz0 : IsZipF g0 z TI TO (rawInt T0) true := hz0
    refine wpAny_pure ?_
    simp only [Bool.false_eq_true, if_false, ← Array.forIn_toList, List.forIn_cons, List.forIn_nil]
    refine wpAny_bind (wpAny_bind (wpAny_bind (wpAny_holding ?_)))
    show wpAny _ _ (Builtin.SmallTypes.nextOf (.ref i1) >>= _) _ _ _
    by_cases hlt1 : i < n1
    · refine wpAny_bind (D1.item i _ _ _ hlt1 (D1.over st1 hs0 S.zf1) fun x1 p1 tk1 hx1 sn1 hp1 => wpAny_pure ?_)
      refine wpAny_pure ?_
      have hi2 : i = n2 := by omega
      refine wpAny_bind (wpAny_bind (wpAny_holding ?_))
      show wpAny _ _ (Builtin.SmallTypes.nextOf (.ref i2) >>= _) _ _ _
      refine wpAny_bind (D2.done _ _ _ (by rw [← hi2]; exact (D2.over (D2.over st2 hs0 S.zf2) hp1 S.sep1_2)) fun q e hq he => ?_)
      exact hE _ _ e (fun c o cz c1 c2 x => hq _ _ c2 (hp1.extBut _ _ c1 (hs0.extBut _ _ cz x))) he
    · have hi1 : i = n1 := by omega
      refine wpAny_bind (D1.done _ _ _ (by rw [← hi1]; exact (D1.over st1 hs0 S.zf1)) fun q e hq he => ?_)
      exact hE _ _ e (fun c o cz c1 c2 x => hq _ _ c1 (hs0.extBut _ _ cz x)) he
theorem pyNext_zipM_item {Q : Option Value → Shared → Prop} (S : ZipSep2 z TI TO i1 i2 fp1 fp2) (D1 : Draws prog w A.in1 i1 fp1 n1 P1 St1) (D2 : Draws prog w A.in1 i2 fp2 n2 P2 St2)
    (hz : IsZipF s.heap z TI TO (rawInt T0) fl) (hT0 : s.heap.get? T0 = some oT) (hTI : IsTupOf2 s.heap TI (.ref i1) (.ref i2)) (st1 : St1 i s.heap) (st2 : St2 i s.heap) (hlt1 : i < n1) (hlt2 : i < n2)
    (hQ : ∀ x1 x2 h' tk, P1 i x1 → P2 i x2 → IsZipF h' z TI TO (rawInt T0) true → St1 (i + 1) h' → St2 (i + 1) h' → IsTupOf2 h' s.heap.objs.size x1 x2 → h'.objs.size = s.heap.objs.size + 1 →
      (∀ c o, c ≠ z → c ≠ i1 → c ≠ i2 → s.heap.get? c = some o → h'.get? c = some o) → Q (some (.ref s.heap.objs.size)) { s with heap := h', toks := tk }) :
    wpAny (model prog w) A (pyNext (.ref z)) Q E s := by
  have hT : s.TypeIs (.ref z) "zip" := ⟨_, hz, rfl⟩
  unfold pyNext
  exact wpAny_bind (wpAny_attempt (wpAny_callSpecial?_slot (name := Str.ofString "__next__") hT F.slot_zip_next
    (wpAny_call_entry F.slot_zip_next hT F.entry_zip_next
      (zipM_item S D1 D2 hz hT0 hTI st1 st2 hlt1 hlt2 fun x1 x2 h' tk y1 y2 b1 d1 d2 b5 b6 b7 => wpAny_pure (hQ x1 x2 h' tk y1 y2 b1 d1 d2 b5 b6 b7)) (F.args_zip_next_1 _))))
theorem pyNext_zipM_end {Q : Option Value → Shared → Prop} (S : ZipSep2 z TI TO i1 i2 fp1 fp2) (D1 : Draws prog w A.in1 i1 fp1 n1 P1 St1) (D2 : Draws prog w A.in1 i2 fp2 n2 P2 St2)
    (hz : IsZipF s.heap z TI TO (rawInt T0) fl) (hT0 : s.heap.get? T0 = some oT) (hTI : IsTupOf2 s.heap TI (.ref i1) (.ref i2)) (st1 : St1 i s.heap) (st2 : St2 i s.heap) (hle1 : i ≤ n1) (hle2 : i ≤ n2) (hend : i = n1 ∨ i = n2)
    (hQ : ∀ h' tk, (∀ c o, c ≠ z → c ≠ i1 → c ≠ i2 → s.heap.get? c = some o → h'.get? c = some o) → Q none { s with heap := h', toks := tk }) : wpAny (model prog w) A (pyNext (.ref z)) Q E s := by
  have hT : s.TypeIs (.ref z) "zip" := ⟨_, hz, rfl⟩
  unfold pyNext
  refine wpAny_bind (wpAny_attempt (wpAny_callSpecial?_slot (name := Str.ofString "__next__") hT F.slot_zip_next
    (wpAny_call_entry F.slot_zip_next hT F.entry_zip_next (zipM_end S D1 D2 hz hT0 hTI st1 st2 hle1 hle2 hend fun h' tk e hk he => ?_) (F.args_zip_next_1 _))))
  obtain ⟨o, ho, hc⟩ := he
  refine wpAny_bind (wpAny_isInstance (T := "StopIteration") (b := true) ⟨o, ho, hc⟩ isSubtype_stop ?_)
  exact wpAny_pure (hQ _ _ hk)
/-- the zip's cells ahead of the i-th item, S a cell of others -/
def ZSt (z TI TO i1 i2 : Addr) (St1 St2 : Nat → Heap → Prop) (S : Addr) (i : Nat) (h : Heap) : Prop :=
  IsTupOf2 h TI (.ref i1) (.ref i2) ∧ St1 i h ∧ St2 i h ∧ ((i = 0 ∧ IsZip h z TI TO .none ∧ ∃ a1 a2, IsTupOf2 h TO a1 a2) ∨
    ∃ (T0 : Addr) (fl : Bool) (oT : Obj), IsZipF h z TI TO (rawInt T0) fl ∧ h.get? T0 = some oT ∧ T0 ≠ z ∧ T0 ≠ i1 ∧ T0 ≠ i2 ∧ T0 ≠ S)
theorem zst_item {Sc : Addr} {Q : Option Value → Shared → Prop} (S : ZipSep2 z TI TO i1 i2 fp1 fp2) (D1 : Draws prog w A.in1 i1 fp1 n1 P1 St1) (D2 : Draws prog w A.in1 i2 fp2 n2 P2 St2)
    (st : ZSt z TI TO i1 i2 St1 St2 Sc i s.heap) (hS : Sc < s.heap.objs.size) (hlt1 : i < n1) (hlt2 : i < n2)
    (hQ : ∀ x1 x2 h' tk, P1 i x1 → P2 i x2 → ZSt z TI TO i1 i2 St1 St2 Sc (i + 1) h' → IsTupOf2 h' s.heap.objs.size x1 x2 → h'.objs.size = s.heap.objs.size + 1 →
      (∀ c o, c ≠ z → c ≠ TO → c ≠ i1 → c ≠ i2 → s.heap.get? c = some o → h'.get? c = some o) → Q (some (.ref s.heap.objs.size)) { s with heap := h', toks := tk }) :
    wpAny (model prog w) A (pyNext (.ref z)) Q E s := by
  obtain ⟨hTI, st1, st2, hc⟩ := st
  have l1 : i1 < s.heap.objs.size := by obtain ⟨_, e⟩ := D1.live _ _ st1; exact Heap.lt_size e
  have l2 : i2 < s.heap.objs.size := by obtain ⟨_, e⟩ := D2.live _ _ st2; exact Heap.lt_size e
  rcases hc with ⟨h0, hz, a1, a2, hTO⟩ | ⟨T0, fl, oT, hz, hT0, n1', n2', n3, n4⟩
  · refine wpAny_pyNext_zipD2_item S D1 D2 hz hTI hTO st1 st2 hlt1 hlt2 fun x1 x2 h' tk y1 y2 b1 b2 d1 d2 b5 b6 hk => ?_
    exact hQ x1 x2 h' tk y1 y2 ⟨hk _ _ S.TIz S.TITO S.TIi1 S.TIi2 hTI, d1, d2, .inr ⟨_, false, _, b1, b5, Nat.ne_of_gt (Heap.lt_size hz), Nat.ne_of_gt l1, Nat.ne_of_gt l2, Nat.ne_of_gt hS⟩⟩ b5 b6 hk
  · refine pyNext_zipM_item S D1 D2 hz hT0 hTI st1 st2 hlt1 hlt2 fun x1 x2 h' tk y1 y2 b1 d1 d2 b5 b6 hk => ?_
    exact hQ x1 x2 h' tk y1 y2 ⟨hk _ _ S.TIz S.TIi1 S.TIi2 hTI, d1, d2, .inr ⟨T0, true, oT, b1, hk _ _ n1' n2' n3 hT0, n1', n2', n3, n4⟩⟩ b5 b6 fun c o c1 _ c3 c4 e => hk c o c1 c3 c4 e
theorem zst_done {Sc : Addr} {Q : Option Value → Shared → Prop} (S : ZipSep2 z TI TO i1 i2 fp1 fp2) (D1 : Draws prog w A.in1 i1 fp1 n1 P1 St1) (D2 : Draws prog w A.in1 i2 fp2 n2 P2 St2)
    (st : ZSt z TI TO i1 i2 St1 St2 Sc i s.heap) (hi : i = min n1 n2)
    (hQ : ∀ h' tk, (∀ c o, c ≠ z → c ≠ TO → c ≠ i1 → c ≠ i2 → s.heap.get? c = some o → h'.get? c = some o) → Q none { s with heap := h', toks := tk }) : wpAny (model prog w) A (pyNext (.ref z)) Q E s := by
  obtain ⟨hTI, st1, st2, hc⟩ := st
  rcases hc with ⟨h0, hz, a1, a2, hTO⟩ | ⟨T0, fl, oT, hz, hT0, n1', n2', n3, n4⟩
  · exact wpAny_pyNext_zipD2_end S D1 D2 hz hTI hTO st1 st2 (by omega) (by omega) (by omega) hQ
  · exact pyNext_zipM_end S D1 D2 hz hT0 hTI st1 st2 (by omega) (by omega) (by omega) fun h' tk hk => hQ h' tk fun c o c1 _ c3 c4 e => hk c o c1 c3 c4 e
theorem ZSt.keep {Sc : Addr} {h h' : Heap} (S : ZipSep2 z TI TO i1 i2 fp1 fp2) (D1 : Draws prog w A.in1 i1 fp1 n1 P1 St1) (D2 : Draws prog w A.in1 i2 fp2 n2 P2 St2) (st : ZSt z TI TO i1 i2 St1 St2 Sc i h) (hk : ∀ b o, b ≠ Sc → h.get? b = some o → h'.get? b = some o)
    (sz : z ≠ Sc) (sI : TI ≠ Sc) (sO : TO ≠ Sc) (s1 : Sc ∉ fp1) (s2 : Sc ∉ fp2) : ZSt z TI TO i1 i2 St1 St2 Sc i h' := by
  obtain ⟨hTI, st1, st2, hc⟩ := st
  refine ⟨hk _ _ sI hTI, D1.frame _ _ _ st1 fun b hb o e => hk b o (fun q => s1 (q ▸ hb)) e, D2.frame _ _ _ st2 fun b hb o e => hk b o (fun q => s2 (q ▸ hb)) e, ?_⟩
  rcases hc with ⟨h0, hz, a1, a2, hTO⟩ | ⟨T0, fl, oT, hz, hT0, n1', n2', n3, n4⟩
  · exact .inl ⟨h0, hk _ _ sz hz, a1, a2, hk _ _ sO hTO⟩
  · exact .inr ⟨T0, fl, oT, hk _ _ sz hz, hk _ _ n4 hT0, n1', n2', n3, n4⟩
/-- the tuples made so far -/
structure KzG (P1 P2 : Nat → Value → Prop) (lo : Addr) (h : Heap) (as : List Addr) : Prop where
  rise : as.Pairwise (· < ·)
  above : ∀ a ∈ as, lo < a
  pairs : ∀ (j : Nat) (a : Addr), as[j]? = some a → ∃ x y, P1 j x ∧ P2 j y ∧ IsTupOf2 h a x y
theorem KzG.there {lo : Addr} {h : Heap} {as : List Addr} (g : KzG P1 P2 lo h as) {a : Addr} (ha : a ∈ as) : a < h.objs.size := by
  obtain ⟨j, hj⟩ := List.mem_iff_getElem?.mp ha
  obtain ⟨_, _, _, _, e⟩ := g.pairs j a hj
  exact Heap.lt_size e
theorem kz_loop {R : Result → Shared → Prop} {Sc : Addr} (S : ZipSep2 z TI TO i1 i2 fp1 fp2) (D1 : Draws prog w A.in1.in1 i1 fp1 n1 P1 St1) (D2 : Draws prog w A.in1.in1 i2 fp2 n2 P2 St2)
    (sz : z < Sc) (sI : TI < Sc) (sO : TO < Sc) (q1 : i1 < Sc) (q2 : i2 < Sc) (s1 : Sc ∉ fp1) (s2 : Sc ∉ fp2) (hn : min n1 n2 ≤ sizeLine) (res : Value) {h₁ : Heap}
    (hR : ∀ h' tk acc c as, (∀ b o, b ≠ Sc → b ≠ z → b ≠ TO → b ≠ i1 → b ≠ i2 → h₁.get? b = some o → h'.get? b = some o) → h'.get? Sc = some { cls := .type "list", dict := none, data := .seq acc c, slots := #[] } → as.length = min n1 n2 → KzG P1 P2 Sc h' as →
      acc.toList = as.map Value.ref → R (.ok (.ret res)) { s with heap := h', toks := tk }) :
    ∀ (k i : Nat) (h : Heap) (tk c : Nat) (acc : Array Value) (as : List Addr), min n1 n2 - i = k → i ≤ min n1 n2 → ZSt z TI TO i1 i2 St1 St2 Sc i h → (∀ b o, b ≠ Sc → b ≠ z → b ≠ TO → b ≠ i1 → b ≠ i2 → h₁.get? b = some o → h.get? b = some o) →
      h.get? Sc = some { cls := .type "list", dict := none, data := .seq acc c, slots := #[] } → acc.toList = as.map Value.ref → as.length = i → KzG P1 P2 Sc h as →
      codeAny (model prog w) A (.builtin "list.extend.loop" ⟨[.ref Sc, .ref z, res], []⟩) R { s with heap := h, toks := tk } := by
  have e1 : Sc ≠ z := Nat.ne_of_gt sz
  have e2 : Sc ≠ TO := Nat.ne_of_gt sO
  have e3 : Sc ≠ i1 := Nat.ne_of_gt q1
  have e4 : Sc ≠ i2 := Nat.ne_of_gt q2
  have far : ∀ {a}, Sc < a → a ≠ z ∧ a ≠ TO ∧ a ≠ i1 ∧ a ≠ i2 ∧ a ≠ Sc := fun ha => ⟨Nat.ne_of_gt (Nat.lt_trans sz ha), Nat.ne_of_gt (Nat.lt_trans sO ha), Nat.ne_of_gt (Nat.lt_trans q1 ha), Nat.ne_of_gt (Nat.lt_trans q2 ha), Nat.ne_of_gt ha⟩
  intro k
  induction k with
  | zero =>
    intro i h tk c acc as hk hi hst hkeep hS hacc hal hG
    refine codeAny_builtin PySem.F.entry_extend_loop ?_
    rw [Around.under_plainId PySem.F.plain_extend_loop _]
    show wpAny _ A.in1 (pyNext (.ref z) >>= _) _ _ _
    refine wpAny_bind (zst_done (s := { s with heap := h, toks := tk }) (A := A.in1) S D1 D2 hst (by omega) fun h' tk' he => ?_)
    refine wpAny_pure (hR h' tk' acc c as (fun b o h1 h2 h3 h4 h5 e => he b o h2 h3 h4 h5 (hkeep b o h1 h2 h3 h4 h5 e)) (he Sc _ e1 e2 e3 e4 hS) (by omega) ⟨hG.rise, hG.above, fun j a hj => ?_⟩ hacc)
    obtain ⟨x, y, g1, g2, g3⟩ := hG.pairs j a hj
    obtain ⟨f1, f2, f3, f4, _⟩ := far (hG.above a (List.mem_of_getElem? hj))
    exact ⟨x, y, g1, g2, he a _ f1 f2 f3 f4 g3⟩
  | succ k ih =>
    intro i h tk c acc as hk hi hst hkeep hS hacc hal hG
    have hsz : acc.size = i := by rw [← Array.length_toList, hacc, List.length_map, hal]
    refine codeAny_builtin PySem.F.entry_extend_loop ?_
    rw [Around.under_plainId PySem.F.plain_extend_loop _]
    show wpAny _ A.in1 (pyNext (.ref z) >>= _) _ _ _
    refine wpAny_bind (zst_item (s := { s with heap := h, toks := tk }) (Sc := Sc) S D1 D2 hst (Heap.lt_size hS) (by omega) (by omega) fun x y h' tk' hx hy hst' ht hz hkp => ?_)
    dsimp only at ht hz hkp ⊢
    have hS' := hkp Sc _ e1 e2 e3 e4 hS
    have up : ∀ b o, b ≠ Sc → h'.get? b = some o → (h'.update Sc (Obj.mapSeq (·.push (Value.ref h.objs.size)))).get? b = some o := fun b o hb e => (Heap.get?_update_other _ _ (Ne.symm hb)).trans e
    have hSl : Sc < h.objs.size := Heap.lt_size hS
    show wpAny _ A.in1 (updateSeq Sc (·.push (Value.ref h.objs.size)) >>= _) _ _ _
    refine wpAny_bind ?_
    refine wpAny_updateSeq hS' rfl (wpAny_pure ⟨plainId_quiet PySem.F.plain_extend_loop _, ih (i + 1) _ tk' _ (acc.push (Value.ref h.objs.size)) (as ++ [h.objs.size]) (by omega) (by omega) (hst'.keep S D1 D2 up (Ne.symm e1) (Nat.ne_of_lt sI) (Nat.ne_of_lt sO) s1 s2)
      (fun b o h1 h2 h3 h4 h5 e => up b o h1 (hkp b o h2 h3 h4 h5 (hkeep b o h1 h2 h3 h4 h5 e))) (Heap.get?_update_self _ hS' rfl) (by rw [Array.toList_push, hacc, List.map_append]; rfl) (by rw [List.length_append, hal]; rfl) ⟨?_, ?_, ?_⟩⟩) (by rw [hsz]; omega) (by show (acc.push (Value.ref h.objs.size)).size ≤ sizeLine + 1; rw [Array.size_push, hsz]; omega)
    · refine List.pairwise_append.mpr ⟨hG.rise, List.pairwise_singleton _ _, fun a ha b hb => ?_⟩
      rw [List.mem_singleton.mp hb]
      exact hG.there ha
    · intro a ha
      rcases List.mem_append.mp ha with ha | ha
      · exact hG.above a ha
      · rw [List.mem_singleton.mp ha]; exact hSl
    · intro j b hj
      rcases Nat.lt_trichotomy j as.length with h1 | h1 | h1
      · rw [List.getElem?_append_left h1] at hj
        obtain ⟨x', y', g1, g2, g3⟩ := hG.pairs j b hj
        obtain ⟨f1, f2, f3, f4, f5⟩ := far (hG.above b (List.mem_of_getElem? hj))
        exact ⟨x', y', g1, g2, up b _ f5 (hkp b _ f1 f2 f3 f4 g3)⟩
      · subst h1
        have hb : h.objs.size = b := by simpa using hj
        subst hb
        exact ⟨x, y, by rw [hal]; exact hx, by rw [hal]; exact hy, up _ _ (Nat.ne_of_gt hSl) ht⟩
      · have hnone : (as ++ [h.objs.size])[j]? = none := List.getElem?_eq_none (by rw [List.length_append, List.length_singleton]; omega)
        rw [hnone] at hj; cases hj
theorem zip_len : typeLookup (.type "zip") "__len__" = pure none := by rw [typeLookup_type, builtinLookup_eq_fast]; kernel_rfl
theorem zip_hint0 : typeLookup (.type "zip") "__length_hint__" = pure none := by rw [typeLookup_type, builtinLookup_eq_fast]; kernel_rfl
theorem kz_hint (hT : s.TypeIs (.ref z) "zip") {Q : Bool → Shared → Prop} (h : Q true s) : wpAny (model prog w) A (Builtin.List.listLengthHint (.ref z)) Q E s := by
  unfold Builtin.List.listLengthHint
  refine wpAny_bind (wpAny_specialOf hT zip_len ?_)
  show wpAny _ _ (specialOf (.ref z) (Str.ofString "__length_hint__") >>= _) _ _ _
  refine wpAny_bind (wpAny_specialOf hT zip_hint0 ?_)
  exact wpAny_pure h
theorem kz_extend {R : Result → Shared → Prop} {Sc : Addr} (S : ZipSep2 z TI TO i1 i2 fp1 fp2) (D1 : Draws prog w A.in1.in1 i1 fp1 n1 P1 St1) (D2 : Draws prog w A.in1.in1 i2 fp2 n2 P2 St2)
    (sz : z < Sc) (sI : TI < Sc) (sO : TO < Sc) (q1 : i1 < Sc) (q2 : i2 < Sc) (s1 : Sc ∉ fp1) (s2 : Sc ∉ fp2) (hn : min n1 n2 ≤ sizeLine) (res : Value) (c₀ : Nat)
    (hz : IsZip s.heap z TI TO .none) (hTI : IsTupOf2 s.heap TI (.ref i1) (.ref i2)) {a1 a2 : Value} (hTO : IsTupOf2 s.heap TO a1 a2) (st1 : St1 0 s.heap) (st2 : St2 0 s.heap)
    (hS : s.heap.get? Sc = some { cls := .type "list", data := .seq #[] c₀ })
    (hR : ∀ h' tk acc c as, (∀ b o, b ≠ Sc → b ≠ z → b ≠ TO → b ≠ i1 → b ≠ i2 → s.heap.get? b = some o → h'.get? b = some o) → h'.get? Sc = some { cls := .type "list", dict := none, data := .seq acc c, slots := #[] } → as.length = min n1 n2 → KzG P1 P2 Sc h' as →
      acc.toList = as.map Value.ref → R (.ok (.ret res)) { s with heap := h', toks := tk }) :
    wpAny (model prog w) A.in1 (Builtin.List.listExtendWith (.ref Sc) (.ref z) res)
      (fun fin s' => match fin with | .done f => R (.ok f) s' | .again c' => c'.quiet = true ∧ codeAny (model prog w) A c' R s') (fun e s' => R (.error e) s') s := by
  have key : ∀ (h : Heap) (c₁ tk : Nat), (∀ b o, b ≠ Sc → s.heap.get? b = some o → h.get? b = some o) →
      h.get? Sc = some { cls := .type "list", data := .seq #[] c₁ } → codeAny (model prog w) A (.builtin "list.extend.loop" ⟨[.ref Sc, .ref z, res], []⟩) R { s with heap := h, toks := tk } := by
    intro h c₁ tk hk hS₁
    refine kz_loop (h₁ := s.heap) S D1 D2 sz sI sO q1 q2 s1 s2 hn res hR (min n1 n2) 0 h tk c₁ #[] [] (Nat.sub_zero _) (Nat.zero_le _) ?_ (fun b o hb _ _ _ _ e => hk b o hb e) hS₁ rfl rfl
      ⟨List.Pairwise.nil, (fun _ ha => nomatch ha), (fun j a hj => by simp at hj)⟩
    exact ⟨hk _ _ (Nat.ne_of_lt sI) hTI, D1.frame _ _ _ st1 fun b hb o e => hk b o (fun q => s1 (q ▸ hb)) e, D2.frame _ _ _ st2 fun b hb o e => hk b o (fun q => s2 (q ▸ hb)) e, .inl ⟨rfl, hk _ _ (Nat.ne_of_lt sz) hz, a1, a2, hk _ _ (Nat.ne_of_lt sO) hTO⟩⟩
  unfold Builtin.List.listExtendWith
  refine wpAny_bind (wpAny_typeOf (T := "zip") ⟨_, hz, rfl⟩ ?_)
  have h1 : Builtin.List.listSameRef (.ref Sc) (.ref z) = false := by simp [Builtin.List.listSameRef, Nat.ne_of_gt sz]
  have h2 : (Value.type "zip" == Value.type "list") = false := by decide
  have h3 : (Value.type "zip" == Value.type "tuple") = false := by decide
  simp only [h1, h2, h3, Bool.or_false, Bool.false_eq_true, if_false]
  refine wpAny_bind (wpAny_pyIter_zip hz ?_)
  refine wpAny_bind (wpAny_holding (kz_hint ⟨_, hz, rfl⟩ ?_))
  refine wpAny_ite_split (fun _ => ?_) (fun hh => absurd rfl hh)
  refine wpAny_bind (wpAny_rule ?_)
  refine wpAny_bind ?_
  show wpAny _ _ (updateSeq Sc (·.push .none) >>= fun _ => updateSeq Sc (·.pop)) _ _ _
  refine wpAny_bind (wpAny_updateSeq hS rfl ?_)
  have hS₂ := Heap.get?_update_self (Obj.mapSeq (·.push Value.none)) hS rfl
  refine wpAny_updateSeq (hz := by seq_fits) hS₂ rfl ?_
  have hS₃ := Heap.get?_update_self (Obj.mapSeq (·.pop)) hS₂ rfl
  refine wpAny_pure ⟨plainId_quiet PySem.F.plain_extend_loop _, key _ _ _ (fun b o hb e => ?_) hS₃⟩
  exact (Heap.get?_update_other _ _ (Ne.symm hb)).trans ((Heap.get?_update_other _ _ (Ne.symm hb)).trans e)
theorem kz_init {R : Result → Shared → Prop} {Sc : Addr} (S : ZipSep2 z TI TO i1 i2 fp1 fp2) (D1 : Draws prog w A.in1.in1 i1 fp1 n1 P1 St1) (D2 : Draws prog w A.in1.in1 i2 fp2 n2 P2 St2)
    (sz : z < Sc) (sI : TI < Sc) (sO : TO < Sc) (q1 : i1 < Sc) (q2 : i2 < Sc) (s1 : Sc ∉ fp1) (s2 : Sc ∉ fp2) (hn : min n1 n2 ≤ sizeLine)
    (hz : IsZip s.heap z TI TO .none) (hTI : IsTupOf2 s.heap TI (.ref i1) (.ref i2)) {a1 a2 : Value} (hTO : IsTupOf2 s.heap TO a1 a2) (st1 : St1 0 s.heap) (st2 : St2 0 s.heap)
    (hS : s.heap.get? Sc = some { cls := .type "list", data := .seq #[] })
    (hR : ∀ h' tk acc c as, (∀ b o, b ≠ Sc → b ≠ z → b ≠ TO → b ≠ i1 → b ≠ i2 → s.heap.get? b = some o → h'.get? b = some o) → h'.get? Sc = some { cls := .type "list", dict := none, data := .seq acc c, slots := #[] } → as.length = min n1 n2 → KzG P1 P2 Sc h' as →
      acc.toList = as.map Value.ref → R (.ok (.ret .none)) { s with heap := h', toks := tk }) :
    wpAny (model prog w) A.in1 (Builtin.«list.__init__» ⟨[.ref Sc, .ref z], []⟩)
      (fun fin s' => match fin with | .done f => R (.ok f) s' | .again c' => c'.quiet = true ∧ codeAny (model prog w) A c' R s') (fun e s' => R (.error e) s') s := by
  show wpAny _ _ (do let old ← Builtin.List.listItems (.ref Sc); Builtin.List.listUpdate (.ref Sc) (fun _ => #[]); letGo old.toList.reverse; Builtin.List.listExtendWith (.ref Sc) (.ref z) .none) _ _ s
  refine wpAny_bind ?_
  unfold Builtin.List.listItems
  refine wpAny_bind (wpAny_seqItems hS rfl (wpAny_pure ?_))
  show wpAny _ _ (updateSeq Sc (fun _ => #[]) >>= fun _ => letGo (#[] : Array Value).toList.reverse >>= fun _ => Builtin.List.listExtendWith (.ref Sc) (.ref z) .none) _ _ s
  refine wpAny_bind (wpAny_updateSeq hS rfl ?_)
  have hS₂ := Heap.get?_update_self (Obj.mapSeq (fun _ => (#[] : Array Value))) hS rfl
  have oth : ∀ b o, b ≠ Sc → s.heap.get? b = some o → (s.heap.update Sc (Obj.mapSeq (fun _ => (#[] : Array Value)))).get? b = some o :=
    fun b o hb e => (Heap.get?_update_other _ _ (Ne.symm hb)).trans e
  refine wpAny_bind (wpAny_letGo ?_)
  refine kz_extend S D1 D2 sz sI sO q1 q2 s1 s2 hn .none _ (oth _ _ (Nat.ne_of_lt sz) hz) (oth _ _ (Nat.ne_of_lt sI) hTI) (oth _ _ (Nat.ne_of_lt sO) hTO) (D1.frame _ _ _ st1 fun b hb o e => oth b o (fun q => s1 (q ▸ hb)) e) (D2.frame _ _ _ st2 fun b hb o e => oth b o (fun q => s2 (q ▸ hb)) e) hS₂ (fun h' tk acc c as hk hS' hl hG hacc => ?_)
  exact hR h' tk acc c as (fun b o hb g1 g2 g3 g4 e => hk b o hb g1 g2 g3 g4 (oth b o hb e)) hS' hl hG hacc
/-- list(z), z a new zip -/
theorem kz_call {Q : Value → Shared → Prop} (S : ZipSep2 z TI TO i1 i2 fp1 fp2) (D1 : Draws prog w A.in1.in1.in1 i1 fp1 n1 P1 St1) (D2 : Draws prog w A.in1.in1.in1 i2 fp2 n2 P2 St2) (s1 : s.heap.objs.size ∉ fp1) (s2 : s.heap.objs.size ∉ fp2) (hn : min n1 n2 ≤ sizeLine)
    (hz : IsZip s.heap z TI TO .none) (hTI : IsTupOf2 s.heap TI (.ref i1) (.ref i2)) {a1 a2 : Value} (hTO : IsTupOf2 s.heap TO a1 a2) (st1 : St1 0 s.heap) (st2 : St2 0 s.heap)
    (hQ : ∀ h' tk acc c as, (∀ b o, b ≠ z → b ≠ TO → b ≠ i1 → b ≠ i2 → s.heap.get? b = some o → h'.get? b = some o) → h'.get? s.heap.objs.size = some { cls := .type "list", dict := none, data := .seq acc c, slots := #[] } → as.length = min n1 n2 → KzG P1 P2 s.heap.objs.size h' as →
      acc.toList = as.map Value.ref → Q (.ref s.heap.objs.size) { s with heap := h', toks := tk }) :
    wpAny (model prog w) A (call (.type "list") [.ref z]) Q E s := by
  refine callType_codes (Q₁ := fun obj s₁ => obj = .ref s.heap.objs.size ∧ s₁ = { s with heap := s.heap.push { cls := .type "list", data := .seq #[] } }) PySem.F.called_list (PySem.F.typeCall_list_1 _) PySem.F.entry_list_init
    (code_list_new _ ⟨rfl, rfl⟩) fun obj s₁ h₁ => ?_
  obtain ⟨rfl, rfl⟩ := h₁
  have hS : (s.heap.push { cls := .type "list", data := .seq #[] }).get? s.heap.objs.size = some { cls := .type "list", data := .seq #[] } := Heap.get?_push_size _ rfl
  have up : ∀ b o, s.heap.get? b = some o → (s.heap.push { cls := .type "list", data := .seq #[] }).get? b = some o := fun b o e => Heap.get?_push_of_some _ e
  have l1 : i1 < s.heap.objs.size := by obtain ⟨_, e⟩ := D1.live _ _ st1; exact Heap.lt_size e
  have l2 : i2 < s.heap.objs.size := by obtain ⟨_, e⟩ := D2.live _ _ st2; exact Heap.lt_size e
  refine ⟨⟨_, hS, rfl⟩, PySem.F.args_list_init_2 _ _, kz_init (A := A.in1) S D1 D2 (Heap.lt_size hz) (Heap.lt_size hTI) (Heap.lt_size hTO) l1 l2 s1 s2 hn (up _ _ hz) (up _ _ hTI) (up _ _ hTO) (D1.frame _ _ _ st1 fun b hb o e => up b o e) (D2.frame _ _ _ st2 fun b hb o e => up b o e) hS (fun h' tk acc c as hk hS' hl hG hacc => ?_)⟩
  exact ⟨rfl, hQ h' tk acc c as (fun b o g1 g2 g3 g4 e => hk b o (Nat.ne_of_lt (Heap.lt_size e)) g1 g2 g3 g4 (up b o e)) hS' hl hG hacc⟩
end
/-- the tuples tracked at their addresses -/
def putZ : Hp → List Addr → List (V × V) → Hp
  | H, a :: as, p :: ps => putZ (upd H a (.tup [p.1, p.2])) as ps
  | H, _, _ => H
theorem putZ_off {b : Addr} : ∀ (as : List Addr) (ps : List (V × V)) (H : Hp), b ∉ as → putZ H as ps b = H b
  | [], _, _, _ => rfl
  | _ :: _, [], _, _ => rfl
  | a :: as, p :: ps, H, h => by
    show putZ (upd H a (.tup [p.1, p.2])) as ps b = H b
    rw [putZ_off as ps _ (fun z => h (List.mem_cons_of_mem _ z)), upd_ne (fun z => h (by rw [z]; exact List.mem_cons_self))]
theorem putZ_at : ∀ (as : List Addr) (ps : List (V × V)) (H : Hp), as.length = ps.length → as.Nodup → Paired (fun (t : Addr) (p : V × V) => putZ H as ps t = some (.tup [p.1, p.2])) as ps
  | [], [], _, _, _ => .nil
  | [], _ :: _, _, h, _ => by cases h
  | _ :: _, [], _, h, _ => by cases h
  | a :: as, p :: ps, H, h, hn => by
    have hn' := List.nodup_cons.mp hn
    have ih := putZ_at as ps (upd H a (.tup [p.1, p.2])) (Nat.succ.inj h) hn'.2
    refine .cons ?_ ih
    show putZ (upd H a (.tup [p.1, p.2])) as ps a = some (.tup [p.1, p.2])
    rw [putZ_off as ps _ hn'.1, upd_same]
theorem lz_laid {X : Cx} {pins : List (Addr × Obj)} {σ : L2.St} {H : Hp} {s : Shared} {h' : Heap} {tk : Nat} {xs ys : List V} {its its2 : List Value} {acc : Array Value} {c : Nat} {as : List Addr} {Sc : Addr} (I : Inv X pins σ H s) (hz : min xs.length ys.length ≤ sizeLine) (r1 : Vals xs its) (r2 : Vals ys its2)
    (hle : s.heap.objs.size ≤ Sc) (hk : ∀ b o, s.heap.get? b = some o → h'.get? b = some o) (hS : h'.get? Sc = some { cls := .type "list", dict := none, data := .seq acc c, slots := #[] }) (hl : as.length = min xs.length ys.length)
    (hG : KzG (fun j v => its[j]? = some v) (fun j v => its2[j]? = some v) Sc h' as) (hacc : acc.toList = as.map Value.ref) :
    ∃ H' : Hp, Ext H H' ∧ H Sc = none ∧ (∀ t ∈ as, H t = none) ∧ H' Sc = some (.lst (as.map V.ref)) ∧ (∀ b, H' b ≠ none → H b = none → b = Sc ∨ b ∈ as) ∧ Paired (fun (t : Addr) (q : V × V) => H' t = some (.tup [q.1, q.2])) as (xs.zip ys) ∧ Inv X pins σ H' { s with heap := h', toks := tk } := by
  have lk : as.length = (xs.zip ys).length := by rw [List.length_zip]; exact hl
  have hSn : Sc ∉ as := fun z => Nat.lt_irrefl _ (hG.above _ z)
  have nd : as.Nodup := List.Pairwise.imp (fun {a b} (h : a < b) => Nat.ne_of_lt h) hG.rise
  have new : ∀ t ∈ as, H t = none := fun t ht => I.hok.fresh (Nat.le_trans hle (Nat.le_of_lt (hG.above t ht)))
  have newS : H Sc = none := I.hok.fresh hle
  have atP := putZ_at as (xs.zip ys) (upd H Sc (.lst (as.map V.ref))) lk nd
  have off : ∀ b, b ∉ as → b ≠ Sc → putZ (upd H Sc (.lst (as.map V.ref))) as (xs.zip ys) b = H b := fun b h1 h2 => by rw [putZ_off as _ _ h1, upd_ne h2]
  have low : ∀ b o, s.heap.get? b = some o → b ∉ as ∧ b ≠ Sc := fun b o e => ⟨fun z => absurd (Heap.lt_size e) (Nat.not_lt.mpr (Nat.le_trans hle (Nat.le_of_lt (hG.above b z)))), Nat.ne_of_lt (Nat.lt_of_lt_of_le (Heap.lt_size e) hle)⟩
  have kp : ∀ b u, H b = some u → (putZ (upd H Sc (.lst (as.map V.ref))) as (xs.zip ys)) b = some u := fun b u e => by
    rw [off b (fun z => by rw [new b z] at e; cases e) (fun z => by rw [z, newS] at e; cases e)]
    exact e
  have eS : putZ (upd H Sc (.lst (as.map V.ref))) as (xs.zip ys) Sc = some (.lst (as.map V.ref)) := by rw [putZ_off as _ _ hSn, upd_same]
  refine ⟨putZ (upd H Sc (.lst (as.map V.ref))) as (xs.zip ys), kp, newS, new, eS, fun b h1 h2 => ?_, atP, ?_⟩
  · by_cases hb : b ∈ as
    · exact .inr hb
    · by_cases hb2 : b = Sc
      · exact .inl hb2
      · rw [off b hb hb2] at h1; exact absurd h2 h1
  refine I.call' (ch := []) rfl ⟨fun b o q _ _ _ => hk b o q, fun b o q _ _ _ => ⟨o.slots, hk b o q⟩, fun b o q n _ => ?_, fun b o q _ => ⟨o, hk b o q⟩, fun b xs q => kp b _ q, fun b o u q => kp b _ q, fun b ps q => ⟨#[], by rw [kp b _ q]; simp⟩⟩ (fun b u q => ?_) I.bare fun b z => by simp at z
  · obtain ⟨z1, z2⟩ := low b o q
    rw [off b z1 z2]
    exact n
  · by_cases hb : b ∈ as
    · obtain ⟨j, pk, e1, e2, e3⟩ := LiI.paired_ix atP hb
      rw [e3] at q
      cases q
      obtain ⟨x, y, f1, f2, f3⟩ := hG.pairs j b e1
      obtain ⟨g1, g2⟩ := List.getElem?_zip_eq_some.mp e2
      obtain ⟨u1, k1, k2⟩ := r1.get g1
      obtain ⟨u2, k3, k4⟩ := r2.get g2
      rw [f1] at k1; cases k1
      rw [f2] at k3; cases k3
      exact ⟨by show 2 ≤ sizeLine; decide, [x, y], .cons k2 (.cons k4 .nil), ⟨_, f3, rfl, _, rfl⟩⟩
    · by_cases hb2 : b = Sc
      · rw [hb2] at q ⊢
        rw [eS] at q
        cases q
        refine ⟨by rw [List.length_map]; omega, acc.toList, c, by rw [hacc]; exact LiI.vals_refs as, ?_⟩
        rw [Array.toArray_toList]
        exact hS
      · rw [off b hb hb2] at q
        exact (I.hok b u q).stay (fun d v _ y => hk d v y) (fun d y => kp d _ y) fun d xs y => kp d _ y
def tLZ (K : PySem.W.Frag) (ta : TA) : TE := fun σ H Q => ta σ H fun vs H1 => ∃ k1 k2 a b xs ys, vs = [.ref a, .ref b] ∧ SqK K H1 k1 a xs ∧ SqK K H1 k2 b ys ∧
  ∀ (H' : Hp) (p : Addr) (ts : List Addr), Ext H1 H' → H1 p = none → (∀ t ∈ ts, H1 t = none) → H' p = some (.lst (ts.map V.ref)) → (∀ b, H' b ≠ none → H1 b = none → b = p ∨ b ∈ ts) → Paired (fun (t : Addr) (q : V × V) => H' t = some (.tup [q.1, q.2])) ts (xs.zip ys) → p ∉ ts → Q (.ref p) H'
theorem pe_listzip {X : Cx} {ex e2 : Expr} {ta : TA} {p p2 pos pos2 : Pos} (hc : X.calm = true) (hg : Gl X "list") (hm : X.mg "list" = none) (hv : bootBuiltins "list" = some (.type "list")) (hgz : Gl X "zip") (hmz : X.mg "zip" = none) (ha : PA X [ex, e2] ta)
    (hs : starEach [ex, e2] X.env = (false, eval ex X.env) :: starEach [e2] X.env := by rfl) (hpl : (backTo pos2 (starEach [e2] X.env)).any (·.1) = false := by rfl)
    (hs2 : starEach [.Call (.Name "zip" p2) [ex, e2] [] pos2] X.env = (false, eval (.Call (.Name "zip" p2) [ex, e2] [] pos2) X.env) :: starEach [] X.env := by rfl) :
    PE X (.Call (.Name "list" p) [.Call (.Name "zip" p2) [ex, e2] [] pos2] [] pos) (tLZ X.K ta) := by
  refine ⟨fun pins s σ H Q I h => ?_⟩
  refine wpAny_Call_Name_kw (ld_blt I hg hm hv ?_)
  refine PyProof.Rows.callWith_type1 ?_ hs2 rfl
  rw [hs2]
  show wpAny _ _ (spliced ((false, eval (.Call (.Name "zip" p2) [ex, e2] [] pos2) X.env) :: backTo pos (starEach [] X.env))) _ _ s
  refine Calls.spliced_cons ?_
  refine wpAny_Call_Name_kw (ld_blt I hgz hmz PyProof.Rows.boot_zip (PyProof.Rows.callWith_type1 (thn (ha.run pos2 pins s σ H _ I h) fun us s1 ⟨vs, H1, I1, r1, q1⟩ => ?_) hs hpl))
  obtain ⟨k1, k2, a, b, xs, ys, rfl, hqx, hqy, q⟩ := q1
  obtain ⟨u1, u2, rfl, hr1, hr2⟩ := vals2 r1
  cases hr1
  cases hr2
  obtain ⟨its, rv, p1, zx, la⟩ := sq_at I1 hqx
  obtain ⟨its2, rv2, p2, zy, lb⟩ := sq_at I1 hqy
  refine zip_begins2 (begins_sq k1 a its.toArray) (begins_sq k2 b its2.toArray) p1 p2 fun h' hz hTI hTO h1 h2 hsz hk => ?_
  have D : ZApart (s1.heap.objs.size + 4) (s1.heap.objs.size + 2) (s1.heap.objs.size + 3) s1.heap.objs.size (s1.heap.objs.size + 1) a b := by
    constructor
    · exact Nat.ne_of_lt (Nat.lt_of_lt_of_le la (Nat.le_add_right _ 3))
    · exact Nat.ne_of_lt (Nat.lt_of_lt_of_le lb (Nat.le_add_right _ 3))
    all_goals (refine PySem.W.neN ?_; omega)
  have ha4 : ∀ n : Nat, a ≠ s1.heap.objs.size + n := fun n => Nat.ne_of_lt (Nat.lt_of_lt_of_le la (Nat.le_add_right _ _))
  have hb4 : ∀ n : Nat, b ≠ s1.heap.objs.size + n := fun n => Nat.ne_of_lt (Nat.lt_of_lt_of_le lb (Nat.le_add_right _ _))
  have a1 : a ≠ s1.heap.objs.size := ha4 0
  have b1 : b ≠ s1.heap.objs.size := hb4 0
  have S : ZipSep2 (s1.heap.objs.size + 4) (s1.heap.objs.size + 2) (s1.heap.objs.size + 3) s1.heap.objs.size (s1.heap.objs.size + 1) [s1.heap.objs.size, a] [s1.heap.objs.size + 1, b] :=
    { TIz := D.TIz, TOz := D.TOz, TITO := D.TITO, TIi1 := D.TIi1, TIi2 := D.TIi2, mem1 := List.mem_cons_self, mem2 := List.mem_cons_self,
      zf1 := fun q => by rcases List.mem_cons.mp q with q | q; exact D.zi1 q; exact (ha4 4) (List.mem_singleton.mp q).symm,
      Tf1 := fun q => by rcases List.mem_cons.mp q with q | q; exact D.TOi1 q; exact D.aTO (List.mem_singleton.mp q).symm,
      zf2 := fun q => by rcases List.mem_cons.mp q with q | q; exact D.zi2 q; exact (hb4 4) (List.mem_singleton.mp q).symm,
      Tf2 := fun q => by rcases List.mem_cons.mp q with q | q; exact D.TOi2 q; exact D.bTO (List.mem_singleton.mp q).symm,
      sep1_2 := fun q => by rcases List.mem_cons.mp q with q | q; exact D.i12 q; exact b1 (List.mem_singleton.mp q).symm,
      sep2_1 := fun q => by rcases List.mem_cons.mp q with q | q; exact D.i12 q.symm; exact (ha4 1) (List.mem_singleton.mp q).symm }
  refine Calls.spliced_nil ?_
  have hh : X.A.in1.in1.in1.handled = none := I1.ok.hd hc
  have g1 : ((s1.heap.objs.size : Addr) + 5) ∉ [s1.heap.objs.size, a] := fun q => by
    rcases List.mem_cons.mp q with q | q
    · exact absurd q (PySem.W.neN (by omega))
    · exact (ha4 5) (List.mem_singleton.mp q).symm
  have g2 : ((s1.heap.objs.size : Addr) + 5) ∉ [s1.heap.objs.size + 1, b] := fun q => by
    rcases List.mem_cons.mp q with q | q
    · exact absurd q (PySem.W.neN (by omega))
    · exact (hb4 5) (List.mem_singleton.mp q).symm
  have lx := rv.length
  have ly := rv2.length
  refine kz_call (s := { s1 with heap := h' }) S (draws_sq hh k1 _ a a1 its.toArray) (draws_sq hh k2 _ b (hb4 1) its2.toArray) (by show h'.objs.size ∉ _; rw [hsz]; exact g1) (by show h'.objs.size ∉ _; rw [hsz]; exact g2) (by rw [List.size_toArray, List.size_toArray]; omega) hz hTI hTO ⟨iter0 k1 h1, p1.upto (hk a)⟩ ⟨iter0 k2 h2, p2.upto (hk b)⟩ fun h2 tk acc c as hk2 hS hl hG hacc => ?_
  have hG' : KzG (fun i v => its[i]? = some v) (fun i v => its2[i]? = some v) h'.objs.size h2 as := ⟨hG.rise, hG.above, fun j t hj => by
    obtain ⟨x, y, f1, f2, f3⟩ := hG.pairs j t hj
    exact ⟨x, y, by simpa using f1, by simpa using f2, f3⟩⟩
  have far : ∀ (n : Nat) (c : Addr) (o : Obj), s1.heap.get? c = some o → c ≠ s1.heap.objs.size + n := fun n c o e => Nat.ne_of_lt (Nat.lt_of_lt_of_le (Heap.lt_size e) (Nat.le_add_right _ _))
  obtain ⟨H', k1', k2', k3', k4', k5', k6', J⟩ := lz_laid (tk := tk) (Sc := h'.objs.size) I1 (by omega) rv rv2 (by rw [hsz]; exact Nat.le_add_right _ _) (fun c o e => hk2 c o (far 4 c o e) (far 3 c o e) (far 0 c o e) (far 1 c o e) (hk c o e)) hS (by rw [hl, List.size_toArray, List.size_toArray, lx, ly]) hG' hacc
  exact ⟨.ref _, H', J, rfl, q H' _ as k1' k2' k3' k4' k5' k6' fun z => Nat.lt_irrefl _ (hG.above _ z)⟩
def seqD : D → Option (List D)
  | .list ds => some ds
  | .tuple ds => some ds
  | _ => none
def lzD : D → D → Option Rv := fun x y => (seqD x).bind fun xs => (seqD y).bind fun ys => some (.fresh (zipD xs ys))
section
variable {K : PySem.W.Frag} {C : Cf} {F H : Hp} {e : Env} {σ : L2.St}
theorem dpz : ∀ {xs ys : List V} {ds es : List D} {ts : List Addr}, DpAll K F xs ds → DpAll K F ys es → Paired (fun (t : Addr) (q : V × V) => F t = some (.tup [q.1, q.2])) ts (xs.zip ys) → DpAll K F (ts.map V.ref) (zipD ds es)
  | [], _, _, _, _, .nil, _, .nil => .nil
  | _ :: _, [], _, _, _, .cons _ _, .nil, .nil => .nil
  | x :: xs, y :: ys, d :: ds, e :: es, t :: ts, .cons hx h1, .cons hy h2, .cons ht h3 => by
    show DpAll K F (.ref t :: ts.map V.ref) (.tuple [d, e] :: zipD ds es)
    exact .cons (.tup ht (.cons hx (.cons hy .nil))) (dpz h1 h2 h3)
theorem dh_seq (E : Ext F H) {v : V} {d : D} {ds : List D} (h : Dh K F H v d) (hd : seqD d = some ds) : ∃ k a xs, v = .ref a ∧ SqK K H k a xs ∧ DpAll K F xs ds := by
  unfold seqD at hd
  split at hd
  · cases hd; cases h with
    | lst h1 d1 => exact ⟨.l, _, _, rfl, .inl h1, d1⟩
  · cases hd; cases h with
    | tup h1 d1 => exact ⟨.t, _, _, rfl, ext_t E h1, d1⟩
  · cases hd
theorem paired_imp {α β : Type} {R S : α → β → Prop} : ∀ {l : List α} {m : List β}, (∀ a ∈ l, ∀ b, R a b → S a b) → Paired R l m → Paired S l m
  | _, _, _, .nil => .nil
  | _, _, h, .cons a r => .cons (h _ List.mem_cons_self _ a) (paired_imp (fun x hx => h x (List.mem_cons_of_mem _ hx)) r)
theorem rd_lz {w : Wd} {as : Sem1 (List Rv)} {Q : VK} (h : rdR w (eB (on2 lzD) as) σ H Q) : tLZ w.K (rdRs w as) σ H Q := by
  obtain ⟨C, F, e, R, P⟩ := h
  refine bindP R P fun F1 H1 e1 rs vs h1 R1 E1 q1 P1 => ?_
  obtain ⟨z, hz, P2⟩ := post_ofO P1
  obtain ⟨ds, hd, hf⟩ := Option.bind_eq_some_iff.mp hz
  have hdh := peeks_dh R1 q1 hd
  unfold on2 at hf
  split at hf
  · rename_i d1 d2
    obtain ⟨xs, hx, hf⟩ := Option.bind_eq_some_iff.mp hf
    obtain ⟨ys, hy, hf⟩ := Option.bind_eq_some_iff.mp hf
    cases hf
    cases hdh with
    | cons g1 gr =>
      cases gr with
      | cons g2 gn =>
        cases gn
        obtain ⟨k1, a, vx, rfl, s1, p1⟩ := dh_seq R1.ext g1 hx
        obtain ⟨k2, b, vy, rfl, s2, p2⟩ := dh_seq R1.ext g2 hy
        refine ⟨k1, k2, a, b, vx, vy, rfl, s1, s2, fun H' p ts c1 c2 c3 c4 c5 c6 c7 => ?_⟩
        have hts : ∀ t ∈ ts, F1 t = none := fun t ht => R1.ext.free (c3 t ht)
        have EF : Ext F1 (fun b => if b ∈ ts then H' b else F1 b) := fun b o ho => by
          show (if b ∈ ts then H' b else F1 b) = some o
          rw [if_neg (fun ht => by rw [hts b ht] at ho; cases ho)]; exact ho
        have EH : Ext (fun b => if b ∈ ts then H' b else F1 b) H' := fun b o ho => by
          have ho : (if b ∈ ts then H' b else F1 b) = some o := ho
          split at ho
          · exact ho
          · exact c1 b o (R1.ext b o ho)
        have A : After F1 (fun b => if b ∈ ts then H' b else F1 b) H1 H' := ⟨EF, EH, fun c n1 n2 => by
          have nt : c ∉ ts := fun ht => n1 (c3 c ht)
          refine ⟨?_, by show (if c ∈ ts then H' c else F1 c) = none; rw [if_neg nt]; exact n2⟩
          cases hc : H1 c with
          | none => exact absurd hc n1
          | some o => exact c1 c o hc, fun b ys hb => by
          show (if b ∈ ts then H' b else F1 b) = _
          by_cases hm : b ∈ ts
          · rw [if_pos hm]; exact hb
          · rw [if_neg hm]
            cases hc : H1 b with
            | none =>
              rcases c5 b (by rw [hb]; exact fun z => by cases z) hc with rfl | z
              · rw [c4] at hb; cases hb
              · exact absurd z hm
            | some o =>
              have := c1 b o hc
              rw [hb] at this; cases this
              exact R1.tup b ys hc⟩
        have hF6 : Paired (fun (t : Addr) (q : V × V) => (fun b => if b ∈ ts then H' b else F1 b) t = some (.tup [q.1, q.2])) ts (vx.zip vy) := paired_imp (fun t ht q hq => by
          show (if t ∈ ts then H' t else F1 t) = _
          rw [if_pos ht]; exact hq) c6
        have rr : RetR w.K (fun b => if b ∈ ts then H' b else F1 b) H1 H' (.fresh (zipD xs ys)) (.ref p) :=
          ⟨p, ts.map V.ref, rfl, c4, dpz (DpAll.ext EF p1) (DpAll.ext EF p2) hF6, by show (if p ∈ ts then H' p else F1 p) = none; rw [if_neg c7]; exact R1.ext.free c2, c2⟩
        exact P2 _ _ _ (R1.after A) EF (rr.rv R1 A)
  · cases hf
end
theorem ve_lz {X : Cx} {w : Wd} {ex e2 : Expr} {a b : Ev} {p p2 pos pos2 : Pos} (hw : w.K = X.K) (hc : X.calm = true) (hg : Gl X "list") (hm : X.mg "list" = none) (hv : bootBuiltins "list" = some (.type "list")) (hgz : Gl X "zip") (hmz : X.mg "zip" = none) (ha : PA X [ex, e2] (rdRs w (opds [a, b])))
    (hs : starEach [ex, e2] X.env = (false, eval ex X.env) :: starEach [e2] X.env := by rfl) (hpl : (backTo pos2 (starEach [e2] X.env)).any (·.1) = false := by rfl)
    (hs2 : starEach [.Call (.Name "zip" p2) [ex, e2] [] pos2] X.env = (false, eval (.Call (.Name "zip" p2) [ex, e2] [] pos2) X.env) :: starEach [] X.env := by rfl) :
    PE X (.Call (.Name "list" p) [.Call (.Name "zip" p2) [ex, e2] [] pos2] [] pos) (rdR w (eB (on2 lzD) (opds [a, b]))) :=
  pe_mono (pe_listzip hc hg hm hv hgz hmz ha hs hpl hs2) fun _ _ _ h => hw ▸ rd_lz h
end VI
set_option Elab.async false
set_option linter.all false
set_option maxRecDepth 100000
set_option maxHeartbeats 4000000
namespace VI
open PySem PySem.Spec PyProof.Rows L2
variable {K : PySem.W.Frag} {C : Cf} {F H : Hp} {e e' : Env} {σ : L2.St}
/-- f(a), a a new list that f may change -/
def eIx (fn : List D → List D → Option (Ret × List D)) (a : Ev) : Ev := fun e => (a e).bind fun r e1 => match r with
  | .fresh b => match fn b [] with
    | none => .no
    | some (.ok r, _) => .ok r e1
    | some (.ex x, _) => .ex x e1
  | _ => .no
theorem Rp.afterX (R : Rp K C F H e σ) {p : Addr} {F' H' : Hp} (hM : ¬ C.M p) (ap : Apar K H e σ p) (E : Ext F F') (E' : Ext F' H') (T : TupIn F' H') (frm : ∀ a, a ≠ p → H a ≠ none → F a = none → H' a = H a ∧ F' a = none) : Rp K C F' H' e σ := by
  have kT : ∀ a, H a ≠ none → F a = none → ¬ C.M a → (∃ i fp, TrAt K H e σ i fp ∧ a ∈ fp) → H' a = H a := fun a h0 h1 _ ⟨k, fp, ht, ha⟩ => (frm a (fun z => ap.2 k fp ht (z ▸ ha)) h0 h1).1
  refine ⟨R.len, E', fun a ha => ?_, fun a ha => ?_, fun i x hx => ?_, R.ml, R.ne, fun i fp h => ⟨(R.tn i fp (R.trBack kT h)).1, fun j fp' hj h' => (R.tn i fp (R.trBack kT h)).2 j fp' hj (R.trBack kT h')⟩, T⟩
  · have h := R.frm a ha
    exact (frm a (fun z => hM (z ▸ ha)) (by rw [h.1]; exact h.2) (R.off a ha)).2
  · have h := R.frm a ha
    rw [(frm a (fun z => hM (z ▸ ha)) (by rw [h.1]; exact h.2) (R.off a ha)).1]; exact h
  · obtain ⟨v, hv, q⟩ := R.sl i x hx
    refine ⟨v, hv, ?_⟩
    cases x with
    | fz d => exact Dp.ext E q
    | own ds =>
      obtain ⟨p', vs, rfl, h1, h2, h3, h4⟩ := q
      have k := frm p' (fun z => ap.1 i _ hx rfl (z ▸ hv)) (by rw [h1]; exact fun z => by cases z) h3
      exact ⟨p', vs, rfl, k.1.trans h1, h2.ext E, k.2, h4⟩
    | lent ds =>
      obtain ⟨vs, rfl, h1, h2, h3⟩ := q
      have k := frm (C.lam i) (fun z => hM (z ▸ R.ml _ h3)) (by rw [h1]; exact fun z => by cases z) (R.off _ (R.ml _ h3))
      exact ⟨vs, rfl, k.1.trans h1, h2.ext E, h3⟩
    | io ds =>
      obtain ⟨vs, rfl, h1, h2, h3, h4⟩ := q
      have k := frm (C.lam i) (fun z => ap.1 i _ hx rfl (z ▸ hv)) (by rw [h1]; exact fun z => by cases z) h3
      exact ⟨vs, rfl, k.1.trans h1, h2.ext E, k.2, h4⟩
    | tr b t =>
      obtain ⟨fp, o, nd, h, hb⟩ := q
      have k := fun a ha => frm a (fun z => ap.2 i fp ⟨b, t, v, F, hx, hv, o⟩ (z ▸ ha)) (o.some a ha) (h a ha).1
      exact ⟨fp, o.ext E fun a ha => (k a ha).1, nd, fun a ha => ⟨(k a ha).2, (h a ha).2⟩, hb⟩
theorem rd_callIx {w : Wd} {fn : List D → List D → Option (Ret × List D)} {a : Ev} {Q : VK} (h : rdR w (eIx fn a) σ H Q) : tCallS (spI w.K w.XR 1 fn) (WE w.W) (tCons (rdR w a) tNil) σ H Q := by
  obtain ⟨C, F, e, R, P⟩ := h
  unfold eIx at P
  refine bindP R P fun F1 H1 e1 r v h1 R1 E1 q1 P1 => ?_
  cases r with
  | fz d => exact P1.elim
  | bor i => exact P1.elim
  | fresh b =>
    obtain ⟨p, vs, rfl, hp, hd, hF, hM, ap⟩ := q1
    simp only at P1
    refine ⟨rfl, p, [], vs, F1, b, [], rfl, R1.ext, R1.tup, hF, hp, hd, .nil, ?_⟩
    split at P1
    · exact P1.elim
    · rename_i r b' hfn
      try simp only [hfn]
      intro v F' H' bs' E E' T frm hp' pF hd' qr
      have R2 := R1.afterX hM ap E E' T frm
      refine P1 v F' H' R2 E ?_
      cases r with
      | fz d => exact qr
      | fresh ds =>
        obtain ⟨q, zs, rfl, k1, k2, k3, k4⟩ := qr
        exact ⟨q, zs, rfl, k1, k2, k3, R1.notM k4, R1.apart k4, R1.apT k4 fun a h0 h1 _ ⟨k, fp, ht, ha⟩ => (frm a (fun z => ap.2 k fp ht (z ▸ ha)) h0 h1).1⟩
      | bor j => exact qr.elim
    · rename_i xx b' hfn
      try simp only [hfn]
      intro F' H' bs' cv od E E' T frm hp' pF hd' qx
      exact P1 F' H' cv od (R1.afterX hM ap E E' T frm) E qx
theorem ve_callIx {X : Cx} {W : WX} {XR : Hp → Hp → Xc → Value → Option Addr → Prop} {a : Expr} {ea : Ev} {p pos : Pos} {x : Str} {k : Nat} {fn : List D → List D → Option (Ret × List D)} (d : Defn X.prog X.w X.K X.mg X.base k x 1 (spI X.K XR 1 fn)) (hr : Room k X.A) (hu : X.A.guards = some []) (hg : Gl X x) (hx : ∀ σ, PassesAt (L2.CX X.prog X.w) X σ (WE W σ))
    (ha : PE X a (rdR (wd X W XR) ea)) (hdb : (x == ("__debug__" : Str)) = false := by decide) (he : starEach [a] X.env = (false, eval a X.env) :: starEach [] X.env := by rfl) :
    PE X (.Call (.Name x p) [a] [] pos) (rdR (wd X W XR) (eIx fn ea)) := by
  obtain ⟨f, fd, ps, hm, hk, hb, hl, F⟩ := d.ex
  exact pe_mono (pe_callG F hr hu hg hm hk hb hx (pa_cons ha pa_nil he) hdb he rfl) fun _ _ _ h => rd_callIx h
def okIx (z : Option (Ret × List D)) (e : Env) (Q : Po Rv) : Prop := match z with
  | some (.ok r, _) => Q r e
  | _ => False
theorem okIx_of {z : Option (Ret × List D)} {P : Rv → List D → Prop} {Q : Po Rv} (h : OkI z P) (k : ∀ r b, P r b → Q r e) : okIx z e Q := by
  obtain ⟨r, b, rfl, q⟩ := h
  exact k r b q
def kIx (fn : List D → List D → Option (Ret × List D)) (Q : Po Rv) : Po Rv := fun r e => match r with
  | .fresh b => okIx (fn b []) e Q
  | _ => False
@[simp] theorem kIx_eq {fn : List D → List D → Option (Ret × List D)} {Q : Po Rv} {b : List D} : kIx fn Q (.fresh b) e = okIx (fn b []) e Q := rfl
@[simp] theorem ok_Ix {fn : List D → List D → Option (Ret × List D)} {a : Ev} {Q : Po Rv} : Ok (eIx fn a e) Q = Ok (a e) (kIx fn Q) := by
  unfold eIx
  rw [ok_bind]
  congr 1
  funext r e1
  cases r with
  | fz d => rfl
  | bor i => rfl
  | fresh b =>
    show Ok (match fn b [] with | none => .no | some (.ok r, _) => .ok r e1 | some (.ex x, _) => .ex x e1) Q = okIx (fn b []) e1 Q
    cases fn b [] with
    | none => rfl
    | some w =>
      obtain ⟨w1, w2⟩ := w
      cases w1 <;> rfl
@[simp] theorem lzD_tt {xs ys : List D} : lzD (.tuple xs) (.tuple ys) = some (.fresh (zipD xs ys)) := rfl
@[simp] theorem lzD_tl {xs ys : List D} : lzD (.tuple xs) (.list ys) = some (.fresh (zipD xs ys)) := rfl
@[simp] theorem lzD_lt {xs ys : List D} : lzD (.list xs) (.tuple ys) = some (.fresh (zipD xs ys)) := rfl
@[simp] theorem lzD_ll {xs ys : List D} : lzD (.list xs) (.list ys) = some (.fresh (zipD xs ys)) := rfl
end VI
set_option Elab.async false
set_option linter.all false
set_option maxRecDepth 100000
set_option maxHeartbeats 4000000
namespace VI
open PySem PySem.Spec PyProof.Rows L2
section
variable {e : Env} {f g : F2} {a b c : Ev} {r x y : Rv}
def kC3 (g : F2) (y : Rv) (Q : Po Rv) : Po Rv := kOpd fun z e4 => Ok (ofO (ap2 g y z e4) e4) Q
@[simp] theorem kC3_eq {Q : Po Rv} : kC3 g y Q r e = okO (ap2 g y (calmR r) e) e Q := ok_ofO
def kCb (g : F2) (y : Rv) (c : Ev) (Q : Po Rv) : Po Bool := fun k e => if k = true then Ok (c e) (kC3 g y Q) else Q (.fz (.bool false)) e
@[simp] theorem kCb_eq {Q : Po Rv} {k : Bool} : kCb g y c Q k e = if k = true then Ok (c e) (kC3 g y Q) else Q (.fz (.bool false)) e := rfl
def kC2 (f g : F2) (x : Rv) (c : Ev) (Q : Po Rv) : Po Rv := kOpd fun y e2 => Ok (ofO ((ap2 f x y e2).bind fun r => asB r e2) e2) (kCb g y c Q)
@[simp] theorem kC2_eq {Q : Po Rv} : kC2 f g x c Q r e = okO ((ap2 f x (calmR r) e).bind fun r => asB r e) e (kCb g (calmR r) c Q) := ok_ofO
def kC1 (f g : F2) (b c : Ev) (Q : Po Rv) : Po Rv := kOpd fun x e1 => Ok (b e1) (kC2 f g x c Q)
@[simp] theorem kC1_eq {Q : Po Rv} : kC1 f g b c Q r e = Ok (b e) (kC2 f g (calmR r) c Q) := rfl
@[simp] theorem asB_bool {k : Bool} : asB (.fz (.bool k)) e = some k := rfl
@[simp] theorem ok_chain2 {Q : Po Rv} : Ok (chain2 f g a b c e) Q = Ok (a e) (kC1 f g b c Q) := by
  unfold chain2
  rw [ok_bind, ok_opd]
  congr 1
  funext x e1
  show Ok (_) Q = Ok (b e1) (kC2 f g (calmR x) c Q)
  rw [ok_bind, ok_opd]
  congr 1
  funext y e2
  show Ok (_) Q = Ok _ (kCb g (calmR y) c Q)
  rw [ok_bind]
  congr 1
  funext k e3
  cases k with
  | false => rfl
  | true =>
    show Ok ((opd c e3).bind _) Q = Ok (c e3) (kC3 g (calmR y) Q)
    rw [ok_bind, ok_opd]; rfl
end
def relabelS (scope sc : Scope) : Scope :=
  { scope with names := scope.names.map fun (n, k) => if (k == .free && sc.kind == .function && sc.names.lookup n == some .cell) then (n, .cell) else (n, k) }
theorem blkOk_in {N : List Str} {sc scope scope1 : Scope} {env : PySem.Env} {C : Addr} {cl : List (Str × Addr)} {own : List (Str × Nat)} (h : env.scope = sc) (hb : blkC N (relabelS scope1 sc) scope own = true) : BlkOk N (compEnvC scope1 cl C env).scope scope own := by
  have e : (compEnvC scope1 cl C env).scope = relabelS scope1 sc := by subst h; rfl
  rw [e]
  exact blkOk_by hb
end VI
set_option Elab.async false
set_option linter.all false
set_option maxRecDepth 100000
set_option maxHeartbeats 4000000
namespace VI
open PySem PySem.Spec PyProof.Rows L2
variable {K : PySem.W.Frag} {C : Cf} {F H : Hp} {e e' : Env} {σ : L2.St}
def gNames : List Nat → TGs
  | [] => gNil
  | i :: is => gCons (gName i) (gNames is)
theorem gNames_set : ∀ {is : List Nat} {vs : List V} {σ : L2.St} {H : Hp} {Q : L2.St → Hp → Prop}, vs.length = is.length → Q (setAll is vs σ) H → gNames is vs σ H Q
  | [], [], _, _, _, _, q => ⟨rfl, q⟩
  | i :: is, v :: vs, σ, H, Q, h, q => ⟨v, vs, rfl, gNames_set (is := is) (by simpa using h) q⟩
  | [], _ :: _, _, _, _, h, _ => by simp at h
  | _ :: _, [], _, _, _, h, _ => by simp at h
theorem RvR.grow {p : Addr} {o : HO} (R : Rp K C F H e σ) (hp : H p = none) {r : Rv} {v : V} (h : RvR K C F H e σ r v) : RvR K C (upd F p o) (upd H p o) e σ r v := by
  have hF : F p = none := R.ext.free hp
  cases r with
  | fz d => exact Dp.ext (Ext.new hF) h
  | bor i => exact h
  | fresh ds =>
    obtain ⟨q, ws, rfl, k1, k2, k3, k4, k5⟩ := h
    refine ⟨q, ws, rfl, ?_, k2.ext (Ext.new hF), by rw [upd_ne (fun z => by rw [z, hp] at k1; cases k1)]; exact k3, k4, k5.1, fun i fp ht => k5.2 i fp (R.trBack (fun a h0 _ _ _ => upd_ne (fun z => h0 (z ▸ hp))) ht)⟩
    rw [upd_ne (fun z => by rw [z, hp] at k1; cases k1)]
    exact k1
theorem RMs.grow {p : Addr} {o : HO} (R : Rp K C F H e σ) (hp : H p = none) : ∀ {rs : List Rv} {vs : List V}, RMs K C F H e σ rs vs → RMs K C (upd F p o) (upd H p o) e σ rs vs
  | [], [], _ => trivial
  | r :: rs, v :: vs, h => ⟨h.1.grow R hp, h.2.1, h.2.2.1, RMs.grow R hp h.2.2.2⟩
  | [], _ :: _, h => h.elim
  | _ :: _, [], h => h.elim
theorem rd_parT {w : Wd} {D : Ends} {is : List Nat} {as : List Ev} (hl : is.length ≤ 100) (h : rdS w (parS is as) D σ H) : tAsg (tTup (rdMs w (mvs as))) (gTup w.K is.length (gNames is)) D σ H := by
  obtain ⟨C, F, e, R, P⟩ := h
  refine bindS R P fun F1 H1 e1 rs vs h1 R1 E1 q1 P1 => ?_
  have hlen := (PostS.stores R1 q1 P1).1
  refine ⟨by rw [sizeLine_eq]; omega, fun p hp => ?_⟩
  have R2 := R1.growT (o := .tup vs) hp
  obtain ⟨_, k⟩ := PostS.stores R2 (RMs.grow R1 hp q1) (PostS.mono (Ext.new (R1.ext.free hp)) P1)
  exact ⟨p, vs, rfl, .inl (.inl (upd_same ..)), hlen, gNames_set hlen k⟩
theorem vs_parT {X : Cx} {w : Wd} {es ts : List Expr} {as : List Ev} {is : List Nat} {kt k2 : Nat} {pt pt2 pos : Pos} (hk : w.K = X.K) (hc : X.calm = true) (ha : PA X es (rdMs w (mvs as))) (hg : PGs X ts (gNames is))
    (hl : is.length ≤ 100 := by decide) (hn : (assignEach ts X.env).length = is.length := by rfl) (hst : (assignEach ts X.env).findIdx? (·.1) = none := by rfl)
    (hs : swapsWithSole [.Tuple ts kt pt] (.Tuple es k2 pt2) pos.line X.env = pure false := by rfl) (hw : swappedStores [.Tuple ts kt pt] (.Tuple es k2 pt2) X.env = pure none := by rfl)
    (h1 : (assignEach [.Tuple ts kt pt] X.env).map (·.2) = [assign (.Tuple ts kt pt) X.env] := by rfl) :
    PS X (.Assign [.Tuple ts kt pt] (.Tuple es k2 pt2) pos) (rdS w (parS is as)) := ps_mono (ps_asg (pe_tup ha) (pg_tup hc hg hn hst) hs hw h1) fun D σ H h => by
  have := rd_parT hl h
  rw [hk] at this
  exact this
end VI
set_option Elab.async false
set_option linter.all false
set_option maxRecDepth 100000
set_option maxHeartbeats 4000000
namespace VI
open PySem PySem.Spec PyProof.Rows L2
variable {K : PySem.W.Frag} {C : Cf} {F H : Hp} {e e' : Env} {σ : L2.St}
def eL1 (fn : List D → List D → Option (Ret × List D)) (i j : Nat) : Ev := fun e => if i = j then .no else match mutAt e i, mutAt e j with
  | some b, some xs => match fn b xs with
    | none => .no
    | some (.ok r, b') => .ok r (putAt e i b')
    | some (.ex x, b') => .ex x (putAt e i b')
  | _, _ => .no
/-- the promise of a def of two lists: it may change the first, and reads the second -/
def spL1 (K : PySem.W.Frag) (XR : Hp → Hp → Xc → Value → Option Addr → Prop) (fn : List D → List D → Option (Ret × List D)) : Sp := fun vs H Q E => vs.length = 2 ∧ ∃ p q bs us F b xs, vs = [.ref p, .ref q] ∧ q ≠ p ∧ Ext F H ∧ TupIn F H ∧ F p = none ∧ H p = some (.lst bs) ∧ DpAll K F bs b ∧ F q = none ∧ H q = some (.lst us) ∧ DpAll K F us xs ∧ match fn b xs with
  | none => False
  | some (.ok r, b') => ∀ v F' H' bs', Ext F F' → Ext F' H' → TupIn F' H' → (∀ a, a ≠ p → H a ≠ none → F a = none → H' a = H a ∧ F' a = none) → H' p = some (.lst bs') → F' p = none → DpAll K F' bs' b' → RetR K F' H H' r v → Q v H'
  | some (.ex x, b') => ∀ F' H' bs' cv od, Ext F F' → Ext F' H' → TupIn F' H' → (∀ a, a ≠ p → H a ≠ none → F a = none → H' a = H a ∧ F' a = none) → H' p = some (.lst bs') → F' p = none → DpAll K F' bs' b' → XR F' H' x cv od → E cv od H'
theorem ev_mut {i : Nat} {b : List D} (hm : mutAt e i = some b) : eV i e = .ok (.bor i) e := by
  unfold mutAt at hm
  unfold eV
  split at hm <;> first | (cases hm; done) | skip
  all_goals (rename_i hq; rw [hq])
theorem Rp.mutNe (R : Rp K C F H e σ) {i j : Nat} {b xs : List D} (hij : i ≠ j) (hi : VI.mutAt e i = some b) (hj : VI.mutAt e j = some xs) : σ[i]? ≠ σ[j]? := by
  unfold VI.mutAt at hi hj
  split at hi <;> first | (cases hi; done) | skip
  all_goals
    rename_i q1
    split at hj <;> first | (cases hj; done) | skip
    all_goals
      rename_i q2
      exact R.ne i j _ _ hij q1 q2 rfl rfl
theorem rd_callL1 {w : Wd} {i j : Nat} {fn : List D → List D → Option (Ret × List D)} {Q : VK} (h : rdR w (eL1 fn i j) σ H Q) : tCallS (spL1 w.K w.XR fn) (WE w.W) (tCons (rdR w (eV i)) (tCons (rdR w (eV j)) tNil)) σ H Q := by
  obtain ⟨C, F, e, R, P⟩ := h
  unfold eL1 at P
  split at P
  · exact P.elim
  rename_i hij
  split at P
  · rename_i b xs hm hm'
    refine ⟨C, F, e, R, ?_⟩
    rw [ev_mut hm]
    intro v F1 H1 R1 E1 q1
    have q1 : σ[i]? = some (some v) := q1
    have P := Post.mono E1 P
    refine ⟨C, F1, e, R1, ?_⟩
    rw [ev_mut hm']
    intro v2 F2 H2 R2 E2 q2
    have q2 : σ[j]? = some (some v2) := q2
    have P := Post.mono E2 P
    obtain ⟨p, ws, hv, hp, hd, hF, put, _⟩ := R2.mutAt hm
    obtain ⟨q, us, hv2, hq, hxs, hFq, _, _⟩ := R2.mutAt hm'
    rw [q1] at hv; cases hv
    rw [q2] at hv2; cases hv2
    have hne : q ≠ p := fun z => R2.mutNe hij hm hm' (by rw [q1, q2, z])
    refine ⟨rfl, p, q, ws, us, F2, b, xs, rfl, hne, R2.ext, R2.tup, hF, hp, hd, hFq, hq, hxs, ?_⟩
    split at P
    · exact P.elim
    · rename_i r b' hfn
      try simp only [hfn]
      intro v F' H' bs' E E' T frm hp' pF hd' qr
      refine P v F' H' (R2.afterI hm q1 E E' T frm hp' pF hd') E ?_
      cases r with
      | fz d => exact qr
      | fresh ds =>
        obtain ⟨q, zs, rfl, k1, k2, k3, k4⟩ := qr
        exact ⟨q, zs, rfl, k1, k2, k3, R2.notM k4, R2.apartI hm q1 frm k4⟩
      | bor j => exact qr.elim
    · rename_i xx b' hfn
      try simp only [hfn]
      intro F' H' bs' cv od E E' T frm hp' pF hd' qx
      exact P F' H' cv od (R2.afterI hm q1 E E' T frm hp' pF hd') E qx
  · exact P.elim
theorem ve_callL1 {X : Cx} {W : WX} {XR : Hp → Hp → Xc → Value → Option Addr → Prop} {a a2 : Expr} {i j : Nat} {p pos : Pos} {x : Str} {k : Nat} {fn : List D → List D → Option (Ret × List D)} (d : Defn X.prog X.w X.K X.mg X.base k x 2 (spL1 X.K XR fn)) (hr : Room k X.A) (hu : X.A.guards = some []) (hg : Gl X x) (hx : ∀ σ, PassesAt (L2.CX X.prog X.w) X σ (WE W σ))
    (ha : PE X a (rdR (wd X W XR) (eV i))) (ha2 : PE X a2 (rdR (wd X W XR) (eV j))) (hdb : (x == ("__debug__" : Str)) = false := by decide) (he2 : starEach [a2] X.env = (false, eval a2 X.env) :: starEach [] X.env := by rfl) (he : starEach [a, a2] X.env = (false, eval a X.env) :: starEach [a2] X.env := by rfl) (hpl : (backTo pos (starEach [a2] X.env)).any (·.1) = false := by rfl) :
    PE X (.Call (.Name x p) [a, a2] [] pos) (rdR (wd X W XR) (eL1 fn i j)) := by
  obtain ⟨f, fd, ps, hm, hk, hb, hl, F⟩ := d.ex
  exact pe_mono (pe_callG F hr hu hg hm hk hb hx (pa_cons ha (pa_cons ha2 pa_nil he2) he) hdb he hpl) fun _ _ _ h => rd_callL1 h
def initL (n : Nat) (b xs : List D) : Env := some (.io b) :: some (.lent xs) :: List.replicate (n - 2) none
def fnL (body : St1) (n : Nat) (b xs : List D) : Option (Ret × List D) := match body (initL n b xs) with
  | .ok (.ret r) e => (ioAt e).bind fun b' => some (.ok r, b')
  | .ok .nx e => (ioAt e).bind fun b' => some (.ok (.fz .none), b')
  | .ex x e => (ioAt e).bind fun b' => some (.ex x, b')
  | _ => none
def cfL (F H : Hp) (p q : Addr) : Cf := ⟨fun a => H a ≠ none ∧ F a = none ∧ a ≠ p, H, fun i => if i = 1 then q else p, fun i => i = 1⟩
theorem initL_get {n : Nat} {b xs : List D} {i : Nat} {x : Sv} (h : (initL n b xs)[i]? = some (some x)) : (i = 0 ∧ x = .io b) ∨ (i = 1 ∧ x = .lent xs) := by
  unfold initL at h
  match i, h with
  | 0, h => simp at h; exact .inl ⟨rfl, h.symm⟩
  | 1, h => simp at h; exact .inr ⟨rfl, h.symm⟩
  | i + 2, h =>
    rw [List.getElem?_cons_succ, List.getElem?_cons_succ, List.getElem?_replicate] at h
    split at h <;> cases h
theorem rp_initL {N : List Str} (hN : 2 ≤ N.length) {us bs : List V} {b xs : List D} {p q : Addr} (hne : q ≠ p) (E : Ext F H) (T : TupIn F H) (hp : H p = some (.lst bs)) (hb : DpAll K F bs b) (pF : F p = none) (hq : H q = some (.lst us)) (hx : DpAll K F us xs) (qF : F q = none) : Rp K (cfL F H p q) F H (initL N.length b xs) (L2.start N [.ref p, .ref q]) := by
  refine ⟨?_, E, fun a ha => ha.2.1, fun a ha => ⟨rfl, ha.1⟩, fun i x hx' => ?_, fun i h => ?_, fun i j x y hij hx hy mx my => ?_, fun i fp ⟨b, t, v, F', he, _⟩ => by (rcases initL_get he with ⟨_, z⟩ | ⟨_, z⟩ <;> cases z), T⟩
  · unfold initL L2.start
    simp only [List.length_append, List.length_map, List.length_replicate, List.length_cons, List.length_nil]
    omega
  · rcases initL_get hx' with ⟨rfl, rfl⟩ | ⟨rfl, rfl⟩
    · exact ⟨.ref p, start_get rfl, bs, rfl, hp, hb, pF, fun z => z.2.2 rfl⟩
    · exact ⟨.ref q, start_get rfl, us, rfl, hq, hx, rfl⟩
  · have h : i = 1 := h
    subst h
    have h0 : H q ≠ none := by rw [hq]; simp
    exact ⟨h0, qF, hne⟩
  · rcases initL_get hx with ⟨rfl, rfl⟩ | ⟨rfl, rfl⟩
    · rcases initL_get hy with ⟨rfl, rfl⟩ | ⟨rfl, rfl⟩
      · exact absurd rfl hij
      · cases my
    · cases mx
section
variable {P : Program} {w : World} {mg : Str → Option Value} {base : Heap} {XR : Hp → Hp → Xc → Value → Option Addr → Prop} {x qual : Str} {st : Stmt} {f : Addr} {fd : FuncData} {N ps : List Str} {k : Nat} {body : St1}
theorem def_okL (FF : Fun K x qual st f fd) (S : FnScope N ps (defScope st)) (hps : ps.length = 2) (hN : 2 ≤ N.length)
    (hbody : ∀ (cdv : Value) (A : Around) (outer : List PySem.Env) (s : Shared) (H : Hp) (E : XK), Room k (A.deeper (envOfC qual (defScope st) s.heap.objs.size f cdv)) → A.guards = some [] →
      PSs (cxOf (L2.CX P w) P w K mg base N qual (defScope st) f cdv A outer s H E) (defBody st) (rdS ⟨K, fun c d _ H => E c d H, XR⟩ body)) : FnG P w K mg base (k + 1) f fd ps (spL1 K XR (fnL body N.length)) := by
  refine Fun.okG FF S (fun vs H Q E h => h.1.trans hps.symm) (fun cdv A outer s H vs Q E hr hgd h => ⟨_, hbody cdv A outer s H E hr hgd, ?_⟩)
  obtain ⟨hl, p, q, bs, us, F, b, xs, rfl, hne, EX, TX, pF, hp, hb0, qF, hq, hx0, m⟩ := h
  refine ⟨cfL F H p q, F, initL N.length b xs, rp_initL hN hne EX TX hp hb0 pF hq hx0 qF, ?_⟩
  have frm : ∀ {F' H' : Hp} {e' : Env} {σ' : L2.St}, Rp K (cfL F H p q) F' H' e' σ' → ∀ a, a ≠ p → H a ≠ none → F a = none → H' a = H a ∧ F' a = none := fun R a h0 h1 h2 => ⟨(R.frm a ⟨h1, h2, h0⟩).1, R.off a ⟨h1, h2, h0⟩⟩
  have io : ∀ {F' H' : Hp} {e' : Env} {σ' : L2.St} {b' : List D}, Rp K (cfL F H p q) F' H' e' σ' → ioAt e' = some b' → ∃ bs', H' p = some (.lst bs') ∧ F' p = none ∧ DpAll K F' bs' b' ∧ σ'[0]? = some (some (.ref p)) ∧ e'[0]? = some (some (.io b')) := fun {F' H' e' σ' b'} R h => by
    unfold ioAt at h
    split at h
    · rename_i b1 h1
      cases h
      obtain ⟨v, hv, vs, rfl, k1, k2, k3, k4⟩ := R.sl _ _ h1
      exact ⟨vs, k1, k3, k2, hv, h1⟩
    · cases h
  unfold fnL at m
  cases hb : body (initL N.length b xs) with
  | no => rw [hb] at m; exact m
  | ex x e' =>
    rw [hb] at m
    intro F' H' σ' cv od R E' q
    simp only at m
    cases hi : ioAt e' with
    | none => rw [hi] at m; exact m.elim
    | some b' =>
      rw [hi] at m
      obtain ⟨bs', k1, k2, k3, _⟩ := io R hi
      exact m F' H' bs' cv od E' R.ext R.tup (frm R) k1 k2 k3 q
  | ok fl e' =>
    rw [hb] at m
    cases fl with
    | nx =>
      intro F' H' σ' R E'
      simp only at m
      cases hi : ioAt e' with
      | none => rw [hi] at m; exact m.elim
      | some b' =>
        rw [hi] at m
        obtain ⟨bs', k1, k2, k3, _⟩ := io R hi
        exact m .non F' H' bs' E' R.ext R.tup (frm R) k1 k2 k3 .non
    | bk => exact m.elim
    | ct => exact m.elim
    | ret r =>
      intro v F' H' σ' R E' q hr
      simp only at m
      cases hi : ioAt e' with
      | none => rw [hi] at m; exact m.elim
      | some b' =>
        rw [hi] at m
        obtain ⟨bs', k1, k2, k3, k4, k5⟩ := io R hi
        refine m v F' H' bs' E' R.ext R.tup (frm R) k1 k2 k3 ?_
        cases r with
        | fz d => exact q
        | fresh ds =>
          obtain ⟨q, vs, rfl, j1, j2, j3, j4, j5⟩ := q
          refine ⟨q, vs, rfl, j1, j2, j3, ?_⟩
          cases h0 : H q with
          | none => rfl
          | some o => exact absurd ⟨by rw [h0]; exact fun z => (by cases z), E'.free j3, fun z => j5.1 0 _ k5 rfl (by rw [k4, z])⟩ j4
        | bor j => rcases hr with hr | ⟨_, hr⟩ <;> cases hr
end
def okL1 (fn : List D → List D → Option (Ret × List D)) (i : Nat) (e : Env) (Q : Po Rv) (o o' : Option (List D)) : Prop := match o, o' with
  | some b, some xs => okIo (fn b xs) i e Q
  | _, _ => False
@[simp] theorem okL1_some {fn : List D → List D → Option (Ret × List D)} {Q : Po Rv} {i : Nat} {b xs : List D} : okL1 fn i e Q (some b) (some xs) = okIo (fn b xs) i e Q := rfl
theorem putAt_O {i : Nat} {b : List D} : putAt e i b = putO e[i]? i b e := by
  unfold putAt putO
  split <;> simp_all
@[simp] theorem ok_L1 {fn : List D → List D → Option (Ret × List D)} {i j : Nat} {Q : Po Rv} : Ok (eL1 fn i j e) Q = (i ≠ j ∧ okL1 fn i e Q (mutO e[i]?) (mutO e[j]?)) := by
  unfold eL1
  by_cases h : i = j
  · rw [if_pos h]; simp [h, Ok]
  rw [if_neg h, mut_eq, mut_eq]
  simp only [ne_eq, h, not_false_eq_true, true_and]
  cases mutO e[i]? with
  | none => rfl
  | some b =>
    cases mutO e[j]? with
    | none => rfl
    | some xs =>
      simp only [okL1_some]
      unfold okIo
      cases fn b xs with
      | none => rfl
      | some z =>
        obtain ⟨r, b'⟩ := z
        cases r with
        | ok r => simp only [putAt_O]; rfl
        | ex x => rfl
theorem fnL_of {body : St1} {n : Nat} {b xs : List D} {P : Rv → List D → Prop} (h : Ok (body (initL n b xs)) (endI P)) : OkI (fnL body n b xs) P := by
  unfold fnL OkI
  cases hb : body (initL n b xs) with
  | no => rw [hb] at h; exact h.elim
  | ex x e => rw [hb] at h; exact h.elim
  | ok fl e =>
    rw [hb] at h
    have h : endI P fl e := h
    obtain ⟨b', h1, h2⟩ := h
    cases fl with
    | nx => exact ⟨_, b', by simp [h1], h2⟩
    | bk => exact h2.elim
    | ct => exact h2.elim
    | ret r => exact ⟨r, b', by simp [h1], h2⟩
@[simp] theorem initL_eq {n : Nat} {b xs : List D} : initL n b xs = some (.io b) :: some (.lent xs) :: List.replicate (n - 2) none := rfl
end VI
set_option Elab.async false
set_option linter.all false
set_option maxRecDepth 100000
set_option maxHeartbeats 4000000
namespace VI
open PySem PySem.Spec PyProof.Rows L2
variable {K : PySem.W.Frag} {C : Cf} {F H : Hp} {e e' : Env} {σ : L2.St}
def orL (a b : Ev) : Ev := fun e => (a e).bind fun x e1 => match x with
  | .fresh [] => b e1
  | .fresh (d :: ds) => .ok (.fresh (d :: ds)) e1
  | _ => .no
section
variable {w : Wd} {X : Cx} {a b : Expr} {rest : List Expr} {ea eb : Ev} {pos : Pos}
theorem ve_orL (ha : PE X a (rdR w ea)) (hb : PE X (.BoolOp .Or (b :: rest) pos) (rdR w eb)) : PE X (.BoolOp .Or (a :: b :: rest) pos) (rdR w (orL ea eb)) := pe_mono (pe_orT ha hb) fun σ H Q q => by
  obtain ⟨C, F, e, R, P⟩ := q
  refine bindP R P fun F1 H1 e1 x v1 h1 R1 E1 q1 P1 => ?_
  cases x with
  | fz d => exact P1.elim
  | bor i => exact P1.elim
  | fresh ds =>
    obtain ⟨p, vs, rfl, hp, hd, h4⟩ := q1
    cases ds with
    | nil =>
      cases hd
      exact ⟨false, .inl ⟨[], .of hp, rfl⟩, iteF ⟨C, F1, e1, R1, P1⟩⟩
    | cons d ds =>
      cases hd with
      | cons h5 h6 => exact ⟨true, .inl ⟨_, .of hp, rfl⟩, iteT (P1.ok' R1 ⟨p, _, rfl, hp, .cons h5 h6, h4⟩)⟩
end
def kOrL (b : Ev) (Q : Po Rv) : Po Rv := fun x e => match x with
  | .fresh [] => Ok (b e) Q
  | .fresh (d :: ds) => Q (.fresh (d :: ds)) e
  | _ => False
@[simp] theorem kOrL_nil {b : Ev} {Q : Po Rv} : kOrL b Q (.fresh []) e = Ok (b e) Q := rfl
@[simp] theorem kOrL_cons {b : Ev} {Q : Po Rv} {d : D} {ds : List D} : kOrL b Q (.fresh (d :: ds)) e = Q (.fresh (d :: ds)) e := rfl
@[simp] theorem ok_orL {a b : Ev} {Q : Po Rv} : Ok (orL a b e) Q = Ok (a e) (kOrL b Q) := by
  unfold orL
  rw [ok_bind]
  congr 1
  funext r e1
  cases r with
  | fz d => rfl
  | fresh ds => cases ds <;> rfl
  | bor _ => rfl
end VI
set_option Elab.async false
set_option linter.all false
set_option maxRecDepth 100000
set_option maxHeartbeats 4000000
namespace VI
open PySem PySem.Spec PyProof.Rows L2
variable {K : PySem.W.Frag}
def flatD : D → Bool
  | .none => true
  | .bool _ => true
  | .int _ => true
  | .str _ => true
  | _ => false
def vOf : D → V
  | .none => .non
  | .bool b => .bl b
  | .int i => .int i
  | .str s => .str s
  | _ => .non
theorem flat_plain {d : D} (f : flatD d = true) : plainD d = true := by
  cases d <;> first | (unfold plainD; rfl) | cases f
theorem flat_plainA {ds : List D} (f : ds.all flatD = true) : plainD (.tuple ds) = true := by
  unfold plainD
  exact plainA_of fun d hd => flat_plain (List.all_eq_true.mp f d hd)
theorem flat_dp {H : Hp} {v : V} {d : D} (h : L2.Dp K H v d) (f : flatD d = true) : v = vOf d ∧ flatV v = true := by
  cases h with
  | non => exact ⟨rfl, rfl⟩
  | bl b => exact ⟨rfl, rfl⟩
  | int i => exact ⟨rfl, rfl⟩
  | str x => exact ⟨rfl, rfl⟩
  | lst _ _ => cases f
  | tup _ _ => cases f
theorem flat_dpAll {H : Hp} : ∀ {vs : List V} {ds : List D}, L2.DpAll K H vs ds → ds.all flatD = true → vs = ds.map vOf ∧ vs.all flatV = true
  | _, _, .nil, _ => ⟨rfl, rfl⟩
  | _, _, .cons h t, f => by
    rw [List.all_cons, Bool.and_eq_true] at f
    obtain ⟨h1, h2⟩ := flat_dp h f.1
    obtain ⟨h3, h4⟩ := flat_dpAll t f.2
    exact ⟨by rw [List.map_cons, ← h1, ← h3], by rw [List.all_cons, h2, h4]; rfl⟩
def anyT (x : D) (ds : List D) : Bool := ds.any fun z => eqV (vOf z) (vOf x)
def inT : F2 := fun x y => match y with
  | .tuple ds => if flatD x && ds.all flatD then some (.fz (.bool (anyT x ds))) else none
  | _ => none
def notInT : F2 := fun x y => match y with
  | .tuple ds => if flatD x && ds.all flatD then some (.fz (.bool (!anyT x ds))) else none
  | _ => none
theorem anyT_eq {x : D} {ds : List D} : inV (vOf x) (ds.map vOf) = anyT x ds := by
  unfold inV anyT
  rw [List.any_map]; rfl
theorem s_inT : OpS K inT (rIn K false) := by
  intro F H x y dx dy z E hx hy hz Q k
  unfold inT at hz
  split at hz
  · split at hz
    · rename_i hs
      rw [Bool.and_eq_true] at hs
      cases hz
      have h1 := (hx.dp E).l2 (flat_plain hs.1)
      have h2 := (hy.dp E).l2 (flat_plainA hs.2)
      cases h2 with
      | tup hq hd =>
        obtain ⟨e1, f1⟩ := flat_dp h1 hs.1
        obtain ⟨e2, f2⟩ := flat_dpAll hd hs.2
        refine ⟨_, _, rfl, .inr hq, f1, f2, ?_⟩
        rw [e1, e2, anyT_eq]
        exact k _ _ (.old (.bl _))
    · cases hz
  · cases hz
theorem s_notInT : OpS K notInT (rIn K true) := by
  intro F H x y dx dy z E hx hy hz Q k
  unfold notInT at hz
  split at hz
  · split at hz
    · rename_i hs
      rw [Bool.and_eq_true] at hs
      cases hz
      have h1 := (hx.dp E).l2 (flat_plain hs.1)
      have h2 := (hy.dp E).l2 (flat_plainA hs.2)
      cases h2 with
      | tup hq hd =>
        obtain ⟨e1, f1⟩ := flat_dp h1 hs.1
        obtain ⟨e2, f2⟩ := flat_dpAll hd hs.2
        refine ⟨_, _, rfl, .inr hq, f1, f2, ?_⟩
        rw [e1, e2, anyT_eq]
        exact k _ _ (.old (.bl _))
    · cases hz
  · cases hz
end VI
set_option Elab.async false
set_option linter.all false
set_option maxRecDepth 100000
set_option maxHeartbeats 4000000
namespace VI
open PySem PySem.Spec PyProof.Rows L2
variable {K : PySem.W.Frag} {C : Cf} {F H : Hp} {e e' : Env} {σ : L2.St}
mutual
/-- as data -/
def OT.d : OT → D
  | .fz d => d
  | .lst ts => .list (OT.ds ts)
  | .dT ks ts => .dict ((ks.map keysD).zip (OT.ds ts))
  | .dK ks ts => .dict ((.none, .none) :: (ks.map keyD).zip (OT.ds ts))
  | .ins _ _ _ => .none
def OT.ds : List OT → List D
  | [] => []
  | t :: ts => t.d :: OT.ds ts
end
mutual
/-- no instance within -/
def OT.flat : OT → Bool
  | .fz _ => true
  | .lst ts => OT.flatL ts
  | .dT _ ts => OT.flatL ts
  | .dK _ ts => OT.flatL ts
  | .ins _ _ _ => false
def OT.flatL : List OT → Bool
  | [] => true
  | t :: ts => t.flat && OT.flatL ts
end
theorem ds_map : ∀ ts : List OT, OT.ds ts = ts.map OT.d
  | [] => rfl
  | t :: ts => by unfold OT.ds; rw [ds_map ts]; rfl
theorem ds_fz : ∀ ds : List D, OT.ds (ds.map OT.fz) = ds
  | [] => rfl
  | d :: ds => by
    show OT.d (.fz d) :: OT.ds (ds.map OT.fz) = _
    rw [ds_fz ds]; unfold OT.d; rfl
/-- the thing at slot i is changed: it stands behind at the same name, made of what it was made of and of new objects -/
theorem Rp.trPut (R : Rp K C F H e σ) {i : Nat} {b : Bool} {t t' : OT} {v : V} {fp fp' : List Addr} {F' H' : Hp} (he : e[i]? = some (some (.tr b t))) (hv : σ[i]? = some (some v)) (o : Ow K F H t v fp) (E : Ext F F') (EH : Ext F' H')
    (hk : ∀ a, H a ≠ none → a ∉ fp → H' a = H a ∧ (F a = none → F' a = none)) (TU : TupIn F' H') (o' : Ow K F' H' t' v fp') (nd : fp'.Nodup) (hn : ∀ a ∈ fp', F' a = none ∧ (a ∈ fp ∨ H a = none)) (hr : b = true → C.lam i ∈ fp') :
    Rp K C F' H' (e.set i (some (.tr b t'))) σ := by
  obtain ⟨u, hu, fp1, o1, nd1, h1, hb1⟩ := R.sl _ _ he
  rw [hv] at hu; cases hu
  cases o.uniq o1
  have T : TrAt K H e σ i fp := ⟨b, t, v, F, he, hv, o⟩
  have il : i < e.length := (List.getElem?_eq_some_iff.mp he).1
  have keepM : ∀ a, C.M a → H' a = H a ∧ F' a = none := fun a ha => by
    have h := R.frm a ha
    have k := hk a (by rw [h.1]; exact h.2) (fun z => (h1 a z).2 ha)
    exact ⟨k.1, k.2 (R.off a ha)⟩
  have nfp : ∀ (j : Nat) (y : Sv) (a : Addr), e[j]? = some (some y) → y.mu = true → σ[j]? = some (some (V.ref a)) → a ∉ fp := fun j y a hy my hs hq => (R.tn i fp T).1 a hq j y hy my hs
  have low : ∀ {j : Nat} {y : Sv}, (e.set i (some (.tr b t')))[j]? = some (some y) → (i = j ∧ y = .tr b t') ∨ (i ≠ j ∧ e[j]? = some (some y)) := fun {j y} h => by
    rcases getset h with ⟨rfl, z⟩ | ⟨hj, h⟩
    · cases z; exact .inl ⟨rfl, rfl⟩
    · exact .inr ⟨hj, h⟩
  -- where the others stand
  have oth : ∀ {j : Nat} {fq : List Addr}, i ≠ j → TrAt K H' (e.set i (some (.tr b t'))) σ j fq → TrAt K H e σ j fq := fun {j fq} hj h => by
    obtain ⟨b2, t2, v2, F2, he2, hv2, o2⟩ := h
    rcases low he2 with ⟨z, _⟩ | ⟨_, he2⟩
    · exact absurd z hj
    obtain ⟨u, hu, fq', oq, _, hF, _⟩ := R.sl _ _ he2
    rw [hv2] at hu; cases hu
    have Tq : TrAt K H e σ j fq' := ⟨b2, t2, v2, F, he2, hv2, oq⟩
    have oq2 : Ow K F H' t2 v2 fq' := oq.ext (.refl F) fun a ha => (hk a (oq.some a ha) (fun z => (R.tn i fp T).2 j fq' hj Tq a z ha)).1
    cases oq2.uniq o2
    exact Tq
  have own : ∀ {fq : List Addr}, TrAt K H' (e.set i (some (.tr b t'))) σ i fq → fq = fp' := fun {fq} h => by
    obtain ⟨b2, t2, v2, F2, he2, hv2, o2⟩ := h
    rcases low he2 with ⟨_, z⟩ | ⟨z, _⟩
    · cases z
      rw [hv] at hv2; cases hv2
      exact o2.uniq o'
    · exact absurd rfl z
  have newA : ∀ a, H a = none → Apart e σ (.ref a) := fun a ha => R.apart ha
  have apF : ∀ a ∈ fp', Apart (e.set i (some (.tr b t'))) σ (.ref a) := fun a ha j y hy my hs => by
    rcases low hy with ⟨_, z⟩ | ⟨_, hy⟩
    · cases z; cases my
    · rcases (hn a ha).2 with q | q
      · exact (R.tn i fp T).1 a q j y hy my hs
      · exact newA a q j y hy my hs
  refine ⟨by rw [List.length_set]; exact R.len, EH, fun a ha => (keepM a ha).2, fun a ha => ?_, fun j x hx => ?_, R.ml, fun j k x y hjk hx hy mx my => ?_, fun j fq h => ⟨fun a ha => ?_, fun k fq' hjk h' a ha => ?_⟩, TU⟩
  · have h := R.frm a ha
    rw [(keepM a ha).1]; exact h
  · rcases low hx with ⟨rfl, rfl⟩ | ⟨hj, hx⟩
    · refine ⟨v, hv, fp', o', nd, fun a ha => ⟨(hn a ha).1, ?_⟩, fun z => ⟨(hb1 z).1, hr z⟩⟩
      rcases (hn a ha).2 with q | q
      · exact (h1 a q).2
      · exact R.notM q
    · obtain ⟨u, hu, q⟩ := R.sl j x hx
      refine ⟨u, hu, ?_⟩
      cases x with
      | fz d => exact Dp.ext E q
      | own ds =>
        obtain ⟨p, vs, rfl, k1, k2, k3, k4⟩ := q
        have k := hk p (by rw [k1]; exact fun z => by cases z) (nfp j _ p hx rfl hu)
        exact ⟨p, vs, rfl, k.1.trans k1, k2.ext E, k.2 k3, k4⟩
      | lent ds =>
        obtain ⟨vs, rfl, k1, k2, k3⟩ := q
        exact ⟨vs, rfl, (keepM _ (R.ml j k3)).1.trans k1, k2.ext E, k3⟩
      | io ds =>
        obtain ⟨vs, rfl, k1, k2, k3, k4⟩ := q
        have k := hk (C.lam j) (by rw [k1]; exact fun z => by cases z) (nfp j _ _ hx rfl hu)
        exact ⟨vs, rfl, k.1.trans k1, k2.ext E, k.2 k3, k4⟩
      | tr b2 t2 =>
        obtain ⟨fq, oq, ndq, hq, hbq⟩ := q
        have Tq : TrAt K H e σ j fq := ⟨b2, t2, u, F, hx, hu, oq⟩
        have k := fun a ha => hk a (oq.some a ha) (fun z => (R.tn i fp T).2 j fq hj Tq a z ha)
        exact ⟨fq, oq.ext E fun a ha => (k a ha).1, ndq, fun a ha => ⟨(k a ha).2 (hq a ha).1, (hq a ha).2⟩, hbq⟩
  · rcases low hx with ⟨_, rfl⟩ | ⟨hj, hx⟩
    · cases mx
    rcases low hy with ⟨_, rfl⟩ | ⟨hk, hy⟩
    · cases my
    exact R.ne j k x y hjk hx hy mx my
  · by_cases hj : i = j
    · subst hj
      rw [own h] at ha
      exact apF a ha
    · intro k y hy my hs
      rcases low hy with ⟨_, z⟩ | ⟨_, hy⟩
      · cases z; cases my
      · exact (R.tn j fq (oth hj h)).1 a ha k y hy my hs
  · by_cases hj : i = j
    · subst hj
      rw [own h] at ha
      intro hq
      rcases (hn a ha).2 with q | q
      · exact (R.tn i fp T).2 k fq' hjk (oth hjk h') a q hq
      · exact ((R.trFp (oth hjk h')).1 a hq).2.2 q
    · by_cases hk2 : i = k
      · subst hk2
        rw [own h']
        intro hq
        rcases (hn a hq).2 with q | q
        · exact (R.tn i fp T).2 j fq hj (oth hj h) a q ha
        · exact ((R.trFp (oth hj h)).1 a ha).2.2 q
      · exact (R.tn j fq (oth hj h)).2 k fq' hjk (oth hk2 h') a ha
/-- a thing of our own that no name holds -/
def NewAt (K : PySem.W.Frag) (C : Cf) (F H : Hp) (e : Env) (σ : L2.St) (t : OT) (v : V) : Prop := ∃ fp, Ow K F H t v fp ∧ fp.Nodup ∧ ∀ a ∈ fp, F a = none ∧ ¬ C.M a ∧ Apar K H e σ a
/-- a name takes it -/
theorem Rp.putTr (R : Rp K C F H e σ) {i : Nat} {t : OT} {v : V} (h : freeAt e i = true) (q : NewAt K C F H e σ t v) : Rp K C F H (e.set i (some (.tr false t))) (σ.set i (some v)) := by
  obtain ⟨fp, o, nd, hF⟩ := q
  have lt : i < σ.length := by
    rw [← R.len]
    unfold freeAt at h
    split at h <;> first | (cases h; done) | skip
    rename_i hs; exact (List.getElem?_eq_some_iff.mp hs).1
  have low : ∀ {j : Nat} {y : Sv}, (e.set i (some (.tr false t)))[j]? = some (some y) → (i = j ∧ y = .tr false t) ∨ (i ≠ j ∧ e[j]? = some (some y)) := fun {j y} h => by
    rcases getset h with ⟨rfl, z⟩ | ⟨hj, h⟩
    · cases z; exact .inl ⟨rfl, rfl⟩
    · exact .inr ⟨hj, h⟩
  have oth : ∀ {j : Nat} {fq : List Addr}, i ≠ j → TrAt K H (e.set i (some (.tr false t))) (σ.set i (some v)) j fq → TrAt K H e σ j fq := fun {j fq} hj h => by
    obtain ⟨b2, t2, v2, F2, he2, hv2, o2⟩ := h
    rcases low he2 with ⟨z, _⟩ | ⟨_, he2⟩
    · exact absurd z hj
    rw [List.getElem?_set_ne hj] at hv2
    exact ⟨b2, t2, v2, F2, he2, hv2, o2⟩
  have own : ∀ {fq : List Addr}, TrAt K H (e.set i (some (.tr false t))) (σ.set i (some v)) i fq → fq = fp := fun {fq} h => by
    obtain ⟨b2, t2, v2, F2, he2, hv2, o2⟩ := h
    rcases low he2 with ⟨_, z⟩ | ⟨z, _⟩
    · cases z
      rw [List.getElem?_set_self lt] at hv2; cases hv2
      exact o2.uniq o
    · exact absurd rfl z
  refine ⟨by rw [List.length_set, List.length_set]; exact R.len, R.ext, R.off, R.frm, fun j x hx => ?_, R.ml, fun j k x y hjk hx hy mx my => ?_, fun j fq h => ⟨fun a ha k y hy my hs => ?_, fun k fq' hjk h' a ha hq => ?_⟩, R.tup⟩
  · rcases low hx with ⟨rfl, rfl⟩ | ⟨hj, hx⟩
    · exact ⟨v, by rw [List.getElem?_set_self lt], fp, o, nd, fun a ha => ⟨(hF a ha).1, (hF a ha).2.1⟩, fun z => by cases z⟩
    · obtain ⟨u, hu, z⟩ := R.sl j x hx
      exact ⟨u, by rw [List.getElem?_set_ne hj]; exact hu, z⟩
  · rcases low hx with ⟨_, rfl⟩ | ⟨hj, hx⟩
    · cases mx
    rcases low hy with ⟨_, rfl⟩ | ⟨hk, hy⟩
    · cases my
    rw [List.getElem?_set_ne hj, List.getElem?_set_ne hk]
    exact R.ne j k x y hjk hx hy mx my
  · rcases low hy with ⟨_, rfl⟩ | ⟨hk, hy⟩
    · cases my
    rw [List.getElem?_set_ne hk] at hs
    by_cases hj : i = j
    · subst hj
      rw [own h] at ha
      exact (hF a ha).2.2.1 k y hy my hs
    · exact (R.tn j fq (oth hj h)).1 a ha k y hy my hs
  · by_cases hj : i = j
    · subst hj
      rw [own h] at ha
      exact (hF a ha).2.2.2 k fq' (oth hjk h') hq
    · by_cases hk2 : i = k
      · subst hk2
        rw [own h'] at hq
        exact (hF a hq).2.2.2 j fq (oth hj h) ha
      · exact (R.tn j fq (oth hj h)).2 k fq' hjk (oth hk2 h') a ha hq
/-- H2 is H with the things at L locked -/
def Locked (L : List Addr) (H H2 : Hp) : Prop := (∀ d ∈ L, ∃ od u, H d = some u ∧ H2 d = some (.frz od u)) ∧ ∀ a, a ∉ L → H2 a = H a
theorem inv_lockL {X : Cx} {pins : List (Addr × Obj)} {s : Shared} : ∀ {L : List Addr} {H : Hp}, Inv X pins σ H s → L.Nodup → (∀ d ∈ L, ∃ u, H d = some u ∧ Mut (some u)) → ∃ H2, Inv X pins σ H2 s ∧ Locked L H H2
  | [], H, I, _, _ => ⟨H, I, ⟨fun d h => absurd h List.not_mem_nil, fun _ _ => rfl⟩⟩
  | d :: L, H, I, nd, hm => by
    obtain ⟨u, hu, mu⟩ := hm d List.mem_cons_self
    obtain ⟨od, I1⟩ := I.lock hu mu
    have nd' := List.nodup_cons.mp nd
    obtain ⟨H2, I2, h1, h2⟩ := inv_lockL I1 nd'.2 fun d' hd' => by
      obtain ⟨u', hu', mu'⟩ := hm d' (List.mem_cons_of_mem _ hd')
      exact ⟨u', by rw [upd_ne (show d' ≠ d from fun z => nd'.1 (z ▸ hd'))]; exact hu', mu'⟩
    refine ⟨H2, I2, fun d' hd' => ?_, fun a ha => ?_⟩
    · rcases List.mem_cons.mp hd' with rfl | hd'
      · exact ⟨od, u, hu, by rw [h2 d' nd'.1, upd_same]⟩
      · obtain ⟨od', u', k1, k2⟩ := h1 d' hd'
        rw [upd_ne (show d' ≠ d from fun z => nd'.1 (z ▸ hd'))] at k1
        exact ⟨od', u', k1, k2⟩
    · have hn : a ≠ d ∧ a ∉ L := by simpa using ha
      rw [h2 a hn.2, upd_ne hn.1]
/-- .. unlocked -/
def unlockH (L : List Addr) (H H2 : Hp) : Hp := fun a => if a ∈ L then H a else H2 a
theorem inv_unlockL {X : Cx} {pins : List (Addr × Obj)} {s : Shared} {H : Hp} : ∀ {L : List Addr} {H2 : Hp}, Inv X pins σ H2 s → (∀ d ∈ L, ∃ od u, H d = some u ∧ H2 d = some (.frz od u) ∧ ∀ o' u', X.H_0 d ≠ some (.frz o' u')) → L.Nodup → Inv X pins σ (unlockH L H H2) s
  | [], H2, I, _, _ => by
    have : unlockH [] H H2 = H2 := by funext a; simp [unlockH]
    rw [this]; exact I
  | d :: L, H2, I, h, nd => by
    have nd' := List.nodup_cons.mp nd
    obtain ⟨od, u, k1, k2, k3⟩ := h d List.mem_cons_self
    have I1 := inv_unlockL I (fun d' hd' => h d' (List.mem_cons_of_mem _ hd')) nd'.2
    have e1 : unlockH L H H2 d = some (.frz od u) := by unfold unlockH; rw [if_neg nd'.1]; exact k2
    have I2 := I1.unlock e1 k3
    have : upd (unlockH L H H2) d u = unlockH (d :: L) H H2 := by
      funext a
      by_cases ha : a = d
      · subst ha; rw [upd_same]; unfold unlockH; rw [if_pos List.mem_cons_self]; exact k1.symm
      · rw [upd_ne ha]
        unfold unlockH
        by_cases hL : a ∈ L
        · rw [if_pos hL, if_pos (List.mem_cons_of_mem _ hL)]
        · rw [if_neg hL, if_neg (by simp only [List.mem_cons, not_or]; exact ⟨ha, hL⟩)]
    rw [← this]; exact I2
/-- behind the expression the things at some places are locked for good -/
def tLockA (t : TE) : TE := fun σ H Q => t σ H fun v H1 => ∃ L : List Addr, L.Nodup ∧ (∀ d ∈ L, ∃ u, H1 d = some u ∧ Mut (some u)) ∧ ∀ H2, Locked L H1 H2 → Q v H2
/-- .. before it, and unlocked behind it -/
def tLockL {α : Type} (t : L2.St → Hp → (α → Hp → Prop) → Prop) : L2.St → Hp → (α → Hp → Prop) → Prop := fun σ H Q => ∃ L : List Addr, L.Nodup ∧ (∀ d ∈ L, ∃ u, H d = some u ∧ Mut (some u)) ∧
  ∀ H1, Locked L H H1 → t σ H1 fun v H2 => (∀ d ∈ L, H2 d = H1 d) ∧ Q v (unlockH L H H2)
section
variable {X : Cx} {ex : Expr}
theorem pe_lockA {t : TE} (h : PE X ex t) : PE X ex (tLockA t) := ⟨fun pins s σ H Q I hw => thn (h.run pins s σ H _ I hw) fun v s1 ⟨x, H1, I1, r, L, nd, hm, q⟩ => by
  obtain ⟨H2, I2, k⟩ := inv_lockL I1 nd hm
  exact ⟨x, H2, I2, r, q H2 k⟩⟩
theorem pe_lockL {t : TE} (h : PE X ex t) : PE X ex (tLockL t) := ⟨fun pins s σ H Q I hw => by
  obtain ⟨L, nd, hm, hw⟩ := hw
  obtain ⟨H1, I1, k⟩ := inv_lockL I nd hm
  refine thn (h.run pins s σ H1 _ I1 (hw H1 k)) fun v s1 ⟨x, H2, I2, r, q1, q2⟩ => ?_
  refine ⟨x, _, inv_unlockL I2 (fun d hd => ?_) nd, r, q2⟩
  obtain ⟨od, u, k1, k2⟩ := k.1 d hd
  obtain ⟨u', k3, mu⟩ := hm d hd
  rw [k1] at k3; cases k3
  exact ⟨od, u, k1, (q1 d hd).trans k2, I.nofrz k1 mu⟩⟩
theorem pt_lockL {t : TT} (h : PT X ex t) : PT X ex (tLockL t) := ⟨fun pins s σ H Q I hw => by
  obtain ⟨L, nd, hm, hw⟩ := hw
  obtain ⟨H1, I1, k⟩ := inv_lockL I nd hm
  refine thn (h.run pins s σ H1 _ I1 (hw H1 k)) fun b s1 ⟨H2, I2, q1, q2⟩ => ?_
  refine ⟨_, inv_unlockL I2 (fun d hd => ?_) nd, q2⟩
  obtain ⟨od, u, k1, k2⟩ := k.1 d hd
  obtain ⟨u', k3, mu⟩ := hm d hd
  rw [k1] at k3; cases k3
  exact ⟨od, u, k1, (q1 d hd).trans k2, I.nofrz k1 mu⟩⟩
end
end VI
set_option Elab.async false
set_option linter.all false
set_option maxRecDepth 100000
set_option maxHeartbeats 4000000
namespace VI
open PySem PySem.Spec PyProof.Rows L2
variable {K : PySem.W.Frag} {C : Cf} {F H : Hp} {e e' : Env} {σ : L2.St}
def isDc : HO → Bool
  | .dT _ => true
  | .dK _ => true
  | _ => false
theorem isDc_mut {o : HO} (h : isDc o = true) : Mut (some o) := by
  cases o <;> first | exact True.intro | cases h
/-- G holds what stands at fp, its dicts locked -/
def Laid (H G : Hp) (fp : List Addr) : Prop := ∀ a ∈ fp, ∀ o, H a = some o → (isDc o = true → ∃ od, G a = some (.frz od o)) ∧ (isDc o = false → G a = some o)
theorem zip_snd {α β : Type} : ∀ {ks : List α} {vs : List β}, ks.length = vs.length → (ks.zip vs).map (·.2) = vs
  | [], [], _ => rfl
  | k :: ks, v :: vs, h => by simp only [List.zip_cons_cons, List.map_cons, zip_snd (by simpa using h)]
  | [], _ :: _, h => by simp at h
  | _ :: _, [], h => by simp at h
theorem zip_fst {α β γ : Type} {f : α → γ} : ∀ {ks : List α} {vs : List β}, ks.length = vs.length → ((ks.zip vs).map fun p => f p.1) = ks.map f
  | [], [], _ => rfl
  | k :: ks, v :: vs, h => by simp only [List.zip_cons_cons, List.map_cons, zip_fst (by simpa using h)]
  | [], _ :: _, h => by simp at h
  | _ :: _, [], h => by simp at h
mutual
theorem Ow.dp {G : Hp} (E : Ext F G) : ∀ {t : OT} {v : V} {fp : List Addr}, Ow K F H t v fp → t.flat = true → Laid H G fp → Dp K G v t.d
  | _, _, _, .fz q, _, _ => by unfold OT.d; exact q.ext E
  | .lst ts, _, _, .lst h r, hf, hl => by
    unfold OT.d
    unfold OT.flat at hf
    have k := hl _ List.mem_cons_self _ h
    exact .lst (.of (k.2 rfl)) (OwL.dp E r hf fun a ha => hl a (List.mem_cons_of_mem _ ha))
  | .dT ks ts, _, _, .dT (vs := vs) h l r, hf, hl => by
    unfold OT.d
    unfold OT.flat at hf
    obtain ⟨od, k⟩ := (hl _ List.mem_cons_self _ h).1 rfl
    have := Dp.dcT (K := K) k (ds := OT.ds ts) (by rw [zip_snd l]; exact OwL.dp E r hf fun a ha => hl a (List.mem_cons_of_mem _ ha))
    rw [zip_fst l] at this
    exact this
  | .dK ks ts, _, _, .dK (vs := vs) h l r, hf, hl => by
    unfold OT.d
    unfold OT.flat at hf
    obtain ⟨od, k⟩ := (hl _ List.mem_cons_self _ h).1 rfl
    have := Dp.dcK (K := K) k (ds := OT.ds ts) (by rw [zip_snd l]; exact OwL.dp E r hf fun a ha => hl a (List.mem_cons_of_mem _ ha))
    rw [zip_fst l] at this
    exact this
  | .ins _ _ _, _, _, _, hf, _ => by unfold OT.flat at hf; cases hf
theorem OwL.dp {G : Hp} (E : Ext F G) : ∀ {ts : List OT} {vs : List V} {fp : List Addr}, OwL K F H ts vs fp → OT.flatL ts = true → Laid H G fp → DpAll K G vs (OT.ds ts)
  | _, _, _, .nil, _, _ => by unfold OT.ds; exact .nil
  | _, _, _, .cons h r, hf, hl => by
    unfold OT.flatL at hf
    rw [Bool.and_eq_true] at hf
    unfold OT.ds
    exact .cons (Ow.dp E h hf.1 fun a ha => hl a (List.mem_append_left _ ha)) (OwL.dp E r hf.2 fun a ha => hl a (List.mem_append_right _ ha))
end
theorem nodup_of (l : List Addr) : ∃ m : List Addr, m.Nodup ∧ ∀ a, a ∈ m ↔ a ∈ l := by
  induction l with
  | nil => exact ⟨[], List.nodup_nil, fun _ => Iff.rfl⟩
  | cons x l ih =>
    obtain ⟨m, h1, h2⟩ := ih
    by_cases q : x ∈ m
    · exact ⟨m, h1, fun a => by rw [h2, List.mem_cons]; exact ⟨.inr, fun z => z.elim (fun z => z ▸ (h2 x).mp q) id⟩⟩
    · exact ⟨x :: m, List.nodup_cons.mpr ⟨q, h1⟩, fun a => by rw [List.mem_cons, List.mem_cons, h2]⟩
/-- the dicts among some places -/
theorem dicts_of (H : Hp) (l : List Addr) : ∃ m : List Addr, m.Nodup ∧ ∀ a, a ∈ m ↔ a ∈ l ∧ ∃ o, H a = some o ∧ isDc o = true := by
  obtain ⟨m, h1, h2⟩ := nodup_of (l.filter fun a => (H a).elim false isDc)
  refine ⟨m, h1, fun a => ?_⟩
  rw [h2, List.mem_filter]
  refine and_congr Iff.rfl ⟨fun z => ?_, fun ⟨o, k1, k2⟩ => by rw [k1]; exact k2⟩
  cases q : H a with
  | none => rw [q] at z; cases z
  | some o => rw [q] at z; exact ⟨o, rfl, z⟩
/-- a thing of our own is laid down -/
theorem Rp.retire (R : Rp K C F H e σ) {i : Nat} {t : OT} {v : V} {fp : List Addr} {d : D} {F2 H2 : Hp} (he : e[i]? = some (some (.tr false t))) (hv : σ[i]? = some (some v)) (o : Ow K F H t v fp) (hk : ∀ a, a ∉ fp → H2 a = H a ∧ F2 a = F a) (hf : ∀ a ∈ fp, F2 a = H2 a) (TU : TupIn F2 H2) (q : Dp K F2 v d) :
    Rp K C F2 H2 (e.set i (some (.fz d))) σ := by
  obtain ⟨u, hu, fp1, o1, nd1, h1, hb1⟩ := R.sl _ _ he
  rw [hv] at hu; cases hu
  cases o.uniq o1
  have T : TrAt K H e σ i fp := ⟨false, t, v, F, he, hv, o⟩
  have E : Ext F F2 := fun a o h => by
    have : a ∉ fp := fun z => by have := (h1 a z).1; rw [h] at this; cases this
    rw [(hk a this).2]; exact h
  have keepM : ∀ a, C.M a → H2 a = H a ∧ F2 a = F a := fun a ha => hk a fun z => (h1 a z).2 ha
  have nfp : ∀ (j : Nat) (y : Sv) (a : Addr), e[j]? = some (some y) → y.mu = true → σ[j]? = some (some (V.ref a)) → a ∉ fp := fun j y a hy my hs hq => (R.tn i fp T).1 a hq j y hy my hs
  have low : ∀ {j : Nat} {y : Sv}, (e.set i (some (.fz d)))[j]? = some (some y) → (i = j ∧ y = .fz d) ∨ (i ≠ j ∧ e[j]? = some (some y)) := fun {j y} h => by
    rcases getset h with ⟨rfl, z⟩ | ⟨hj, h⟩
    · cases z; exact .inl ⟨rfl, rfl⟩
    · exact .inr ⟨hj, h⟩
  have oth : ∀ {j : Nat} {fq : List Addr}, TrAt K H2 (e.set i (some (.fz d))) σ j fq → i ≠ j ∧ TrAt K H e σ j fq := fun {j fq} h => by
    obtain ⟨b2, t2, v2, F3, he2, hv2, o2⟩ := h
    rcases low he2 with ⟨_, z⟩ | ⟨hj, he2⟩
    · cases z
    obtain ⟨u, hu, fq', oq, _, hF, _⟩ := R.sl _ _ he2
    rw [hv2] at hu; cases hu
    have Tq : TrAt K H e σ j fq' := ⟨b2, t2, v2, F, he2, hv2, oq⟩
    have oq2 : Ow K F H2 t2 v2 fq' := oq.ext (.refl F) fun a ha => (hk a (fun z => (R.tn i fp T).2 j fq' hj Tq a z ha)).1
    cases oq2.uniq o2
    exact ⟨hj, Tq⟩
  refine ⟨by rw [List.length_set]; exact R.len, fun a o h => ?_, fun a ha => ?_, fun a ha => ?_, fun j x hx => ?_, R.ml, fun j k x y hjk hx hy mx my => ?_, fun j fq h => ⟨fun a ha k y hy my hs => ?_, fun k fq' hjk h' a ha hq => ?_⟩, TU⟩
  · by_cases z : a ∈ fp
    · rw [← hf a z]; exact h
    · rw [(hk a z).2] at h; rw [(hk a z).1]; exact R.ext a o h
  · rw [(keepM a ha).2]; exact R.off a ha
  · rw [(keepM a ha).1]; exact R.frm a ha
  · rcases low hx with ⟨rfl, rfl⟩ | ⟨hj, hx⟩
    · exact ⟨v, hv, q⟩
    · obtain ⟨u, hu, q⟩ := R.sl j x hx
      refine ⟨u, hu, ?_⟩
      cases x with
      | fz d => exact Dp.ext E q
      | own ds =>
        obtain ⟨p, vs, rfl, k1, k2, k3, k4⟩ := q
        have k := hk p (nfp j _ p hx rfl hu)
        exact ⟨p, vs, rfl, k.1.trans k1, k2.ext E, k.2.trans k3, k4⟩
      | lent ds =>
        obtain ⟨vs, rfl, k1, k2, k3⟩ := q
        exact ⟨vs, rfl, (keepM _ (R.ml j k3)).1.trans k1, k2.ext E, k3⟩
      | io ds =>
        obtain ⟨vs, rfl, k1, k2, k3, k4⟩ := q
        have k := hk (C.lam j) (nfp j _ _ hx rfl hu)
        exact ⟨vs, rfl, k.1.trans k1, k2.ext E, k.2.trans k3, k4⟩
      | tr b2 t2 =>
        obtain ⟨fq, oq, ndq, hq, hbq⟩ := q
        have Tq : TrAt K H e σ j fq := ⟨b2, t2, u, F, hx, hu, oq⟩
        have k := fun a ha => hk a (fun z => (R.tn i fp T).2 j fq hj Tq a z ha)
        exact ⟨fq, oq.ext E fun a ha => (k a ha).1, ndq, fun a ha => ⟨(k a ha).2.trans (hq a ha).1, (hq a ha).2⟩, hbq⟩
  · rcases low hx with ⟨_, rfl⟩ | ⟨hj, hx⟩
    · cases mx
    rcases low hy with ⟨_, rfl⟩ | ⟨hk, hy⟩
    · cases my
    exact R.ne j k x y hjk hx hy mx my
  · rcases low hy with ⟨_, rfl⟩ | ⟨_, hy⟩
    · cases my
    · exact (R.tn j fq (oth h).2).1 a ha k y hy my hs
  · exact (R.tn j fq (oth h).2).2 k fq' hjk (oth h').2 a ha hq
/-- a name's worth; a thing of our own is laid down for good -/
def eVL (i : Nat) : Ev := fun e => match e[i]? with
  | some (some (.tr false t)) => if t.flat then .ok (.fz t.d) (e.set i (some (.fz t.d))) else .no
  | some (some (.tr true _)) => .no
  | some (some (.fz d)) => .ok (.fz d) e
  | some (some _) => .ok (.bor i) e
  | _ => .no
theorem rd_varL {w : Wd} {i : Nat} {Q : VK} (h : rdR w (eVL i) σ H Q) : tLockA (tVar i) σ H Q := by
  obtain ⟨C, F, e, R, P⟩ := h
  have nl : ∀ v, Q v H → ∃ L : List Addr, L.Nodup ∧ (∀ d ∈ L, ∃ u, H d = some u ∧ Mut (some u)) ∧ ∀ H2, Locked L H H2 → Q v H2 := fun v q => ⟨[], List.nodup_nil, fun d h => absurd h List.not_mem_nil, fun H2 k => by
    have : H2 = H := funext fun a => k.2 a List.not_mem_nil
    rw [this]; exact q⟩
  unfold eVL at P
  split at P
  · rename_i t ht
    obtain ⟨v, hv, fp, o, nd, hF, _⟩ := R.sl _ _ ht
    split at P
    · rename_i hfl
      obtain ⟨L, ndL, hL⟩ := dicts_of H fp
      refine ⟨v, hv, L, ndL, fun d hd => ?_, fun H2 k => ?_⟩
      · obtain ⟨_, o, k1, k2⟩ := (hL d).mp hd
        exact ⟨o, k1, isDc_mut k2⟩
      · let F2 : Hp := fun a => if a ∈ fp then H2 a else F a
        have hk : ∀ a, a ∉ fp → H2 a = H a ∧ F2 a = F a := fun a ha => ⟨k.2 a fun z => ha ((hL a).mp z).1, if_neg ha⟩
        have hf : ∀ a ∈ fp, F2 a = H2 a := fun a ha => if_pos ha
        have E : Ext F F2 := fun a o h => by
          have : a ∉ fp := fun z => by have := (hF a z).1; rw [h] at this; cases this
          rw [(hk a this).2]; exact h
        have q : Dp w.K F2 v t.d := o.dp E hfl fun a ha o' ho => by
          rw [hf a ha]
          constructor
          · intro hd
            obtain ⟨od, u, k1, k2⟩ := k.1 a ((hL a).mpr ⟨ha, o', ho, hd⟩)
            rw [ho] at k1; cases k1
            exact ⟨od, k2⟩
          · intro hd
            rw [k.2 a fun z => ?_]; exact ho
            obtain ⟨_, o2, k1, k2⟩ := (hL a).mp z
            rw [ho] at k1; cases k1
            rw [hd] at k2; cases k2
        have TU : TupIn F2 H2 := fun a xs h => by
          by_cases ha : a ∈ fp
          · rw [hf a ha]; exact h
          · rw [(hk a ha).1] at h; rw [(hk a ha).2]; exact R.tup a xs h
        exact P v F2 H2 (R.retire ht hv o hk hf TU q) E q
    · exact P.elim
  · exact P.elim
  · rename_i d hd
    obtain ⟨v, hv, q⟩ := R.sl _ _ hd
    exact ⟨v, hv, nl v (P.ok' R q)⟩
  · rename_i x hn1 hn2 hn hx
    obtain ⟨v, hv, q⟩ := R.sl _ _ hx
    exact ⟨v, hv, nl v (P.ok' R (show RvR _ _ _ _ _ _ (.bor i) v from hv))⟩
  · exact P.elim
def Sv.d : Sv → Option D
  | .fz d => some d
  | .own ds => some (.list ds)
  | .lent ds => some (.list ds)
  | .io ds => some (.list ds)
  | .tr _ t => if t.flat then some t.d else none
def lend1 (o : Option Sv) : Option Sv := o.bind fun x => x.d.map Sv.fz
def lendE (e : Env) : Env := e.map lend1
def scal : D → Bool
  | .none => true
  | .bool _ => true
  | .int _ => true
  | .str _ => true
  | _ => false
def lentE (a : Ev) : Ev := fun e => match a (lendE e) with
  | .ok (.fz d) _ => if scal d then .ok (.fz d) e else .no
  | _ => .no
def lentT (c : Sem1 Bool) : Sem1 Bool := fun e => match c (lendE e) with
  | .ok b _ => .ok b e
  | _ => .no
theorem scal_dp {d : D} {v : V} {F F' : Hp} (h : scal d = true) (q : Dp K F v d) : Dp K F' v d := by
  cases q with
  | non => exact .non
  | bl b => exact .bl b
  | int i => exact .int i
  | str x => exact .str x
  | _ => cases h
def noCf : Cf := ⟨fun _ => False, fun _ => none, fun _ => 0, fun _ => False⟩
theorem trs_of (K : PySem.W.Frag) (H : Hp) (e : Env) (σ : L2.St) (n : Nat) : ∃ l : List Addr, (∀ i fp, i < n → TrAt K H e σ i fp → ∀ a ∈ fp, a ∈ l) ∧ ∀ a ∈ l, ∃ i fp, TrAt K H e σ i fp ∧ a ∈ fp := by
  induction n with
  | zero => exact ⟨[], fun i fp h => absurd h (Nat.not_lt_zero i), fun a h => absurd h List.not_mem_nil⟩
  | succ n ih =>
    obtain ⟨l, h1, h2⟩ := ih
    by_cases q : ∃ fp, TrAt K H e σ n fp
    · obtain ⟨fp, T⟩ := q
      refine ⟨fp ++ l, fun i fq hi Tq a ha => ?_, fun a ha => ?_⟩
      · by_cases hn : i = n
        · subst hn
          obtain ⟨b, t, v, F1, he, hv, o⟩ := T
          obtain ⟨b', t', v', F2, he', hv', o'⟩ := Tq
          rw [he] at he'; cases he'
          rw [hv] at hv'; cases hv'
          cases o.uniq o'
          exact List.mem_append_left _ ha
        · exact List.mem_append_right _ (h1 i fq (by omega) Tq a ha)
      · rcases List.mem_append.mp ha with ha | ha
        · exact ⟨n, fp, T, ha⟩
        · exact h2 a ha
    · refine ⟨l, fun i fq hi Tq a ha => ?_, h2⟩
      by_cases hn : i = n
      · subst hn; exact absurd ⟨fq, Tq⟩ q
      · exact h1 i fq (by omega) Tq a ha
theorem Rp.lendAll (R : Rp K C F H e σ) : ∃ L : List Addr, L.Nodup ∧ (∀ d ∈ L, ∃ u, H d = some u ∧ Mut (some u)) ∧ ∀ H1, Locked L H H1 → Rp K noCf H1 H1 (lendE e) σ ∧
    ∀ H2, Ext H1 H2 → (∀ d ∈ L, H2 d = H1 d) ∧ ∃ F', Ext F F' ∧ Rp K C F' (unlockH L H H2) e σ := by
  obtain ⟨l, hl1, hl2⟩ := trs_of K H e σ e.length
  obtain ⟨L, nd, hL⟩ := dicts_of H l
  refine ⟨L, nd, fun d hd => ?_, fun H1 k => ⟨⟨by unfold lendE; rw [List.length_map]; exact R.len, .refl H1, fun a h => h.elim, fun a h => h.elim, fun i x hx => ?_, fun i h => h.elim, fun i j x y _ hx _ mx _ => ?_, fun i fp h => ?_, fun _ _ z => z⟩, fun H2 E2 => ?_⟩⟩
  · obtain ⟨_, o, k1, k2⟩ := (hL d).mp hd
    exact ⟨o, k1, isDc_mut k2⟩
  · -- a slot
    have EF : Ext F H1 := fun a o h => by
      have : a ∉ L := fun z => by
        obtain ⟨i, fp, T, ha⟩ := hl2 a ((hL a).mp z).1
        have := ((R.trFp T).1 a ha).1
        rw [h] at this; cases this
      rw [k.2 a this]; exact R.ext a o h
    have lst : ∀ {p : Addr} {vs : List V}, H p = some (.lst vs) → H1 p = some (.lst vs) := fun {p vs} h => by
      rw [k.2 p fun z => ?_]; exact h
      obtain ⟨_, o, k1, k2⟩ := (hL p).mp z
      rw [h] at k1; cases k1; cases k2
    unfold lendE at hx
    rw [List.getElem?_map] at hx
    cases he : e[i]? with
    | none => rw [he] at hx; cases hx
    | some oo =>
      cases oo with
      | none => rw [he] at hx; cases hx
      | some y =>
        rw [he] at hx
        obtain ⟨v, hv, q⟩ := R.sl i y he
        refine ⟨v, hv, ?_⟩
        have hx : (y.d.map Sv.fz) = some x := by
          have hx : some (lend1 (some y)) = some (some x) := hx
          exact Option.some.inj hx
        obtain ⟨d, hd, rfl⟩ := Option.map_eq_some_iff.mp hx
        show Dp K H1 v d
        cases y with
        | fz d' => cases hd; exact Dp.ext EF q
        | own ds => cases hd; obtain ⟨p, vs, rfl, k1, k2, _⟩ := q; exact .lst (.of (lst k1)) (k2.ext EF)
        | lent ds => cases hd; obtain ⟨vs, rfl, k1, k2, _⟩ := q; exact .lst (.of (lst k1)) (k2.ext EF)
        | io ds => cases hd; obtain ⟨vs, rfl, k1, k2, _⟩ := q; exact .lst (.of (lst k1)) (k2.ext EF)
        | tr b t =>
          obtain ⟨fp, o, ndf, hF, hb⟩ := q
          have hd : (if t.flat then some t.d else none) = some d := hd
          split at hd
          · rename_i hfl
            cases hd
            refine o.dp EF hfl fun a ha o' ho => ?_
            have al : a ∈ l := hl1 i fp (List.getElem?_eq_some_iff.mp he).1 ⟨b, t, v, F, he, hv, o⟩ a ha
            constructor
            · intro hd
              obtain ⟨od, u, k1, k2⟩ := k.1 a ((hL a).mpr ⟨al, o', ho, hd⟩)
              rw [ho] at k1; cases k1
              exact ⟨od, k2⟩
            · intro hd
              rw [k.2 a fun z => ?_]; exact ho
              obtain ⟨_, o2, k1, k2⟩ := (hL a).mp z
              rw [ho] at k1; cases k1
              rw [hd] at k2; cases k2
          · cases hd
  · -- none is changeable
    unfold lendE at hx
    rw [List.getElem?_map] at hx
    cases he : e[i]? with
    | none => rw [he] at hx; cases hx
    | some oo =>
      rw [he] at hx
      have hx : lend1 oo = some x := Option.some.inj hx
      unfold lend1 at hx
      obtain ⟨y, _, hy⟩ := Option.bind_eq_some_iff.mp hx
      obtain ⟨d, _, rfl⟩ := Option.map_eq_some_iff.mp hy
      cases mx
  · obtain ⟨b, t, v, F', hx, _⟩ := h
    unfold lendE at hx
    rw [List.getElem?_map] at hx
    cases he : e[i]? with
    | none => rw [he] at hx; cases hx
    | some oo =>
      rw [he] at hx
      have hx : lend1 oo = some (.tr b t) := Option.some.inj hx
      unfold lend1 at hx
      obtain ⟨y, _, hy⟩ := Option.bind_eq_some_iff.mp hx
      obtain ⟨d, _, z⟩ := Option.map_eq_some_iff.mp hy
      cases z
  · refine ⟨fun d hd => ?_, ?_⟩
    · obtain ⟨od, u, k1, k2⟩ := k.1 d hd
      rw [k2]; exact E2 _ _ k2
    · have EH : ∀ a, H a ≠ none → unlockH L H H2 a = H a := fun a ha => by
        unfold unlockH
        by_cases z : a ∈ L
        · rw [if_pos z]
        · rw [if_neg z]
          cases q : H a with
          | none => exact absurd q ha
          | some o => exact E2 a o (by rw [k.2 a z]; exact q)
      have nn : ∀ {a : Addr} {o : HO}, H a = some o → unlockH L H H2 a = some o := fun {a o} h => (EH a (by rw [h]; exact fun z => by cases z)).trans h
      let F' : Hp := fun a => match unlockH L H H2 a with | some (HO.tup xs) => some (HO.tup xs) | _ => F a
      have f1 : ∀ {a xs}, unlockH L H H2 a = some (.tup xs) → F' a = some (.tup xs) := fun {a xs} h => by show (match unlockH L H H2 a with | some (HO.tup xs) => some (HO.tup xs) | _ => F a) = _; rw [h]
      have f2 : ∀ {a}, (∀ xs, unlockH L H H2 a ≠ some (.tup xs)) → F' a = F a := fun {a} h => by
        show (match unlockH L H H2 a with | some (HO.tup xs) => some (HO.tup xs) | _ => F a) = _
        split
        · rename_i xs q; exact absurd q (h xs)
        · rfl
      have E : Ext F F' := fun a o h => by
        have hU := nn (R.ext a o h)
        by_cases q : ∃ xs, o = .tup xs
        · obtain ⟨xs, rfl⟩ := q; exact f1 hU
        · rw [f2 fun xs z => q ⟨xs, by rw [hU] at z; exact Option.some.inj z⟩]; exact h
      refine ⟨F', E, R.after ⟨E, fun a o h => ?_, fun a h1 h2 => ⟨EH a h1, ?_⟩, fun a xs h => f1 h⟩⟩
      · by_cases q : ∃ xs, unlockH L H H2 a = some (.tup xs)
        · obtain ⟨xs, q⟩ := q
          rw [f1 q] at h; rw [q]; exact h
        · rw [f2 fun xs z => q ⟨xs, z⟩] at h
          exact nn (R.ext a o h)
      · rw [f2 fun xs z => ?_]; exact h2
        rw [EH a h1] at z
        rw [R.tup a xs z] at h2; cases h2
theorem rd_lentE {w : Wd} {a : Ev} {Q : VK} (h : rdR w (lentE a) σ H Q) : tLockL (rdR w a) σ H Q := by
  obtain ⟨C, F, e, R, P⟩ := h
  obtain ⟨L, nd, hm, k⟩ := R.lendAll
  refine ⟨L, nd, hm, fun H1 hk => ?_⟩
  obtain ⟨R1, back⟩ := k H1 hk
  refine ⟨noCf, H1, lendE e, R1, ?_⟩
  unfold lentE at P
  split at P
  · rename_i d e1 ha
    rw [ha]
    split at P
    · rename_i hs
      intro v F' H' R' E q
      obtain ⟨b1, F2, E2, b2⟩ := back H' (E.trans R'.ext)
      exact ⟨b1, P v F2 _ b2 E2 (show RvR _ _ _ _ _ _ (.fz d) v from scal_dp hs q)⟩
    · exact P.elim
  · exact P.elim
theorem rd_lentT {w : Wd} {c : Sem1 Bool} {Q : Bool → Hp → Prop} (h : rdT w (lentT c) σ H Q) : tLockL (rdT w c) σ H Q := by
  obtain ⟨C, F, e, R, P⟩ := h
  obtain ⟨L, nd, hm, k⟩ := R.lendAll
  refine ⟨L, nd, hm, fun H1 hk => ?_⟩
  obtain ⟨R1, back⟩ := k H1 hk
  refine ⟨noCf, H1, lendE e, R1, ?_⟩
  unfold lentT at P
  split at P
  · rename_i d e1 ha
    rw [ha]
    intro v F' H' R' E q
    obtain ⟨b1, F2, E2, b2⟩ := back H' (E.trans R'.ext)
    cases q
    exact ⟨b1, P _ F2 _ b2 E2 rfl⟩
  · exact P.elim
section
variable {w : Wd} {X : Cx} {ex : Expr} {a : Ev} {c : Sem1 Bool} {pos : Pos} {x : Str}
theorem ve_lent (h : PE X ex (rdR w a)) : PE X ex (rdR w (lentE a)) := pe_mono (pe_lockL h) fun _ _ _ q => rd_lentE q
theorem vt_lent (h : PT X ex (rdT w c)) : PT X ex (rdT w (lentT c)) := pt_mono (pt_lockL h) fun _ _ _ q => rd_lentT q
theorem ve_varL (i : Nat) (hN : X.N[i]? = some x := by rfl) (hv : Vis X.env.scope x := by first | exact Or.inl rfl | exact Or.inr (Or.inl rfl) | exact Or.inr (Or.inr rfl)) (hd : (x == ("__debug__" : Str)) = false := by decide)
    (hcd : (x == ("__classdict__" : Str)) = false := by decide) : PE X (.Name x pos) (rdR w (eVL i)) := pe_mono (pe_lockA (pv i hN hv hd hcd)) fun _ _ _ h => rd_varL h
end
end VI
set_option Elab.async false
set_option linter.all false
set_option maxRecDepth 100000
set_option maxHeartbeats 4000000
namespace VI
open PySem PySem.Spec PyProof.Rows L2
variable {K : PySem.W.Frag} {C : Cf} {F H : Hp} {e e' : Env} {σ : L2.St}
section
variable {κ α : Type} [DecidableEq κ]
def aget (kvs : List (κ × α)) (k : κ) : Option α := (kvs.find? fun p => decide (p.1 = k)).map (·.2)
def aput (kvs : List (κ × α)) (k : κ) (v : α) : List (κ × α) := if (kvs.any fun p => decide (p.1 = k)) = true then kvs.map (fun p => if p.1 = k then (p.1, v) else p) else kvs ++ [(k, v)]
theorem aget_cons (p : κ × α) (kvs : List (κ × α)) (k : κ) : aget (p :: kvs) k = if p.1 = k then some p.2 else aget kvs k := by
  unfold aget
  rw [List.find?_cons]
  by_cases h : p.1 = k
  · simp [h]
  · simp [h]
@[simp] theorem aget_nil (k : κ) : aget ([] : List (κ × α)) k = none := rfl
theorem aget_any (kvs : List (κ × α)) (k : κ) : (kvs.any fun p => decide (p.1 = k)) = (aget kvs k).isSome := by
  induction kvs with
  | nil => rfl
  | cons p kvs ih =>
    rw [List.any_cons, aget_cons, ih]
    by_cases h : p.1 = k <;> simp [h]
theorem aget_map (kvs : List (κ × α)) (k j : κ) (v : α) : aget (kvs.map fun p => if p.1 = k then (p.1, v) else p) j = if j = k then (aget kvs k).map fun _ => v else aget kvs j := by
  induction kvs with
  | nil => simp
  | cons p kvs ih =>
    rw [List.map_cons, aget_cons, aget_cons, aget_cons, ih]
    by_cases h : p.1 = k
    · simp only [h, if_true]
      by_cases hj : k = j
      · simp [hj]
      · simp [hj, Ne.symm hj, fun z : j = k => hj z.symm]
    · simp only [h, if_false]
      by_cases hj : p.1 = j
      · have : j ≠ k := fun z => h (hj.trans z)
        simp [hj, this]
      · simp only [hj, if_false]
theorem aget_put (kvs : List (κ × α)) (k j : κ) (v : α) : aget (aput kvs k v) j = if j = k then some v else aget kvs j := by
  unfold aput
  rw [aget_any]
  by_cases h : (aget kvs k).isSome = true
  · rw [if_pos h, aget_map]
    by_cases hj : j = k
    · obtain ⟨x, hx⟩ := Option.isSome_iff_exists.mp h
      simp [hj, hx]
    · simp [hj]
  · rw [if_neg h]
    have hn : aget kvs k = none := by cases q : aget kvs k with
      | none => rfl
      | some x => rw [q] at h; exact absurd rfl h
    clear h
    induction kvs with
    | nil =>
      show aget [(k, v)] j = _
      rw [aget_cons]
      by_cases hj : k = j
      · simp [hj]
      · rw [if_neg hj, if_neg fun z => hj z.symm]
    | cons p kvs ih =>
      rw [aget_cons] at hn
      split at hn
      · cases hn
      · rename_i hp
        rw [List.cons_append, aget_cons, aget_cons, ih hn]
        by_cases hj : p.1 = j
        · have : j ≠ k := fun z => hp (hj.trans z)
          simp [hj, this]
        · simp only [hj, if_false]
theorem aget_mem {kvs : List (κ × α)} {k : κ} {v : α} (h : aget kvs k = some v) : (k, v) ∈ kvs := by
  induction kvs with
  | nil => cases h
  | cons p kvs ih =>
    rw [aget_cons] at h
    split at h
    · rename_i hp
      cases h
      subst hp
      exact List.mem_cons_self
    · exact List.mem_cons_of_mem _ (ih h)
theorem aput_keys (kvs : List (κ × α)) (k : κ) (v : α) : (aput kvs k v).map (·.1) = if (aget kvs k).isSome then kvs.map (·.1) else kvs.map (·.1) ++ [k] := by
  unfold aput
  rw [aget_any]
  split
  · rw [List.map_map]
    apply List.map_congr_left
    intro p _
    show (if p.1 = k then (p.1, v) else p).1 = p.1
    split <;> rfl
  · rw [List.map_append]; rfl
end
def skey : D → Option Key
  | .int i => some (.inl i)
  | .str s => some (.inr s)
  | _ => none
def skeys : List D → Option (List Key)
  | [] => some []
  | d :: ds => (skey d).bind fun k => (skeys ds).map fun ks => k :: ks
def tkey : D → Option (List Key)
  | .tuple ds => skeys ds
  | _ => none
@[simp] theorem skey_D (k : Key) : skey (keyD k) = some k := by cases k <;> rfl
@[simp] theorem skeys_D (ks : List Key) : skeys (ks.map keyD) = some ks := by
  induction ks with
  | nil => rfl
  | cons k ks ih => rw [List.map_cons]; unfold skeys; rw [skey_D, ih]; rfl
@[simp] theorem tkey_D (ks : List Key) : tkey (keysD ks) = some ks := skeys_D ks
@[simp] theorem tkey_key (k : Key) : tkey (keyD k) = none := by cases k <;> rfl
@[simp] theorem skey_keys (ks : List Key) : skey (keysD ks) = none := rfl
theorem skey_of {d : D} {k : Key} (h : skey d = some k) : d = keyD k := by
  cases d with
  | int i => cases h; rfl
  | str s => cases h; rfl
  | _ => cases h
theorem skeys_of : ∀ {ds : List D} {ks : List Key}, skeys ds = some ks → ds = ks.map keyD
  | [], ks, h => by cases h; rfl
  | d :: ds, ks, h => by
    unfold skeys at h
    obtain ⟨k, h1, h⟩ := Option.bind_eq_some_iff.mp h
    obtain ⟨ks', h2, rfl⟩ := Option.map_eq_some_iff.mp h
    rw [List.map_cons, ← skey_of h1, ← skeys_of h2]
theorem tkey_of {d : D} {ks : List Key} (h : tkey d = some ks) : d = keysD ks := by
  cases d with
  | tuple ds => unfold keysD; rw [skeys_of h]
  | _ => cases h
theorem skey_v {v : V} {d : D} {k : Key} (h : skey d = some k) (q : Dp K F v d) : v = kV k := by
  have := skey_of h
  subst this
  cases k with
  | inl i => cases q; rfl
  | inr s => cases q; rfl
theorem skeys_v : ∀ {ks : List Key} {vs : List V}, DpAll K F vs (ks.map keyD) → vs = ks.map kV
  | [], _, h => by cases h; rfl
  | k :: ks, _, h => by
    rw [List.map_cons] at h
    cases h with
    | cons a r => rw [List.map_cons, skey_v (skey_D k) a, skeys_v r]
theorem tkey_v {v : V} {d : D} {ks : List Key} (h : tkey d = some ks) (q : Dp K F v d) : ∃ b, v = .ref b ∧ F b = some (.tup (ks.map kV)) := by
  have := tkey_of h
  subst this
  cases q with
  | tup h1 h2 => rw [skeys_v h2] at h1; exact ⟨_, rfl, h1⟩
theorem keyD_dp (k : Key) : Dp K F (kV k) (keyD k) := by
  cases k with
  | inl i => exact .int i
  | inr s => exact .str s
theorem keysD_dp : ∀ ks : List Key, DpAll K F (ks.map kV) (ks.map keyD)
  | [] => .nil
  | k :: ks => .cons (keyD_dp k) (keysD_dp ks)
def dictT (kvs : List (List Key × D)) : D := .dict (kvs.map fun p => (keysD p.1, p.2))
def dictK (kvs : List (Key × D)) : D := .dict ((.none, .none) :: kvs.map fun p => (keyD p.1, p.2))
def unTs : List (D × D) → Option (List (List Key × D))
  | [] => some []
  | p :: ps => (tkey p.1).bind fun k => (unTs ps).map fun r => (k, p.2) :: r
def unKs : List (D × D) → Option (List (Key × D))
  | [] => some []
  | p :: ps => (skey p.1).bind fun k => (unKs ps).map fun r => (k, p.2) :: r
def unT : D → Option (List (List Key × D))
  | .dict ps => unTs ps
  | _ => none
def unK : D → Option (List (Key × D))
  | .dict ((.none, .none) :: ps) => unKs ps
  | _ => none
theorem unTs_eq (kvs : List (List Key × D)) : unTs (kvs.map fun p => (keysD p.1, p.2)) = some kvs := by
  induction kvs with
  | nil => rfl
  | cons p kvs ih => rw [List.map_cons]; unfold unTs; rw [tkey_D, ih]; rfl
theorem unKs_eq (kvs : List (Key × D)) : unKs (kvs.map fun p => (keyD p.1, p.2)) = some kvs := by
  induction kvs with
  | nil => rfl
  | cons p kvs ih => rw [List.map_cons]; unfold unKs; rw [skey_D, ih]; rfl
@[simp] theorem unT_T (kvs : List (List Key × D)) : unT (dictT kvs) = some kvs := unTs_eq kvs
@[simp] theorem unK_K (kvs : List (Key × D)) : unK (dictK kvs) = some kvs := unKs_eq kvs
@[simp] theorem unT_K (kvs : List (Key × D)) : unT (dictK kvs) = none := rfl
@[simp] theorem unK_T (kvs : List (List Key × D)) : unK (dictT kvs) = none := by
  unfold unK dictT
  cases kvs with
  | nil => rfl
  | cons p kvs => rfl
theorem unTs_of : ∀ {ps : List (D × D)} {kvs : List (List Key × D)}, unTs ps = some kvs → ps = kvs.map fun p => (keysD p.1, p.2)
  | [], kvs, h => by cases h; rfl
  | p :: ps, kvs, h => by
    unfold unTs at h
    obtain ⟨k, h1, h⟩ := Option.bind_eq_some_iff.mp h
    obtain ⟨r, h2, rfl⟩ := Option.map_eq_some_iff.mp h
    rw [List.map_cons, ← unTs_of h2, ← tkey_of h1]
theorem unKs_of : ∀ {ps : List (D × D)} {kvs : List (Key × D)}, unKs ps = some kvs → ps = kvs.map fun p => (keyD p.1, p.2)
  | [], kvs, h => by cases h; rfl
  | p :: ps, kvs, h => by
    unfold unKs at h
    obtain ⟨k, h1, h⟩ := Option.bind_eq_some_iff.mp h
    obtain ⟨r, h2, rfl⟩ := Option.map_eq_some_iff.mp h
    rw [List.map_cons, ← unKs_of h2, ← skey_of h1]
theorem unT_of {d : D} {kvs : List (List Key × D)} (h : unT d = some kvs) : d = dictT kvs := by
  cases d with
  | dict ps => unfold dictT; rw [← unTs_of h]
  | _ => cases h
theorem unK_of {d : D} {kvs : List (Key × D)} (h : unK d = some kvs) : d = dictK kvs := by
  unfold unK at h
  split at h
  · unfold dictK; rw [← unKs_of h]
  · cases h
theorem zip_of {κ : Type} {f : κ → D} (inj : ∀ a b, f a = f b → a = b) : ∀ {kv : List (κ × V)} {ds : List D} {kvs : List (κ × D)}, kv.length = ds.length → ((kv.map fun p => f p.1).zip ds) = (kvs.map fun p => (f p.1, p.2)) → kv.map (·.1) = kvs.map (·.1) ∧ ds = kvs.map (·.2)
  | [], [], kvs, _, h => by
    cases kvs with
    | nil => exact ⟨rfl, rfl⟩
    | cons p kvs => simp at h
  | q :: kv, d :: ds, kvs, hl, h => by
    cases kvs with
    | nil => simp at h
    | cons p kvs =>
      simp only [List.map_cons, List.zip_cons_cons, List.cons.injEq, Prod.mk.injEq] at h
      obtain ⟨h1, h2⟩ := zip_of inj (by simpa using hl) h.2
      exact ⟨by rw [List.map_cons, List.map_cons, h1, inj _ _ h.1.1], by rw [List.map_cons, ← h2, h.1.2]⟩
  | [], _ :: _, _, hl, _ => by simp at hl
  | _ :: _, [], _, hl, _ => by simp at hl
theorem keyD_inj (a b : Key) (h : keyD a = keyD b) : a = b := by
  have := congrArg skey h
  rw [skey_D, skey_D] at this
  exact Option.some.inj this
theorem keysD_inj (a b : List Key) (h : keysD a = keysD b) : a = b := by
  have := congrArg tkey h
  rw [tkey_D, tkey_D] at this
  exact Option.some.inj this
/-- a dict that lies still -/
theorem dictT_v {v : V} {kvs : List (List Key × D)} (q : Dp K F v (dictT kvs)) : ∃ a od kv, v = .ref a ∧ F a = some (.frz od (.dT kv)) ∧ kv.map (·.1) = kvs.map (·.1) ∧ DpAll K F (kv.map (·.2)) (kvs.map (·.2)) := by
  unfold dictT at q
  generalize hd : (PyData.dict (kvs.map fun p => (keysD p.1, p.2))) = d at q
  cases q with
  | exc x h1 h2 r =>
    injection hd with hd
    cases kvs with
    | nil => cases hd
    | cons p kvs =>
      simp only [List.map_cons, List.cons.injEq, Prod.mk.injEq] at hd
      exact absurd hd.1.1 (by unfold keysD; exact fun z => by cases z)
  | @dcT a od kv ds h r =>
    injection hd with hd
    obtain ⟨h1, h2⟩ := zip_of keysD_inj (by rw [← r.length, List.length_map]) hd.symm
    exact ⟨a, od, kv, rfl, h, h1, h2 ▸ r⟩
  | @dcK a od kv ds h r =>
    injection hd with hd
    cases kvs with
    | nil => cases hd
    | cons p kvs =>
      simp only [List.map_cons, List.cons.injEq, Prod.mk.injEq] at hd
      exact absurd hd.1.1 (by unfold keysD; exact fun z => by cases z)
  | _ => cases hd
theorem dictK_v {v : V} {kvs : List (Key × D)} (q : Dp K F v (dictK kvs)) : ∃ a od kv, v = .ref a ∧ F a = some (.frz od (.dK kv)) ∧ kv.map (·.1) = kvs.map (·.1) ∧ DpAll K F (kv.map (·.2)) (kvs.map (·.2)) := by
  unfold dictK at q
  generalize hd : (PyData.dict ((.none, .none) :: kvs.map fun p => (keyD p.1, p.2))) = d at q
  cases q with
  | exc x h1 h2 r =>
    injection hd with hd
    simp only [List.cons.injEq, Prod.mk.injEq] at hd
    exact absurd hd.1.2 (by exact fun z => by cases z)
  | @dcT a od kv ds h r =>
    injection hd with hd
    cases kv with
    | nil => cases r; cases hd
    | cons p kv =>
      cases r with
      | cons q r =>
        simp only [List.map_cons, List.zip_cons_cons, List.cons.injEq, Prod.mk.injEq] at hd
        exact absurd hd.1.1.symm (by unfold keysD; exact fun z => by cases z)
  | @dcK a od kv ds h r =>
    injection hd with hd
    simp only [List.cons.injEq, Prod.mk.injEq, true_and] at hd
    obtain ⟨h1, h2⟩ := zip_of keyD_inj (by rw [← r.length, List.length_map]) hd.symm
    exact ⟨a, od, kv, rfl, h, h1, h2 ▸ r⟩
  | _ => cases hd
/-- what it holds at a key -/
theorem val_at {κ : Type} [DecidableEq κ] : ∀ {kv : List (κ × V)} {kvs : List (κ × D)} (k : κ), kv.map (·.1) = kvs.map (·.1) → DpAll K F (kv.map (·.2)) (kvs.map (·.2)) → (valV kv k = none ∧ aget kvs k = none) ∨ ∃ v d, valV kv k = some v ∧ aget kvs k = some d ∧ Dp K F v d
  | [], [], k, _, _ => .inl ⟨rfl, rfl⟩
  | p :: kv, q :: kvs, k, h1, h2 => by
    simp only [List.map_cons, List.cons.injEq] at h1 h2
    cases h2 with
    | cons a r =>
      rw [aget_cons]
      by_cases hk : p.1 = k
      · rw [valV_pos hk, if_pos (h1.1 ▸ hk)]; exact .inr ⟨_, _, rfl, rfl, a⟩
      · rw [valV_neg hk, if_neg (h1.1 ▸ hk)]; exact val_at k h1.2 r
  | [], _ :: _, _, h, _ => by simp at h
  | _ :: _, [], _, h, _ => by simp at h
/-- the look-up -/
def dlook (d k : D) : Option (Option D) := match unT d, tkey k with
  | some kvs, some ks => some (aget kvs ks)
  | _, _ => match unK d, skey k with
    | some kvs, some ks => some (aget kvs ks)
    | _, _ => none
@[simp] theorem dlook_T (kvs : List (List Key × D)) (ks : List Key) : dlook (dictT kvs) (keysD ks) = some (aget kvs ks) := by unfold dlook; rw [unT_T, tkey_D]
@[simp] theorem dlook_K (kvs : List (Key × D)) (k : Key) : dlook (dictK kvs) (keyD k) = some (aget kvs k) := by unfold dlook; rw [unT_K, unK_K, skey_D]
theorem dlook_v {v y : V} {d k : D} {r : Option D} (h : dlook d k = some r) (E : Ext F H) (q : Dp K F v d) (qk : Dp K F y k) : ∃ a o, v = .ref a ∧ IsD H a ∧ DGet H a y o ∧ ((o = none ∧ r = none) ∨ ∃ z dz, o = some z ∧ r = some dz ∧ Dp K F z dz) := by
  unfold dlook at h
  split at h
  · rename_i kvs ks h1 h2
    cases h
    have := unT_of h1
    subst this
    obtain ⟨a, od, kv, rfl, hF, k1, k2⟩ := dictT_v q
    obtain ⟨b, rfl, hb⟩ := tkey_v h2 qk
    have hR : L2.Rd H a (.dT kv) := .inr ⟨od, E _ _ hF⟩
    refine ⟨a, valV kv ks, rfl, .inr ⟨kv, hR⟩, .inr ⟨kv, ks, b, hR, rfl, E _ _ hb, rfl⟩, ?_⟩
    rcases val_at ks k1 k2 with ⟨h1, h2⟩ | ⟨z, dz, h1, h2, h3⟩
    · exact .inl ⟨h1, h2⟩
    · exact .inr ⟨z, dz, h1, h2, h3⟩
  · split at h
    · rename_i kvs ks h1 h2
      cases h
      have := unK_of h1
      subst this
      obtain ⟨a, od, kv, rfl, hF, k1, k2⟩ := dictK_v q
      have := skey_v h2 qk
      subst this
      have hR : L2.Rd H a (.dK kv) := .inr ⟨od, E _ _ hF⟩
      refine ⟨a, valV kv ks, rfl, .inl ⟨kv, hR⟩, .inl ⟨kv, ks, hR, rfl, rfl⟩, ?_⟩
      rcases val_at ks k1 k2 with ⟨h1, h2⟩ | ⟨z, dz, h1, h2, h3⟩
      · exact .inl ⟨h1, h2⟩
      · exact .inr ⟨z, dz, h1, h2, h3⟩
    · cases h
theorem Dh.dict_dp {v : V} {d : D} {k : D} {r : Option D} (h : dlook d k = some r) (q : Dh K F H v d) : Dp K F v d := by
  cases q with
  | oth q => exact q
  | _ =>
    unfold dlook at h
    simp only [unT, unK] at h
    cases h
theorem Dh.key_dp {y : V} {d k : D} {r : Option D} (h : dlook d k = some r) (q : Dh K F H y k) : Dp K F y k := by
  have hk : (tkey k).isSome = true ∨ (skey k).isSome = true := by
    unfold dlook at h
    split at h
    · rename_i h2; exact .inl (by rw [h2]; rfl)
    · split at h
      · rename_i h2; exact .inr (by rw [h2]; rfl)
      · cases h
  cases q with
  | non => exact .non
  | bl b => exact .bl b
  | int i => exact .int i
  | str x => exact .str x
  | tup h1 r1 => exact .tup h1 r1
  | lst h1 r1 => rcases hk with z | z <;> cases z
  | oth q => exact q
def inK : F2 := fun x d => (dlook d x).map fun r => .fz (.bool r.isSome)
def notInK : F2 := fun x d => (dlook d x).map fun r => .fz (.bool (!r.isSome))
def rInK : R2 := fun x y H Q => ∃ a o, y = .ref a ∧ DGet H a x o ∧ Q (.bl o.isSome) H
def rNotInK : R2 := fun x y H Q => ∃ a o, y = .ref a ∧ DGet H a x o ∧ Q (.bl (!o.isSome)) H
theorem op_inK {X : Cx} (hu : X.A.units + 1 < cLine) : OpR X (compareOp .In) rInK := by
  intro pins s σ H x y v u Q I rx ry ⟨a, o, hy, g, q⟩
  subst hy
  obtain rfl : u = Value.ref a := ry
  exact d_in hu I g rx fun s' I' => ⟨.bl o.isSome, H, I', rfl, q⟩
theorem op_notInK {X : Cx} (hu : X.A.units + 1 < cLine) : OpR X (compareOp .NotIn) rNotInK := by
  intro pins s σ H x y v u Q I rx ry ⟨a, o, hy, g, q⟩
  subst hy
  obtain rfl : u = Value.ref a := ry
  exact d_notIn hu I g rx fun s' I' => ⟨.bl (!o.isSome), H, I', rfl, q⟩
theorem s_inK : OpS K inK rInK := fun F H x y dx dy z E hx hy hz Q k => by
  unfold inK at hz
  obtain ⟨r, hr, rfl⟩ := Option.map_eq_some_iff.mp hz
  obtain ⟨a, o, rfl, _, g, ho⟩ := dlook_v hr E (hy.dict_dp hr) (hx.key_dp hr)
  have : o.isSome = r.isSome := by rcases ho with ⟨rfl, rfl⟩ | ⟨_, _, rfl, rfl, _⟩ <;> rfl
  exact ⟨a, o, rfl, g, this ▸ k _ _ (.old (.bl _))⟩
theorem s_notInK : OpS K notInK rNotInK := fun F H x y dx dy z E hx hy hz Q k => by
  unfold notInK at hz
  obtain ⟨r, hr, rfl⟩ := Option.map_eq_some_iff.mp hz
  obtain ⟨a, o, rfl, _, g, ho⟩ := dlook_v hr E (hy.dict_dp hr) (hx.key_dp hr)
  have : o.isSome = r.isSome := by rcases ho with ⟨rfl, rfl⟩ | ⟨_, _, rfl, rfl, _⟩ <;> rfl
  exact ⟨a, o, rfl, g, this ▸ k _ _ (.old (.bl _))⟩
def ixK : F2 := fun d k => (dlook d k).bind fun r => r.map .fz
def isDct (d : D) : Bool := (unT d).isSome || (unK d).isSome
@[simp] theorem isDct_T (kvs : List (List Key × D)) : isDct (dictT kvs) = true := by unfold isDct; rw [unT_T]; rfl
@[simp] theorem isDct_K (kvs : List (Key × D)) : isDct (dictK kvs) = true := by unfold isDct; rw [unK_K]; simp
theorem isDct_v {v : V} {d : D} (h : isDct d = true) (E : Ext F H) (q : Dp K F v d) : ∃ a, v = .ref a ∧ IsD H a := by
  unfold isDct at h
  rw [Bool.or_eq_true] at h
  rcases h with h | h
  · obtain ⟨kvs, h⟩ := Option.isSome_iff_exists.mp h
    have := unT_of h
    subst this
    obtain ⟨a, od, kv, rfl, hF, _⟩ := dictT_v q
    exact ⟨a, rfl, .inr ⟨kv, .inr ⟨od, E _ _ hF⟩⟩⟩
  · obtain ⟨kvs, h⟩ := Option.isSome_iff_exists.mp h
    have := unK_of h
    subst this
    obtain ⟨a, od, kv, rfl, hF, _⟩ := dictK_v q
    exact ⟨a, rfl, .inl ⟨kv, .inr ⟨od, E _ _ hF⟩⟩⟩
def getK1 (a b : Ev) : Ev := fun e => (toD a e).bind fun d e1 => if isDct d then (toD b e1).bind fun k e2 => ofO ((dlook d k).map fun r => .fz (r.getD .none)) e2 else .no
def getK2 (a b c : Ev) : Ev := fun e => (toD a e).bind fun d e1 => if isDct d then (toD b e1).bind fun k e2 => (toD c e2).bind fun x e3 => ofO ((dlook d k).map fun r => .fz (r.getD x)) e3 else .no
theorem rd_ixK {w : Wd} {a b : Ev} {Q : VK} (h : rdR w (bin2 ixK a b) σ H Q) : tDGet (rdR w a) (rdR w b) σ H Q := by
  obtain ⟨C, F, e, R, P⟩ := h
  refine rd_opd (bindP R P fun F1 H1 e1 x v1 h1 R1 E1 q1 P1 => ?_)
  refine rd_opd (bindP R1 P1 fun F2 H2 e2 y v2 h2 R2 E2 q2 P2 => ?_)
  obtain ⟨z, hz, P3⟩ := post_ofO P2
  obtain ⟨dx, dy, hx, hy, hf⟩ := ap2_some hz
  obtain ⟨r, hr, hf⟩ := Option.bind_eq_some_iff.mp hf
  obtain ⟨dz, rfl, rfl⟩ := Option.map_eq_some_iff.mp hf
  obtain ⟨a', o, rfl, _, g, ho⟩ := dlook_v hr R2.ext ((RvR.peek R2 (opd_still h1) (RvR.later (opd_still h1) E2 q1) hx).dict_dp hr) ((RvR.peek R2 (opd_still h2) q2 hy).key_dp hr)
  rcases ho with ⟨_, z⟩ | ⟨u, dz', rfl, z, qd⟩
  · cases z
  · cases z
    exact ⟨a', u, rfl, g, P3.ok' R2 qd⟩
theorem rd_getK1 {w : Wd} {a b : Ev} {Q : VK} (h : rdR w (getK1 a b) σ H Q) : tDGet1 (rdR w a) (rdR w b) σ H Q := by
  obtain ⟨C, F, e, R, P⟩ := h
  refine rd_toD (bindP R P fun F1 H1 e1 d v1 h1 R1 E1 q1 P1 => ?_)
  split at P1
  · rename_i hd
    obtain ⟨a', rfl, hI⟩ := isDct_v hd R1.ext q1
    refine ⟨a', rfl, hI, rd_toD (bindP R1 P1 fun F2 H2 e2 k v2 h2 R2 E2 q2 P2 => ?_)⟩
    obtain ⟨z, hz, P3⟩ := post_ofO P2
    obtain ⟨r, hr, rfl⟩ := Option.map_eq_some_iff.mp hz
    obtain ⟨a2, o, e1, _, g, ho⟩ := dlook_v hr R2.ext (Dp.ext E2 q1) q2
    cases e1
    refine ⟨o, g, ?_⟩
    rcases ho with ⟨rfl, rfl⟩ | ⟨u, dz, rfl, rfl, qd⟩
    · exact P3.ok' R2 (show RvR _ _ _ _ _ _ (.fz .none) V.non from .non)
    · exact P3.ok' R2 qd
  · exact P1.elim
theorem rd_getK2 {w : Wd} {a b c : Ev} {Q : VK} (h : rdR w (getK2 a b c) σ H Q) : tDGet2 (rdR w a) (rdR w b) (rdR w c) σ H Q := by
  obtain ⟨C, F, e, R, P⟩ := h
  refine rd_toD (bindP R P fun F1 H1 e1 d v1 h1 R1 E1 q1 P1 => ?_)
  split at P1
  · rename_i hd
    obtain ⟨a', rfl, hI⟩ := isDct_v hd R1.ext q1
    refine ⟨a', rfl, hI, rd_toD (bindP R1 P1 fun F2 H2 e2 k v2 h2 R2 E2 q2 P2 => rd_toD (bindP R2 P2 fun F3 H3 e3 x v3 h3 R3 E3 q3 P3 => ?_))⟩
    obtain ⟨z, hz, P4⟩ := post_ofO P3
    obtain ⟨r, hr, rfl⟩ := Option.map_eq_some_iff.mp hz
    obtain ⟨a2, o, e1, _, g, ho⟩ := dlook_v hr R3.ext (Dp.ext (E2.trans E3) q1) (Dp.ext E3 q2)
    cases e1
    refine ⟨o, g, ?_⟩
    rcases ho with ⟨rfl, rfl⟩ | ⟨u, dz, rfl, rfl, qd⟩
    · exact P4.ok' R3 (show RvR _ _ _ _ _ _ (.fz x) v3 from q3)
    · exact P4.ok' R3 qd
  · exact P1.elim
def lenK : F1 := fun d => match unT d with
  | some kvs => some (.fz (.int kvs.length))
  | none => (unK d).map fun kvs => .fz (.int kvs.length)
def keysOf (d : D) : Option (List D) := match unT d with
  | some kvs => some (kvs.map fun p => keysD p.1)
  | none => (unK d).map fun kvs => kvs.map fun p => keyD p.1
def keysE (a : Ev) : Sem1 Src := fun e => (toD a e).bind fun d e1 => ofO ((keysOf d).map fun ks => ⟨ks, []⟩) e1
def valsE (a : Ev) : Sem1 Src := fun e => (toD a e).bind fun d e1 => ofO ((unK d).map fun kvs => ⟨kvs.map (·.2), []⟩) e1
def itemsE (a : Ev) : Sem1 Src := fun e => (toD a e).bind fun d e1 => ofO ((unK d).map fun kvs => ⟨kvs.map fun p => .tuple [keyD p.1, p.2], []⟩) e1
theorem keys_at {κ : Type} {kv : List (κ × V)} {kvs : List (κ × D)} {i : Nat} {k : κ} {v : V} (h : kv.map (·.1) = kvs.map (·.1)) (h2 : DpAll K F (kv.map (·.2)) (kvs.map (·.2))) (hi : kv[i]? = some (k, v)) : ∃ d, kvs[i]? = some (k, d) ∧ Dp K F v d := by
  obtain ⟨d, e1, e2⟩ := h2.get' (i := i) (v := v) (by rw [List.getElem?_map, hi]; rfl)
  have e3 : (kvs.map (·.1))[i]? = some k := by rw [← h, List.getElem?_map, hi]; rfl
  rw [List.getElem?_map] at e1 e3
  cases q : kvs[i]? with
  | none => rw [q] at e1; cases e1
  | some p => rw [q] at e1 e3; cases e1; cases e3; exact ⟨_, rfl, e2⟩
theorem itOk_keysT {a : Addr} {od : Obj} {kv : List (List Key × V)} {kvs : List (List Key × D)} (hF : F a = some (.frz od (.dT kv))) (h : kv.map (·.1) = kvs.map (·.1)) : ItOk K C F (Itkt a od kv) (kvs.map fun p => keysD p.1) := by
  have hl : kv.length = kvs.length := by have := congrArg List.length h; simpa using this
  refine ⟨fun H => H a = some (.frz od (.dT kv)), _, by rw [List.length_map, ← hl]; exact walk_keysT, fun F2 H2 e2 σ2 R2 E2 => R2.ext _ _ (E2 _ _ hF), fun i x H1 H2 F1 E E1 T y hi => ?_⟩
  obtain ⟨rfl, k, v, q, hk, rfl, hq⟩ := y
  have e3 : (kvs.map (·.1))[i]? = some k := by rw [← h, List.getElem?_map, hk]; rfl
  refine ⟨keysD k, ?_, .old (.tup (T _ _ hq) (keysD_dp k))⟩
  rw [List.getElem?_map] at e3 ⊢
  cases q : kvs[i]? with
  | none => rw [q] at e3; cases e3
  | some p => rw [q] at e3; cases e3; rfl
theorem itOk_keysK {a : Addr} {od : Obj} {kv : List (Key × V)} {kvs : List (Key × D)} (hF : F a = some (.frz od (.dK kv))) (h : kv.map (·.1) = kvs.map (·.1)) : ItOk K C F (Itk a od kv) (kvs.map fun p => keyD p.1) := by
  have hl : kv.length = kvs.length := by have := congrArg List.length h; simpa using this
  refine ⟨fun H => H a = some (.frz od (.dK kv)), _, by rw [List.length_map, ← hl]; exact walk_keys, fun F2 H2 e2 σ2 R2 E2 => R2.ext _ _ (E2 _ _ hF), fun i x H1 H2 F1 E E1 T y hi => ?_⟩
  obtain ⟨rfl, k, v, hk, rfl⟩ := y
  have e3 : (kvs.map (·.1))[i]? = some k := by rw [← h, List.getElem?_map, hk]; rfl
  refine ⟨keyD k, ?_, .old (keyD_dp k)⟩
  rw [List.getElem?_map] at e3 ⊢
  cases q : kvs[i]? with
  | none => rw [q] at e3; cases e3
  | some p => rw [q] at e3; cases e3; rfl
theorem itOk_vals {a : Addr} {od : Obj} {kv : List (Key × V)} {kvs : List (Key × D)} (hF : F a = some (.frz od (.dK kv))) (h : kv.map (·.1) = kvs.map (·.1)) (h2 : DpAll K F (kv.map (·.2)) (kvs.map (·.2))) : ItOk K C F (Itd a od kv) (kvs.map (·.2)) := by
  have hl : kv.length = kvs.length := by have := congrArg List.length h; simpa using this
  refine ⟨fun H => H a = some (.frz od (.dK kv)), _, by rw [List.length_map, ← hl]; exact walk_values, fun F2 H2 e2 σ2 R2 E2 => R2.ext _ _ (E2 _ _ hF), fun i x H1 H2 F1 E E1 T y hi => ?_⟩
  obtain ⟨rfl, k, hk⟩ := y
  obtain ⟨d, e1, e2⟩ := keys_at h h2 hk
  exact ⟨d, by rw [List.getElem?_map, e1]; rfl, .old (Dp.ext E e2)⟩
theorem itOk_items {a : Addr} {od : Obj} {kv : List (Key × V)} {kvs : List (Key × D)} (hF : F a = some (.frz od (.dK kv))) (h : kv.map (·.1) = kvs.map (·.1)) (h2 : DpAll K F (kv.map (·.2)) (kvs.map (·.2))) : ItOk K C F (Iti a od kv) (kvs.map fun p => .tuple [keyD p.1, p.2]) := by
  have hl : kv.length = kvs.length := by have := congrArg List.length h; simpa using this
  refine ⟨fun H => H a = some (.frz od (.dK kv)), _, by rw [List.length_map, ← hl]; exact walk_items, fun F2 H2 e2 σ2 R2 E2 => R2.ext _ _ (E2 _ _ hF), fun i x H1 H2 F1 E E1 T0 y hi => ?_⟩
  obtain ⟨T, x1, x2, rfl, hT, rfl, g1, g2⟩ := y
  obtain ⟨⟨k, v⟩, hk, rfl⟩ := Option.map_eq_some_iff.mp g1
  obtain ⟨⟨k', v'⟩, hk', rfl⟩ := Option.map_eq_some_iff.mp g2
  rw [hk] at hk'; cases hk'
  obtain ⟨d, e1, e2⟩ := keys_at h h2 hk
  exact ⟨_, by rw [List.getElem?_map, e1]; rfl, .tup hT (.cons (keyD_dp k) (.cons (Dp.ext E e2) .nil))⟩
theorem ofO_I {α : Type} {w : Wd} {Rr : It → Hp → Prop} {o : Option Src} (P : PostI w C F σ Rr (ofO o e)) : ∃ s, o = some s ∧ PostI w C F σ Rr (.ok s e) := by
  cases o with
  | none => exact P.elim
  | some s => exact ⟨s, rfl, P⟩
theorem rd_keysE {w : Wd} {a : Ev} {Rr : It → Hp → Prop} (h : rdI w (keysE a) σ H Rr) : iKeys (rdR w a) σ H Rr := by
  obtain ⟨C, F, e, R, P⟩ := h
  refine rd_toD (bindI R P fun F1 H1 e1 d v h1 R1 E1 q1 P1 => ?_)
  obtain ⟨s, hs, P2⟩ := ofO_I (α := Unit) P1
  obtain ⟨ks, hk, rfl⟩ := Option.map_eq_some_iff.mp hs
  unfold keysOf at hk
  split at hk
  · rename_i kvs hkv
    cases hk
    have := unT_of hkv
    subst this
    obtain ⟨b, od, kv, rfl, hF, k1, k2⟩ := dictT_v q1
    exact ⟨b, od, rfl, .inr ⟨kv, R1.ext _ _ hF, P2 C _ F1 H1 R1 (.refl F1) back_nil (itOk_keysT hF k1)⟩⟩
  · obtain ⟨kvs, hkv, rfl⟩ := Option.map_eq_some_iff.mp hk
    have := unK_of hkv
    subst this
    obtain ⟨b, od, kv, rfl, hF, k1, k2⟩ := dictK_v q1
    exact ⟨b, od, rfl, .inl ⟨kv, R1.ext _ _ hF, P2 C _ F1 H1 R1 (.refl F1) back_nil (itOk_keysK hF k1)⟩⟩
theorem rd_valsE {w : Wd} {a : Ev} {Rr : It → Hp → Prop} (h : rdI w (valsE a) σ H Rr) : iVals (rdR w a) σ H Rr := by
  obtain ⟨C, F, e, R, P⟩ := h
  refine rd_toD (bindI R P fun F1 H1 e1 d v h1 R1 E1 q1 P1 => ?_)
  obtain ⟨s, hs, P2⟩ := ofO_I (α := Unit) P1
  obtain ⟨kvs, hkv, rfl⟩ := Option.map_eq_some_iff.mp hs
  have := unK_of hkv
  subst this
  obtain ⟨b, od, kv, rfl, hF, k1, k2⟩ := dictK_v q1
  exact ⟨b, od, kv, rfl, R1.ext _ _ hF, P2 C _ F1 H1 R1 (.refl F1) back_nil (itOk_vals hF k1 k2)⟩
theorem rd_itemsE {w : Wd} {a : Ev} {Rr : It → Hp → Prop} (h : rdI w (itemsE a) σ H Rr) : iItems (rdR w a) σ H Rr := by
  obtain ⟨C, F, e, R, P⟩ := h
  refine rd_toD (bindI R P fun F1 H1 e1 d v h1 R1 E1 q1 P1 => ?_)
  obtain ⟨s, hs, P2⟩ := ofO_I (α := Unit) P1
  obtain ⟨kvs, hkv, rfl⟩ := Option.map_eq_some_iff.mp hs
  have := unK_of hkv
  subst this
  obtain ⟨b, od, kv, rfl, hF, k1, k2⟩ := dictK_v q1
  exact ⟨b, od, kv, rfl, R1.ext _ _ hF, P2 C _ F1 H1 R1 (.refl F1) back_nil (itOk_items hF k1 k2)⟩
section
variable {w : Wd} {X : Cx} {o i f tg : Expr} {a b c : Ev} {pos apos cpos tpos : Pos} {elts : List Expr} {kk : Nat}
theorem ve_ixK (hu : X.A.units + 1 < cLine) (ho : PE X o (rdR w a)) (hi : PE X i (rdR w b)) (hs : NoSl i := by intro _ _; rfl) : PE X (.Subscript o i pos) (rdR w (bin2 ixK a b)) := pe_mono (pe_dget hu ho hi hs) fun _ _ _ h => rd_ixK h
theorem ve_getK1 (hu : X.A.units + 1 < cLine) (ho : PE X o (rdR w a)) (hi : PE X i (rdR w b)) (m : M1 X o "get" apos i cpos) : PE X (.Call (.Attribute o "get" apos) [i] [] cpos) (rdR w (getK1 a b)) := pe_mono (pe_dget1 hu ho hi m) fun _ _ _ h => rd_getK1 h
theorem ve_getK2 (hu : X.A.units + 1 < cLine) (ho : PE X o (rdR w a)) (hi : PE X i (rdR w b)) (hf : PE X f (rdR w c)) (m : M2 X o "get" apos i f cpos) : PE X (.Call (.Attribute o "get" apos) [i, f] [] cpos) (rdR w (getK2 a b c)) := pe_mono (pe_dget2 hu ho hi hf m) fun _ _ _ h => rd_getK2 h
theorem vi_keysE (ho : PE X o (rdR w a)) : PI X tg o (rdI w (keysE a)) := pi_mono (pi_keys ho) fun _ _ _ q => rd_keysE q
theorem vi_valsE (ho : PE X o (rdR w a)) (hbase : attributeBase o "values" X.env (eval o X.env) = eval o X.env := by rfl) (hline : (apos.endLine == cpos.line) = true := by rfl) : PI X tg (.Call (.Attribute o "values" apos) [] [] cpos) (rdI w (valsE a)) := pi_mono (pi_values ho hbase hline) fun _ _ _ q => rd_valsE q
theorem vi_itemsE (ho : PE X o (rdR w a)) (hbase : attributeBase o "items" X.env (eval o X.env) = eval o X.env := by rfl) (hline : (apos.endLine == cpos.line) = true := by rfl) : PI X (.Tuple elts kk tpos) (.Call (.Attribute o "items" apos) [] [] cpos) (rdI w (itemsE a)) := pi_mono (pi_items ho hbase hline) fun _ _ _ q => rd_itemsE q
end
end VI
set_option Elab.async false
set_option linter.all false
set_option maxRecDepth 100000
set_option maxHeartbeats 4000000
namespace VI
open PySem PySem.Spec PyProof.Rows L2
variable {K : PySem.W.Frag} {C : Cf} {F H : Hp} {e e' : Env} {σ : L2.St}
def Cf.holds (C : Cf) (H : Hp) (L : List Addr) : Cf := ⟨fun a => C.M a ∨ a ∈ L, H, C.lam, C.Ml⟩
theorem Rp.holds (R : Rp K C F H e σ) {L : List Addr} (h : ∀ a ∈ L, H a ≠ none ∧ F a = none ∧ Apar K H e σ a) : Rp K (C.holds H L) F H e σ := by
  refine ⟨R.len, R.ext, fun a ha => ?_, fun a ha => ⟨rfl, ?_⟩, fun i x hx => ?_, fun i hi => .inl (R.ml i hi), R.ne, R.tn, R.tup⟩
  · rcases ha with ha | ha
    · exact R.off a ha
    · exact (h a ha).2.1
  · rcases ha with ha | ha
    · show H a ≠ none; rw [(R.frm a ha).1]; exact (R.frm a ha).2
    · exact (h a ha).1
  · obtain ⟨v, hv, q⟩ := R.sl i x hx
    refine ⟨v, hv, ?_⟩
    cases x with
    | fz d => exact q
    | own ds =>
      obtain ⟨p', vs, rfl, h1, h2, h3, h4⟩ := q
      refine ⟨p', vs, rfl, h1, h2, h3, fun z => ?_⟩
      rcases z with z | z
      · exact h4 z
      · exact (h p' z).2.2.1 i _ hx rfl hv
    | lent ds => exact q
    | io ds =>
      obtain ⟨vs, rfl, h1, h2, h3, h4⟩ := q
      refine ⟨vs, rfl, h1, h2, h3, fun z => ?_⟩
      rcases z with z | z
      · exact h4 z
      · exact (h _ z).2.2.1 i _ hx rfl hv
    | tr b t =>
      obtain ⟨fp, o, nd, hh, hb⟩ := q
      refine ⟨fp, o, nd, fun a ha => ⟨(hh a ha).1, fun z => ?_⟩, hb⟩
      rcases z with z | z
      · exact (hh a ha).2 z
      · exact (h a z).2.2.2 i fp ⟨b, t, v, F, hx, hv, o⟩ ha
theorem Rp.drops (R0 : Rp K C F H e σ) {F2 H2 : Hp} {e2 : Env} {σ2 : L2.St} {L : List Addr} (R : Rp K (C.holds H L) F2 H2 e2 σ2) : Rp K C F2 H2 e2 σ2 ∧ ∀ a ∈ L, H2 a = H a ∧ F2 a = none ∧ Apar K H2 e2 σ2 a := by
  refine ⟨⟨R.len, R.ext, fun a ha => R.off a (.inl ha), fun a ha => ?_, fun i x hx => ?_, R0.ml, R.ne, R.tn, R.tup⟩, fun a ha => ⟨(R.frm a (.inr ha)).1, R.off a (.inr ha), fun i x hx mx hv => ?_, fun i fp h hq => ((R.trFp h).1 a hq).2.1 (.inr ha)⟩⟩
  · have h := R.frm a (.inl ha)
    exact ⟨h.1.trans (R0.frm a ha).1, (R0.frm a ha).2⟩
  · obtain ⟨v, hv, q⟩ := R.sl i x hx
    refine ⟨v, hv, ?_⟩
    cases x with
    | fz d => exact q
    | own ds => obtain ⟨p', vs, rfl, h1, h2, h3, h4⟩ := q; exact ⟨p', vs, rfl, h1, h2, h3, fun z => h4 (.inl z)⟩
    | lent ds => exact q
    | io ds => obtain ⟨vs, rfl, h1, h2, h3, h4⟩ := q; exact ⟨vs, rfl, h1, h2, h3, fun z => h4 (.inl z)⟩
    | tr b t => obtain ⟨fp, o', nd, h, hb⟩ := q; exact ⟨fp, o', nd, fun a ha => ⟨(h a ha).1, fun z => (h a ha).2 (.inl z)⟩, hb⟩
  · obtain ⟨v, hv', q⟩ := R.sl i x hx
    rw [hv] at hv'; cases hv'
    cases x with
    | fz d => cases mx
    | own ds => obtain ⟨p', vs, h0, _, _, _, h4⟩ := q; injection h0 with h0; subst h0; exact h4 (.inr ha)
    | lent ds => cases mx
    | io ds => obtain ⟨vs, h0, _, _, _, h4⟩ := q; injection h0 with h0; rw [← h0] at h4; exact h4 (.inr ha)
    | tr b t => cases mx
abbrev Nv := Sem1 OT
abbrev rdN (w : Wd) (a : Nv) : TE := Rd w (fun C F H e σ t v => NewAt w.K C F H e σ t v) a
/-- several, apart from one another -/
def NewsAt (K : PySem.W.Frag) (C : Cf) (F H : Hp) (e : Env) (σ : L2.St) (ts : List OT) (vs : List V) : Prop := ∃ fp, OwL K F H ts vs fp ∧ fp.Nodup ∧ ∀ a ∈ fp, F a = none ∧ ¬ C.M a ∧ Apar K H e σ a
abbrev rdNs (w : Wd) (a : Sem1 (List OT)) : TA := Rd w (fun C F H e σ ts vs => NewsAt w.K C F H e σ ts vs) a
theorem NewAt.fz {v : V} {d : D} (q : Dp K F v d) : NewAt K C F H e σ (.fz d) v := ⟨[], .fz q, List.nodup_nil, fun a h => absurd h List.not_mem_nil⟩
theorem owl_fz : ∀ {ds : List D} {vs : List V}, DpAll K F vs ds → OwL K F H (ds.map OT.fz) vs []
  | [], _, .nil => .nil
  | d :: ds, _, .cons a r => by
    have := OwL.cons (H := H) (Ow.fz a) (owl_fz r)
    exact this
theorem owl_fz' : ∀ {ds : List D} {vs : List V} {fp : List Addr}, OwL K F H (ds.map OT.fz) vs fp → DpAll K F vs ds ∧ fp = []
  | [], _, _, .nil => ⟨.nil, rfl⟩
  | d :: ds, _, _, .cons a r => by
    cases a with
    | fz q =>
      obtain ⟨h1, rfl⟩ := owl_fz' r
      exact ⟨.cons q h1, rfl⟩
theorem NewAt.fresh {v : V} {ds : List D} (q : RvR K C F H e σ (.fresh ds) v) : NewAt K C F H e σ (.lst (ds.map OT.fz)) v := by
  obtain ⟨p, vs, rfl, h1, h2, h3, h4, h5⟩ := q
  refine ⟨[p], .lst h1 (owl_fz h2), (List.nodup_cons.mpr ⟨List.not_mem_nil, List.nodup_nil⟩), fun a ha => ?_⟩
  rw [List.mem_singleton] at ha
  subst ha
  exact ⟨h3, h4, h5⟩
def nv (a : Ev) : Nv := fun e => ((a e).bind mvR).bind fun r e1 => match r with
  | .fz d => .ok (.fz d) e1
  | .fresh ds => .ok (.lst (ds.map OT.fz)) e1
  | .bor _ => .no
theorem rd_nv {w : Wd} {a : Ev} {Q : VK} (h : rdN w (nv a) σ H Q) : rdR w a σ H Q := by
  obtain ⟨C, F, e, R, P⟩ := h
  have P : Post w (fun C F H e σ t v => NewAt w.K C F H e σ t v) C F σ Q ((a e).bind fun r e0 => (mvR r e0).bind fun r e1 => match r with | .fz d => .ok (.fz d) e1 | .fresh ds => .ok (.lst (ds.map OT.fz)) e1 | .bor _ => .no) := by rw [← rs_assoc]; exact P
  refine bindP R P fun F1 H1 e1 r v h1 R1 E1 q1 P1 => ?_
  obtain ⟨F2, e2, x, R2, E2, q2, nb, P2⟩ := P1.mvR R1 q1
  cases x with
  | bor i => exact absurd rfl (nb i)
  | fz d => exact P2.ok' R2 (.fz q2)
  | fresh ds => exact P2.ok' R2 (.fresh q2)
def nDT : Nv := fun e => .ok (.dT [] []) e
def nDK : Nv := fun e => .ok (.dK [] []) e
theorem rd_nDT {w : Wd} {Q : VK} (h : rdN w nDT σ H Q) : tDNewT σ H Q := fun p hp => by
  obtain ⟨C, F, e, R, P⟩ := h
  obtain ⟨R2, hM, hF, ap⟩ := R.grow (o := .dT []) hp
  exact P _ F _ R2 (.refl F) ⟨[p], .dT (vs := []) upd_same rfl .nil, (List.nodup_cons.mpr ⟨List.not_mem_nil, List.nodup_nil⟩), fun a ha => by rw [List.mem_singleton] at ha; subst ha; exact ⟨hF, hM, ap⟩⟩
theorem rd_nDK {w : Wd} {Q : VK} (h : rdN w nDK σ H Q) : tDNewK σ H Q := fun p hp => by
  obtain ⟨C, F, e, R, P⟩ := h
  obtain ⟨R2, hM, hF, ap⟩ := R.grow (o := .dK []) hp
  exact P _ F _ R2 (.refl F) ⟨[p], .dK (vs := []) upd_same rfl .nil, (List.nodup_cons.mpr ⟨List.not_mem_nil, List.nodup_nil⟩), fun a ha => by rw [List.mem_singleton] at ha; subst ha; exact ⟨hF, hM, ap⟩⟩
def news : List Nv → Sem1 (List OT)
  | [] => fun e => .ok [] e
  | a :: as => fun e => (a e).bind fun t e1 => (news as e1).bind fun ts e2 => .ok (t :: ts) e2
theorem rd_news_nil {w : Wd} {Q : List V → Hp → Prop} (h : rdNs w (news []) σ H Q) : tNil σ H Q := by
  obtain ⟨C, F, e, R, P⟩ := h
  exact P.ok' R ⟨[], .nil, List.nodup_nil, fun a h => absurd h List.not_mem_nil⟩
theorem rd_news_cons {w : Wd} {a : Nv} {as : List Nv} {Q : List V → Hp → Prop} (h : rdNs w (news (a :: as)) σ H Q) : tCons (rdN w a) (rdNs w (news as)) σ H Q := by
  obtain ⟨C, F, e, R, P⟩ := h
  refine bindP R P fun F1 H1 e1 t v h1 R1 E1 q1 P1 => ?_
  obtain ⟨fp, o, nd, hF⟩ := q1
  have Rh := R1.holds (L := fp) fun a ha => ⟨o.some a ha, (hF a ha).1, (hF a ha).2.2⟩
  refine ⟨C.holds H1 fp, F1, e1, Rh, ?_⟩
  cases h3 : news as e1 with
  | no => rw [h3] at P1; exact P1
  | ex x e3 =>
    rw [h3] at P1
    intro F' H' cv od R' E' q
    exact P1 F' H' cv od (R1.drops R').1 E' q
  | ok ts e3 =>
    rw [h3] at P1
    intro vs F' H' R' E' q
    obtain ⟨R6, k⟩ := R1.drops R'
    obtain ⟨fp2, o2, nd2, hF2⟩ := q
    refine P1 _ F' H' R6 E' ⟨fp ++ fp2, .cons (o.ext E' fun a ha => (k a ha).1) o2, ?_, fun a ha => ?_⟩
    · rw [List.nodup_append]
      exact ⟨nd, nd2, fun a ha b hb z => (hF2 b hb).2.1 (.inr (z ▸ ha))⟩
    · rcases List.mem_append.mp ha with ha | ha
      · exact ⟨(k a ha).2.1, (hF a ha).2.1, (k a ha).2.2⟩
      · exact ⟨(hF2 a ha).1, fun z => (hF2 a ha).2.1 (.inl z), (hF2 a ha).2.2⟩
/-- a list of new things -/
def nLst (as : Sem1 (List OT)) : Nv := fun e => (as e).bind fun ts e1 => if ts.length ≤ sizeLine then .ok (.lst ts) e1 else .no
theorem Apar.grow (R : Rp K C F H e σ) {p a : Addr} {o : HO} (hp : H p = none) (h : Apar K H e σ a) : Apar K (upd H p o) e σ a := ⟨h.1, fun i fp ht => h.2 i fp (R.trBack (fun b h0 _ _ _ => upd_ne (fun z => h0 (z ▸ hp))) ht)⟩
theorem rd_nLst {w : Wd} {as : Sem1 (List OT)} {Q : VK} (h : rdN w (nLst as) σ H Q) : tLst (rdNs w as) σ H Q := by
  obtain ⟨C, F, e, R, P⟩ := h
  refine bindP R P fun F1 H1 e1 ts vs h1 R1 E1 q1 P1 => ?_
  obtain ⟨fp, o, nd, hF⟩ := q1
  split at P1
  · rename_i hl
    refine ⟨by rw [← o.length]; exact hl, fun p hp => ?_⟩
    obtain ⟨R2, hM, hF2, ap⟩ := R1.grow (o := .lst vs) hp
    have ne : ∀ a ∈ fp, a ≠ p := fun a ha z => o.some a ha (z ▸ hp)
    refine P1 _ F1 _ R2 (.refl F1) ⟨p :: fp, .lst upd_same (o.ext (.refl F1) fun a ha => upd_ne (ne a ha)), List.nodup_cons.mpr ⟨fun z => ne p z rfl, nd⟩, fun a ha => ?_⟩
    rcases List.mem_cons.mp ha with rfl | ha
    · exact ⟨hF2, hM, ap⟩
    · exact ⟨(hF a ha).1, (hF a ha).2.1, (hF a ha).2.2.grow R1 hp⟩
  · exact P1.elim
def allFz : List OT → Option (List D)
  | [] => some []
  | .fz d :: ts => (allFz ts).map fun ds => d :: ds
  | _ :: _ => none
@[simp] theorem allFz_map (ds : List D) : allFz (ds.map OT.fz) = some ds := by
  induction ds with
  | nil => rfl
  | cons d ds ih => rw [List.map_cons]; unfold allFz; rw [ih]; rfl
theorem allFz_of : ∀ {ts : List OT} {ds : List D}, allFz ts = some ds → ts = ds.map OT.fz
  | [], ds, h => by cases h; rfl
  | .fz d :: ts, ds, h => by
    unfold allFz at h
    obtain ⟨ds', h1, rfl⟩ := Option.map_eq_some_iff.mp h
    rw [List.map_cons, ← allFz_of h1]
  | .lst _ :: _, _, h => by cases h
  | .dT _ _ :: _, _, h => by cases h
  | .dK _ _ :: _, _, h => by cases h
  | .ins _ _ _ :: _, _, h => by cases h
def svOf : OT → Sv
  | .fz d => .fz d
  | .lst ts => match allFz ts with
    | some ds => .own ds
    | none => .tr false (.lst ts)
  | t => .tr false t
def unTr (i : Nat) (e : Env) : Env := match e[i]? with
  | some (some (.tr false _)) => e.set i none
  | _ => e
def storeN (i : Nat) (t : OT) (e : Env) : Rs Fl := if freeAt (unTr i e) i then .ok .nx ((unTr i e).set i (some (svOf t))) else .no
theorem Rp.unTr (R : Rp K C F H e σ) (i : Nat) : Rp K C F H (VI.unTr i e) σ := by
  unfold VI.unTr
  split
  · exact R.forget i
  · exact R
theorem low_unTr {i j : Nat} {y : Sv} (h : (VI.unTr i e)[j]? = some (some y)) : e[j]? = some (some y) := by
  unfold VI.unTr at h
  split at h
  · rcases getset h with ⟨_, z⟩ | ⟨_, h⟩
    · cases z
    · exact h
  · exact h
theorem Apar.unTr {a : Addr} {i : Nat} (h : Apar K H e σ a) : Apar K H (VI.unTr i e) σ a := ⟨fun j y hy my => h.1 j y (low_unTr hy) my, fun j fp ⟨b, t, v, F', hx, hv, o⟩ => h.2 j fp ⟨b, t, v, F', low_unTr hx, hv, o⟩⟩
theorem NewAt.unTr {t : OT} {v : V} {i : Nat} (h : NewAt K C F H e σ t v) : NewAt K C F H (VI.unTr i e) σ t v := by
  obtain ⟨fp, o, nd, hF⟩ := h
  exact ⟨fp, o, nd, fun a ha => ⟨(hF a ha).1, (hF a ha).2.1, (hF a ha).2.2.unTr⟩⟩
theorem free_lt {i : Nat} (R : Rp K C F H e σ) (h : freeAt e i = true) : i < σ.length := by
  rw [← R.len]
  unfold freeAt at h
  split at h <;> first | (cases h; done) | skip
  rename_i hs; exact (List.getElem?_eq_some_iff.mp hs).1
/-- a name takes a new thing; what else is new stays apart -/
theorem Rp.putN (R : Rp K C F H e σ) {i : Nat} {t : OT} {v : V} {fp : List Addr} (h : freeAt e i = true) (o : Ow K F H t v fp) (nd : fp.Nodup) (hF : ∀ a ∈ fp, F a = none ∧ ¬ C.M a ∧ Apar K H e σ a) :
    Rp K C F H (e.set i (some (svOf t))) (σ.set i (some v)) ∧ ∀ a, a ∉ fp → Apar K H e σ a → Apar K H (e.set i (some (svOf t))) (σ.set i (some v)) a := by
  have lt := free_lt R h
  have tr : ∀ {t : OT}, Ow K F H t v fp → Rp K C F H (e.set i (some (.tr false t))) (σ.set i (some v)) ∧ ∀ a, a ∉ fp → Apar K H e σ a → Apar K H (e.set i (some (.tr false t))) (σ.set i (some v)) a := fun {t} o => by
    refine ⟨R.putTr h ⟨fp, o, nd, hF⟩, fun a ha ap => ⟨fun j y hy my hs => ?_, fun j fq ⟨b2, t2, v2, F2, he2, hv2, o2⟩ hq => ?_⟩⟩
    · rcases getset hy with ⟨rfl, z⟩ | ⟨hj, hy⟩
      · cases z; cases my
      · rw [List.getElem?_set_ne hj] at hs; exact ap.1 j y hy my hs
    · rcases getset he2 with ⟨rfl, z⟩ | ⟨hj, he2⟩
      · cases z
        rw [List.getElem?_set_self lt] at hv2; cases hv2
        cases o2.uniq o
        exact ha hq
      · rw [List.getElem?_set_ne hj] at hv2
        exact ap.2 j fq ⟨b2, t2, v2, F2, he2, hv2, o2⟩ hq
  cases t with
  | fz d =>
    cases o with
    | fz q =>
      refine ⟨R.put h q, fun a ha ap => ⟨fun j y hy my hs => ?_, ap.2.set fun b t z => by cases z⟩⟩
      rcases getset hy with ⟨rfl, z⟩ | ⟨hj, hy⟩
      · cases z; cases my
      · rw [List.getElem?_set_ne hj] at hs; exact ap.1 j y hy my hs
  | lst ts =>
    cases hz : allFz ts with
    | none =>
      have hs : svOf (.lst ts) = .tr false (.lst ts) := by unfold svOf; simp only [hz]
      rw [hs]; exact tr o
    | some ds =>
      have hs : svOf (.lst ts) = .own ds := by unfold svOf; simp only [hz]
      rw [hs]
      have := allFz_of hz
      subst this
      cases o with
      | lst hp ol =>
        rename_i p vs fp'
        obtain ⟨hd, rfl⟩ := owl_fz' ol
        obtain ⟨h1, h2, h3⟩ := hF p List.mem_cons_self
        refine ⟨R.putOwn h hp hd h1 h2 h3, fun a ha ap => ⟨fun j y hy my hs => ?_, ap.2.set fun b t z => by cases z⟩⟩
        rcases getset hy with ⟨rfl, z⟩ | ⟨hj, hy⟩
        · rw [List.getElem?_set_self lt] at hs
          cases hs
          exact ha List.mem_cons_self
        · rw [List.getElem?_set_ne hj] at hs; exact ap.1 j y hy my hs
  | dT ks ts => exact tr o
  | dK ks ts => exact tr o
  | ins n fs ts => exact tr o
theorem PostS.storeN {w : Wd} {D : Ends} {i : Nat} {t : OT} {v : V} (R : Rp w.K C F H e σ) (q : NewAt w.K C F H e σ t v) (P : PostS w C F D (VI.storeN i t e)) : D.nx (σ.set i (some v)) H := by
  unfold VI.storeN at P
  split at P
  · rename_i hf
    obtain ⟨fp, o, nd, hF⟩ := q.unTr (i := i)
    exact P.nx' ((R.unTr i).putN hf o nd hF).1
  · exact P.elim
def asgN (i : Nat) (a : Nv) : St1 := fun e => (a e).bind fun t e1 => storeN i t e1
theorem rd_asgN {w : Wd} {D : Ends} {i : Nat} {a : Nv} (h : rdS w (asgN i a) D σ H) : rdN w a σ H fun v H' => D.nx (σ.set i (some v)) H' := by
  obtain ⟨C, F, e, R, P⟩ := h
  exact bindS R P fun F1 H1 e1 t v h1 R1 E1 q1 P1 => P1.storeN R1 q1
def storesN : List Nat → List OT → Env → Rs Fl
  | [], [], e => .ok .nx e
  | i :: is, t :: ts, e => (storeN i t e).bind fun _ e1 => storesN is ts e1
  | _, _, _ => .no
def parN (is : List Nat) (as : List Nv) : St1 := fun e => (news as e).bind fun ts e1 => storesN is ts e1
theorem PostS.storesN {w : Wd} {D : Ends} : ∀ {is : List Nat} {ts : List OT} {vs : List V} {e : Env} {σ : L2.St}, Rp w.K C F H e σ → NewsAt w.K C F H e σ ts vs → PostS w C F D (VI.storesN is ts e) → vs.length = is.length ∧ D.nx (setAll is vs σ) H
  | [], [], [], e, σ, R, _, P => ⟨rfl, P.nx' R⟩
  | [], [], _ :: _, _, _, _, h, _ => by obtain ⟨_, o, _⟩ := h; cases o
  | i :: is, t :: ts, [], e, σ, R, h, P => by obtain ⟨_, o, _⟩ := h; cases o
  | i :: is, t :: ts, v :: vs, e, σ, R, h, P => by
    obtain ⟨_, oo, nd, hF⟩ := h
    cases oo with
    | @cons _ _ _ _ f1 f2 o1 o2 =>
    rw [List.nodup_append] at nd
    have P : PostS w C F D ((VI.storeN i t e).bind fun _ e1 => VI.storesN is ts e1) := P
    unfold VI.storeN at P
    split at P
    · rename_i hf
      obtain ⟨R1, k⟩ := (R.unTr i).putN hf o1 nd.1 fun a ha => by
        obtain ⟨z1, z2, z3⟩ := hF a (List.mem_append_left _ ha)
        exact ⟨z1, z2, z3.unTr⟩
      obtain ⟨l, q⟩ := PostS.storesN R1 ⟨f2, o2, nd.2.1, fun a ha => by
        obtain ⟨z1, z2, z3⟩ := hF a (List.mem_append_right _ ha)
        exact ⟨z1, z2, k a (fun z => nd.2.2 a z a ha rfl) z3.unTr⟩⟩ P
      exact ⟨by rw [List.length_cons, List.length_cons, l], q⟩
    · exact P.elim
  | [], _ :: _, _, _, _, _, _, P => P.elim
  | _ :: _, [], _, _, _, _, _, P => P.elim
theorem rd_parN {w : Wd} {D : Ends} {is : List Nat} {as : List Nv} (h : rdS w (parN is as) D σ H) : rdNs w (news as) σ H fun vs H1 => vs.length = is.length ∧ D.nx (setAll is vs σ) H1 := by
  obtain ⟨C, F, e, R, P⟩ := h
  exact bindS R P fun F1 H1 e1 rs vs h1 R1 E1 q1 P1 => PostS.storesN R1 q1 P1
theorem NewsAt.growT (R : Rp K C F H e σ) {p : Addr} {o : HO} (hp : H p = none) {ts : List OT} {vs : List V} (h : NewsAt K C F H e σ ts vs) : NewsAt K C (upd F p o) (upd H p o) e σ ts vs := by
  obtain ⟨fp, ol, nd, hF⟩ := h
  have ne : ∀ a ∈ fp, a ≠ p := fun a ha z => ol.some a ha (z ▸ hp)
  exact ⟨fp, ol.ext (Ext.new (R.ext.free hp)) fun a ha => upd_ne (ne a ha), nd, fun a ha => ⟨by rw [upd_ne (ne a ha)]; exact (hF a ha).1, (hF a ha).2.1, (hF a ha).2.2.grow R hp⟩⟩
theorem rd_parTN {w : Wd} {D : Ends} {is : List Nat} {as : List Nv} (hl : is.length ≤ 100) (h : rdS w (parN is as) D σ H) : tAsg (tTup (rdNs w (news as))) (gTup w.K is.length (gNames is)) D σ H := by
  obtain ⟨C, F, e, R, P⟩ := h
  refine bindS R P fun F1 H1 e1 ts vs h1 R1 E1 q1 P1 => ?_
  have hlen := (PostS.storesN R1 q1 P1).1
  refine ⟨by rw [sizeLine_eq]; omega, fun p hp => ?_⟩
  have R2 := R1.growT (o := .tup vs) hp
  obtain ⟨_, k⟩ := PostS.storesN R2 (q1.growT R1 hp) (PostS.mono (Ext.new (R1.ext.free hp)) P1)
  exact ⟨p, vs, rfl, .inl (.inl (upd_same ..)), hlen, gNames_set hlen k⟩
section
variable {X : Cx} {w : Wd} {ex : Expr} {es ts : List Expr} {a : Ev} {n : Nv} {as : List Nv} {i j l : Nat} {x y z : Str} {is : List Nat} {pos pos' px py pz pt pt2 : Pos} {ea eb ec : Expr}
theorem vn_ev (h : PE X ex (rdR w a)) : PE X ex (rdN w (nv a)) := pe_mono h fun _ _ _ q => rd_nv q
theorem vn_dT : PE X (.Dict [] [] pos) (rdN w nDT) := pe_mono pe_dnewT fun _ _ _ q => rd_nDT q
theorem vn_dK : PE X (.Dict [] [] pos) (rdN w nDK) := pe_mono pe_dnewK fun _ _ _ q => rd_nDK q
theorem vn_lst (h : PA X es (rdNs w (news as))) : PE X (.List es pos) (rdN w (nLst (news as))) := pe_mono (pe_lst h) fun _ _ _ q => rd_nLst q
theorem vns_nil : PA X [] (rdNs w (news [])) := pa_mono pa_nil fun _ _ _ h => rd_news_nil h
theorem vns_cons (ha : PE X ex (rdN w n)) (hr : PA X es (rdNs w (news as))) (hs : starEach (ex :: es) X.env = (false, eval ex X.env) :: starEach es X.env := by rfl) : PA X (ex :: es) (rdNs w (news (n :: as))) :=
  pa_mono (pa_cons ha hr hs) fun _ _ _ h => rd_news_cons h
theorem vs_asgN (hN : X.N.Nodup) (hi : X.N[i]? = some x) (hx : Loc X.env.scope x) (he : PE X ex (rdN w n)) (hs : swapsWith ex (some (.Name x pos')) pos.line X.env = pure false := by rfl) (hf : X.fn x = true ∨ X.env.scope.names.lookup x = some .local := by first | exact .inl rfl | exact .inr rfl | assumption) :
    PS X (.Assign [.Name x pos'] ex pos) (rdS w (asgN i n)) := ps_mono (ps_set hN hi hx he hs hf) fun _ _ _ h => rd_asgN h
theorem vs_parN2 {kt k2 : Nat} (hc : X.calm = true) (hN : X.N.Nodup) (hi : X.N[i]? = some x) (hj : X.N[j]? = some y) (hij : i ≠ j)
    (hx : X.env.scope.names.lookup x = some .local) (hy : X.env.scope.names.lookup y = some .local) (ha : PA X [ea, eb] (rdNs w (news as)))
    (hw : swappedStores [.Tuple [.Name x px, .Name y py] kt pt] (.Tuple [ea, eb] k2 pt2) X.env = pure (some [x, y]))
    (hs : swapsWithSole [.Tuple [.Name x px, .Name y py] kt pt] (.Tuple [ea, eb] k2 pt2) pos.line X.env = pure false := by rfl) :
    PS X (.Assign [.Tuple [.Name x px, .Name y py] kt pt] (.Tuple [ea, eb] k2 pt2) pos) (rdS w (parN [i, j] as)) := ps_mono (ps_par hc hN hi hj hij hx hy ha hw hs) fun D σ H h => by
  obtain ⟨C, F, e, R, P⟩ := rd_parN h
  refine ⟨C, F, e, R, ?_⟩
  cases h1 : news as e with
  | no => rw [h1] at P; exact P
  | ex x e1 => rw [h1] at P; exact P
  | ok rs e1 =>
    rw [h1] at P
    intro vs F' H' R' E q
    obtain ⟨hl, hn⟩ := P vs F' H' R' E q
    match vs, hl, hn with
    | [v, u], _, hn => exact ⟨v, u, rfl, hn⟩
theorem vs_parN3 {kt k2 : Nat} (hc : X.calm = true) (hN : X.N.Nodup) (hi : X.N[i]? = some x) (hj : X.N[j]? = some y) (hl : X.N[l]? = some z) (hij : i ≠ j) (hil : i ≠ l) (hjl : j ≠ l)
    (hx : X.env.scope.names.lookup x = some .local) (hy : X.env.scope.names.lookup y = some .local) (hz : X.env.scope.names.lookup z = some .local) (ha : PA X [ea, eb, ec] (rdNs w (news as)))
    (hw : swappedStores [.Tuple [.Name x px, .Name y py, .Name z pz] kt pt] (.Tuple [ea, eb, ec] k2 pt2) X.env = pure (some [x, y, z]))
    (hs : swapsWithSole [.Tuple [.Name x px, .Name y py, .Name z pz] kt pt] (.Tuple [ea, eb, ec] k2 pt2) pos.line X.env = pure false := by rfl) :
    PS X (.Assign [.Tuple [.Name x px, .Name y py, .Name z pz] kt pt] (.Tuple [ea, eb, ec] k2 pt2) pos) (rdS w (parN [i, j, l] as)) := ps_mono (ps_par3 hc hN hi hj hl hij hil hjl hx hy hz ha hw hs) fun D σ H h => by
  obtain ⟨C, F, e, R, P⟩ := rd_parN h
  refine ⟨C, F, e, R, ?_⟩
  cases h1 : news as e with
  | no => rw [h1] at P; exact P
  | ex x e1 => rw [h1] at P; exact P
  | ok rs e1 =>
    rw [h1] at P
    intro vs F' H' R' E q
    obtain ⟨hl, hn⟩ := P vs F' H' R' E q
    match vs, hl, hn with
    | [v, u, t], _, hn => exact ⟨v, u, t, rfl, hn⟩
theorem vs_parTN {kt k2 : Nat} (hk : w.K = X.K) (hc : X.calm = true) (ha : PA X es (rdNs w (news as))) (hg : PGs X ts (gNames is))
    (hl : is.length ≤ 100 := by decide) (hn : (assignEach ts X.env).length = is.length := by rfl) (hst : (assignEach ts X.env).findIdx? (·.1) = none := by rfl)
    (hs : swapsWithSole [.Tuple ts kt pt] (.Tuple es k2 pt2) pos.line X.env = pure false := by rfl) (hw : swappedStores [.Tuple ts kt pt] (.Tuple es k2 pt2) X.env = pure none := by rfl)
    (h1 : (assignEach [.Tuple ts kt pt] X.env).map (·.2) = [assign (.Tuple ts kt pt) X.env] := by rfl) :
    PS X (.Assign [.Tuple ts kt pt] (.Tuple es k2 pt2) pos) (rdS w (parN is as)) := ps_mono (ps_asg (pe_tup ha) (pg_tup hc hg hn hst) hs hw h1) fun D σ H h => by
  have := rd_parTN hl h
  rw [hk] at this
  exact this
end
end VI
set_option Elab.async false
set_option linter.all false
set_option maxRecDepth 100000
set_option maxHeartbeats 4000000
namespace VI
open PySem PySem.Spec PyProof.Rows L2
variable {K : PySem.W.Frag} {C : Cf} {F H : Hp} {e e' : Env} {σ : L2.St}
theorem key_is {P : Program} {w : World} {h : Heap} {b : Addr} {ks : List Key} (ok : HOk P w H h) (e : H b = some (.tup (ks.map kV))) : (tupleKind (mixKind P w)).is h ks b := key_of ok e
theorem kt_all {P : Program} {w : World} {h : Heap} (ok : HOk P w H h) : ∀ {l : List (List Key × V)} {m : List (List Key × Addr × Value)}, KT H l m → ∀ x ∈ m, (tupleKind (mixKind P w)).is h x.1 x.2.1
  | _, _, .nil, x, hx => nomatch hx
  | _, _, .cons hq t, x, hx => by
    rcases List.mem_cons.mp hx with e | hx
    · subst e
      exact key_of ok (by rw [← hq.1]; exact hq.2.1)
    · exact kt_all ok t x hx
/-- {k: v}, the key a tuple; the dict stands empty while they are reckoned -/
def tDisp1T (tk tv : TE) : TE := fun σ H Q => ∀ p, H p = none → tk σ (upd H p (.dT [])) fun x H1 => tv σ H1 fun y H2 => H2 p = some (.dT []) ∧ ∃ b ks, x = .ref b ∧ H2 b = some (.tup (ks.map kV)) ∧ Q (.ref p) (upd H2 p (.dT [(ks, y)]))
theorem pe_disp1T {X : Cx} {pos : Pos} {k v : Expr} {tk tv : TE} (hu : X.A.units + 1 < cLine) (hk : PE X k tk) (hv : PE X v tv) : PE X (.Dict [some k] [v] pos) (tDisp1T tk tv) := by
  refine ⟨fun pins s σ H Q I q => ?_⟩
  have hn := I.hok.fresh (Nat.le_refl s.heap.objs.size)
  have I1 := I.laid (a := s.heap.objs.size) (o := .dT []) (h' := s.heap.push { cls := .type "dict", data := .dict #[] }) (t' := s.toks) (fun _ _ q => Heap.get?_push_of_some _ q) (Nat.le_refl _) (dt_empty s.heap I.big)
  refine wpAny_Dict_any rfl rfl (fun z => by cases z) (by show 1 ≤ 15; decide) (pairTrees_cons_walk (thn (hk.run pins _ σ _ _ I1 (q _ hn)) fun u s1 ⟨x, H1, I1, rx, q1⟩ => thn (hv.run pins s1 σ H1 _ I1 q1) fun w2 s2 ⟨y, H2, I2, ry, e, b, ks, ex, eb, q2⟩ => pairTrees_nil_walk ?_))
  subst ex
  cases (show u = Value.ref b from rx)
  obtain ⟨z, hd, xs, rel, dd⟩ := dt_of I2.hok e
  cases rel
  refine wpAny_storeAllH (knd := tupleKind (mixKind X.prog X.w)) (show X.A.units < cLine by omega) [(.ref b, w2)] [(ks, b, w2)] [] s2 _ ⟨rfl, rfl, key_of I2.hok eb, trivial⟩ dd (by rw [sizeLine_eq]; show 0 + 1 ≤ 16777216; decide) fun h' tk dd' hs => ?_
  obtain ⟨q', es, ep, hq, h2, h3, h4, _, h5⟩ := dd'
  have KTn : KT H2 [(ks, y)] [(ks, b, w2)] := .cons ⟨rfl, eb, ry⟩ .nil
  refine ⟨.ref s.heap.objs.size, _, d_write (ob := .dT [(ks, y)]) I2 (by rw [e]; exact True.intro) hs ⟨q', hq⟩ ⟨by show 1 ≤ sizeLine; decide, hd, [(ks, b, w2)], KTn.keeps fun c ys ec => ?_, q', es, ep, hq, h2, h3, h4, h5⟩, rfl, q2⟩
  rw [upd_ne (ne_of ec e (fun z => nomatch z))]
  exact ec
/-- d.update(l), l a list of pairs with tuple keys -/
def mergeT (kvs more : List (List Key × V)) : List (List Key × V) := more.foldl (fun acc kv => putK acc kv.1 kv.2) kvs
theorem length_mergeT : ∀ (more kvs : List (List Key × V)), (mergeT kvs more).length ≤ kvs.length + more.length
  | [], kvs => by show kvs.length ≤ kvs.length + 0; omega
  | p :: r, kvs => by
    have h1 := length_mergeT r (putK kvs p.1 p.2)
    have h2 := length_putK kvs p.1 p.2
    show (mergeT (putK kvs p.1 p.2) r).length ≤ _
    rw [List.length_cons]; omega
theorem KT.mergeT {H : Hp} : ∀ {more : List (List Key × V)} {ps : List (List Key × Addr × Value)} {kvs : List (List Key × V)} {xs : List (List Key × Addr × Value)}, KT H more ps → KT H kvs xs → KT H (VI.mergeT kvs more) (storedAllH xs ps) := by
  intro more ps kvs xs r
  induction r generalizing kvs xs with
  | nil => intro q; exact q
  | @cons p q ps qs h t ih =>
    intro r0
    obtain ⟨h1, h2, h3⟩ := h
    have e : KT H (putK kvs p.1 p.2) (storedH xs q.1 q.2.1 q.2.2) := by
      have := L2.KT.put r0 p.1 h2 h3
      rw [← h1]; exact this
    exact ih e
def rUpdT (K : PySem.W.Frag) : V → List V → Hp → VK → Prop := fun x xs H Q => ∃ (d l : Addr) (kv more : List (List Key × V)) (ps : List Addr), x = .ref d ∧ xs = [.ref l] ∧ H d = some (.dT kv) ∧ L2.Rd H l (.lst (ps.map V.ref)) ∧
  Paired (fun p (m : List Key × V) => ∃ b, H p = some (.tup [.ref b, m.2]) ∧ H b = some (.tup (m.1.map kV))) ps more ∧ kv.length + more.length ≤ sizeLine ∧ Q .non (upd H d (.dT (mergeT kv more)))
theorem mt_updT {X : Cx} (hc : X.calm = true) (hu : X.A.units + 1 < cLine) : MtR X "dict.update" (rUpdT X.K) := by
  intro pins s σ H x xs v us Q I rx r q
  obtain ⟨d, l, kv, more, ps, rfl, rfl, hd, hl, hp, hz, q⟩ := q
  obtain rfl : v = Value.ref d := rx
  obtain ⟨u, rfl, ru⟩ := vals1 r
  obtain rfl : u = Value.ref l := ru
  obtain ⟨its, rv, pl, _⟩ := I.list (.inl hl)
  have ei := refs_at rv
  subst ei
  obtain ⟨z, hsys, xs, rel, dd⟩ := dt_of I.hok hd
  -- the pairs, as they stand
  have ex : ∀ {ps : List Addr} {more : List (List Key × V)}, Paired (fun p (m : List Key × V) => ∃ b, H p = some (.tup [.ref b, m.2]) ∧ H b = some (.tup (m.1.map kV))) ps more → ∃ prs : List (List Key × Addr × Value), KT H more prs ∧ prs.length = ps.length ∧
      ∀ (j : Nat) (q : List Key × Addr × Value), prs[j]? = some q → ∃ b : Addr, ps[j]? = some b ∧ s.heap.IsTuple b #[.ref q.2.1, q.2.2] := by
    intro ps more h
    induction h with
    | nil => exact ⟨[], .nil, rfl, fun j q e => by simp at e⟩
    | @cons p m ps ms h t ih =>
      obtain ⟨b, h1, h2⟩ := h
      obtain ⟨prs, r, hl, hq⟩ := ih
      obtain ⟨its, rv, it, _⟩ := I.tuple (.inl (.inl h1))
      obtain ⟨u, y, rfl, ru, ry⟩ := vals2 rv
      obtain rfl : u = Value.ref b := ru
      obtain ⟨o, ho, hcl, n, hdat⟩ := it
      refine ⟨(m.1, b, y) :: prs, .cons ⟨rfl, h2, ry⟩ r, by rw [List.length_cons, List.length_cons, hl], fun j q e => ?_⟩
      cases j with
      | zero =>
        cases (Option.some.inj e : (m.1, b, y) = q)
        exact ⟨p, rfl, o, ho, hcl, n, hdat⟩
      | succ j => exact hq j q (by simpa using e)
  obtain ⟨prs, KTm, hlen, hpr⟩ := ex hp
  obtain ⟨o, n, ho, hcl, hdn, hdat⟩ := pl
  let Ts : Nat → Addr := fun j => (ps[j]?).getD 0
  let vps : List (Value × Value) := prs.map fun q => (.ref q.2.1, q.2.2)
  have hvl : vps.length = prs.length := List.length_map ..
  have items : PairItems s.heap (ps.map Value.ref).toArray Ts vps := by
    refine ⟨by rw [hvl, hlen]; simp, fun j k y hj => ?_⟩
    rw [List.getElem?_map] at hj
    obtain ⟨q, hq, e⟩ := Option.map_eq_some_iff.mp hj
    cases e
    obtain ⟨b, e1, e2⟩ := hpr j q hq
    have : Ts j = b := by show (ps[j]?).getD 0 = b; rw [e1]; rfl
    rw [this]
    exact ⟨by simp [e1], .inl e2⟩
  have P := PairArg.list (prog := X.prog) (w := X.w) l (ps.map Value.ref).toArray Ts vps
  refine call_update_pairsH (knd := tupleKind (mixKind X.prog X.w)) (acc := xs) (ps := prs) P (I.ok.hd hc) (tupleKind_room_in1 hu) ⟨⟨o, n, ho, hcl, hdn, hdat⟩, items⟩ ?_ ⟨by rw [hvl], fun i key y hr => ?_⟩ ?_ dd ?_ fun h' tk dd' hs => ?_
  · -- the dict is none of the argument's
    intro z
    have hdt := dd.typeIs
    obtain ⟨od, hod, hct⟩ := hdt
    rcases List.mem_cons.mp z with rfl | z
    · rw [hod] at ho; cases ho
      rw [hcl] at hct; exact absurd hct (by decide)
    · obtain ⟨j, hj, e⟩ := List.mem_map.mp z
      rw [List.mem_range] at hj
      obtain ⟨q, hq⟩ : ∃ q, vps[j]? = some q := ⟨_, List.getElem?_eq_getElem hj⟩
      have k := (items.2 j q.1 q.2 hq).2
      rw [e] at k
      rcases k with ⟨o2, h1, h2, _⟩ | ⟨o2, h1, h2, _⟩
      · rw [hod] at h1; cases h1; rw [hct] at h2; exact absurd h2 (by decide)
      · rw [hod] at h1; cases h1; rw [hct] at h2; exact absurd h2 (by decide)
  · have hr : vps[i]? = some (key, y) := hr
    rw [List.getElem?_map] at hr
    obtain ⟨q, hq, e⟩ := Option.map_eq_some_iff.mp hr
    cases e
    exact ⟨q.1, q.2.1, by rw [hq], rfl⟩
  · intro h2 hk2 x hx
    have one : ∀ {l : List (List Key × V)} {m : List (List Key × Addr × Value)}, KT H l m → x ∈ m → (tupleKind (mixKind X.prog X.w)).is h2 x.1 x.2.1 := fun r hx => by
      have k := kt_all I.hok r x hx
      obtain ⟨o2, its2, n2, g1, g2, g3, g4⟩ := k
      refine ⟨o2, its2, n2, hk2 _ _ (fun z => ?_) (by simp) g1, g2, g3, g4⟩
      obtain ⟨od, hod, hct⟩ := dd.typeIs
      rw [z, hod] at g1; cases g1
      rw [g2] at hct; exact absurd hct (by decide)
    rcases List.mem_append.mp hx with hx | hx
    · exact one rel hx
    · exact one KTm hx
  · rw [hvl, hlen, ← Paired.length rel, Paired.length hp]; exact hz
  · obtain ⟨q', es, ep, hq, h2, h3, h4, _, h5⟩ := dd'
    have hlm : (mergeT kv more).length ≤ sizeLine := Nat.le_trans (length_mergeT more kv) hz
    refine ⟨.non, _, I.write (x := d) (e := d) (o := .dT (mergeT kv more)) (t' := tk) (by rw [hd]; exact True.intro) (.inl rfl) (fun b ob hb z => hs b ob hb (by simp) z) ⟨q', hq⟩ ⟨hlm, hsys, _, (KT.mergeT KTm rel).keeps fun c ys ec => ?_, q', es, ep, hq, h2, h3, h4, h5⟩, rfl, q⟩
    rw [upd_ne (ne_of ec hd (fun z => nomatch z))]
    exact ec
/-- {k: v}, its keys tuples; ints or texts -/
def nDT1 (a b : Ev) : Nv := fun e => (toD a e).bind fun dk e1 => (toD b e1).bind fun dv e2 => match tkey dk with
  | some ks => .ok (.dT [ks] [.fz dv]) e2
  | none => .no
def nDK1 (a b : Ev) : Nv := fun e => (toD a e).bind fun dk e1 => (toD b e1).bind fun dv e2 => match skey dk with
  | some k => .ok (.dK [k] [.fz dv]) e2
  | none => .no
theorem rd_nDT1 {w : Wd} {a b : Ev} {Q : VK} (h : rdN w (nDT1 a b) σ H Q) : tDisp1T (rdR w a) (rdR w b) σ H Q := fun p hp => by
  obtain ⟨C, F, e, R, P⟩ := h
  obtain ⟨R1, hM, hF, ap⟩ := R.grow (o := .dT []) hp
  have Rh := R1.hold upd_same hF hM ap
  refine rd_toD ⟨C.hold (upd H p (.dT [])) p, F, e, Rh, ?_⟩
  unfold nDT1 at P
  cases ha : toD a e with
  | no => rw [ha] at P; exact P
  | ex x e1 =>
    rw [ha] at P
    intro F' H' cv od R' E q
    obtain ⟨R6, k1, k2, k3⟩ := R1.drop (o := .dT []) R' hM
    have hu : upd H' p (.dT []) = H' := by
      funext c
      by_cases hc : c = p
      · subst hc; rw [upd_same, k1, upd_same]
      · rw [upd_ne hc]
    rw [hu] at R6
    exact P F' H' cv od R6 E q
  | ok dk e1 =>
    rw [ha] at P
    intro x F1 H1 R1' E1 q1
    refine rd_toD ⟨C.hold (upd H p (.dT [])) p, F1, e1, R1', ?_⟩
    have P : Post w (fun C F H e σ t v => NewAt w.K C F H e σ t v) C F σ Q ((toD b e1).bind fun dv e2 => match tkey dk with | some ks => .ok (.dT [ks] [.fz dv]) e2 | none => .no) := P
    cases hb : toD b e1 with
    | no => rw [hb] at P; exact P
    | ex x e2 =>
      rw [hb] at P
      intro F' H' cv od R' E q
      obtain ⟨R6, k1, k2, k3⟩ := R1.drop (o := .dT []) R' hM
      have hu : upd H' p (.dT []) = H' := by
        funext c
        by_cases hc : c = p
        · subst hc; rw [upd_same, k1, upd_same]
        · rw [upd_ne hc]
      rw [hu] at R6
      exact P F' H' cv od R6 (E1.trans E) q
    | ok dv e2 =>
      rw [hb] at P
      intro y F2 H2 R2 E2 q2
      have P : Post w (fun C F H e σ t v => NewAt w.K C F H e σ t v) C F σ Q (match tkey dk with | some ks => .ok (.dT [ks] [.fz dv]) e2 | none => .no) := P
      split at P
      · rename_i ks hks
        obtain ⟨c, rfl, hb2⟩ := tkey_v hks (Dp.ext E2 q1)
        obtain ⟨R6, k1, k2, k3⟩ := R1.drop (o := .dT [(ks, y)]) R2 hM
        refine ⟨by rw [k1, upd_same], c, ks, rfl, R2.ext _ _ hb2, P _ F2 _ R6 (E1.trans E2) ⟨[p], .dT (vs := [y]) upd_same rfl (owl_fz (ds := [dv]) (.cons q2 .nil)), (List.nodup_cons.mpr ⟨List.not_mem_nil, List.nodup_nil⟩), fun a ha => ?_⟩⟩
        rw [List.mem_singleton] at ha
        subst ha
        exact ⟨k2, hM, k3⟩
      · exact P.elim
theorem rd_nDK1 {w : Wd} {a b : Ev} {Q : VK} (h : rdN w (nDK1 a b) σ H Q) : tDisp [(rdR w a, rdR w b)] σ H Q := fun p hp => by
  obtain ⟨C, F, e, R, P⟩ := h
  obtain ⟨R1, hM, hF, ap⟩ := R.grow (o := .dK []) hp
  have Rh := R1.hold upd_same hF hM ap
  refine rd_toD ⟨C.hold (upd H p (.dK [])) p, F, e, Rh, ?_⟩
  unfold nDK1 at P
  cases ha : toD a e with
  | no => rw [ha] at P; exact P
  | ex x e1 =>
    rw [ha] at P
    intro F' H' cv od R' E q
    obtain ⟨R6, k1, k2, k3⟩ := R1.drop (o := .dK []) R' hM
    have hu : upd H' p (.dK []) = H' := by
      funext c
      by_cases hc : c = p
      · subst hc; rw [upd_same, k1, upd_same]
      · rw [upd_ne hc]
    rw [hu] at R6
    exact P F' H' cv od R6 E q
  | ok dk e1 =>
    rw [ha] at P
    intro x F1 H1 R1' E1 q1
    refine rd_toD ⟨C.hold (upd H p (.dK [])) p, F1, e1, R1', ?_⟩
    have P : Post w (fun C F H e σ t v => NewAt w.K C F H e σ t v) C F σ Q ((toD b e1).bind fun dv e2 => match skey dk with | some ks => .ok (.dK [ks] [.fz dv]) e2 | none => .no) := P
    cases hb : toD b e1 with
    | no => rw [hb] at P; exact P
    | ex x e2 =>
      rw [hb] at P
      intro F' H' cv od R' E q
      obtain ⟨R6, k1, k2, k3⟩ := R1.drop (o := .dK []) R' hM
      have hu : upd H' p (.dK []) = H' := by
        funext c
        by_cases hc : c = p
        · subst hc; rw [upd_same, k1, upd_same]
        · rw [upd_ne hc]
      rw [hu] at R6
      exact P F' H' cv od R6 (E1.trans E) q
    | ok dv e2 =>
      rw [hb] at P
      intro y F2 H2 R2 E2 q2
      have P : Post w (fun C F H e σ t v => NewAt w.K C F H e σ t v) C F σ Q (match skey dk with | some ks => .ok (.dK [ks] [.fz dv]) e2 | none => .no) := P
      split at P
      · rename_i ks hks
        have := skey_v hks q1
        subst this
        obtain ⟨R6, k1, k2, k3⟩ := R1.drop (o := .dK [(ks, y)]) R2 hM
        refine ⟨by rw [k1, upd_same], [(ks, y)], rfl, by show 1 ≤ 15; decide, P _ F2 _ R6 (E1.trans E2) ⟨[p], .dK (vs := [y]) upd_same rfl (owl_fz (ds := [dv]) (.cons q2 .nil)), (List.nodup_cons.mpr ⟨List.not_mem_nil, List.nodup_nil⟩), fun a ha => ?_⟩⟩
        rw [List.mem_singleton] at ha
        subst ha
        exact ⟨k2, hM, k3⟩
      · exact P.elim
/-- a dict of our own whose values lie still -/
def oT (kvs : List (List Key × D)) : OT := .dT (kvs.map (·.1)) (kvs.map fun p => .fz p.2)
def oK (kvs : List (Key × D)) : OT := .dK (kvs.map (·.1)) (kvs.map fun p => .fz p.2)
def flatT : OT → Option (List (List Key × D))
  | .dT ks ts => (allFz ts).bind fun ds => if ks.length = ds.length then some (ks.zip ds) else none
  | _ => none
def flatK : OT → Option (List (Key × D))
  | .dK ks ts => (allFz ts).bind fun ds => if ks.length = ds.length then some (ks.zip ds) else none
  | _ => none
theorem fz_map {κ : Type} (kvs : List (κ × D)) : (kvs.map fun p => OT.fz p.2) = (kvs.map (·.2)).map OT.fz := by rw [List.map_map]; rfl
theorem zip_un {κ α : Type} : ∀ kvs : List (κ × α), (kvs.map (·.1)).zip (kvs.map (·.2)) = kvs
  | [] => rfl
  | p :: kvs => by rw [List.map_cons, List.map_cons, List.zip_cons_cons, zip_un]
@[simp] theorem flatT_o (kvs : List (List Key × D)) : flatT (oT kvs) = some kvs := by
  unfold flatT oT
  simp only [fz_map, allFz_map, Option.bind_some, List.length_map, if_true, zip_un]
@[simp] theorem flatK_o (kvs : List (Key × D)) : flatK (oK kvs) = some kvs := by
  unfold flatK oK
  simp only [fz_map, allFz_map, Option.bind_some, List.length_map, if_true, zip_un]
@[simp] theorem flatT_oK (kvs : List (Key × D)) : flatT (oK kvs) = none := rfl
theorem flatT_of {t : OT} {kvs : List (List Key × D)} (h : flatT t = some kvs) : t = oT kvs := by
  cases t with
  | dT ks ts =>
    unfold flatT at h
    obtain ⟨ds, h1, h2⟩ := Option.bind_eq_some_iff.mp h
    split at h2
    · rename_i hl
      cases h2
      unfold oT
      rw [fz_map, zip_snd hl, zip_fst (f := fun x => x) hl, List.map_id', ← allFz_of h1]
    · cases h2
  | _ => cases h
theorem flatK_of {t : OT} {kvs : List (Key × D)} (h : flatK t = some kvs) : t = oK kvs := by
  cases t with
  | dK ks ts =>
    unfold flatK at h
    obtain ⟨ds, h1, h2⟩ := Option.bind_eq_some_iff.mp h
    split at h2
    · rename_i hl
      cases h2
      unfold oK
      rw [fz_map, zip_snd hl, zip_fst (f := fun x => x) hl, List.map_id', ← allFz_of h1]
    · cases h2
  | _ => cases h
theorem oT_at {v : V} {fp : List Addr} {kvs : List (List Key × D)} (o : Ow K F H (oT kvs) v fp) : ∃ p kv, v = .ref p ∧ fp = [p] ∧ H p = some (.dT kv) ∧ kv.map (·.1) = kvs.map (·.1) ∧ DpAll K F (kv.map (·.2)) (kvs.map (·.2)) := by
  unfold oT at o
  cases o with
  | dT hp hl ol =>
    rename_i p vs fp'
    rw [fz_map] at ol
    obtain ⟨hd, rfl⟩ := owl_fz' ol
    exact ⟨p, _, rfl, rfl, hp, by rw [zip_fst (f := fun x => x) hl, List.map_id'], by rw [zip_snd hl]; exact hd⟩
theorem oK_at {v : V} {fp : List Addr} {kvs : List (Key × D)} (o : Ow K F H (oK kvs) v fp) : ∃ p kv, v = .ref p ∧ fp = [p] ∧ H p = some (.dK kv) ∧ kv.map (·.1) = kvs.map (·.1) ∧ DpAll K F (kv.map (·.2)) (kvs.map (·.2)) := by
  unfold oK at o
  cases o with
  | dK hp hl ol =>
    rename_i p vs fp'
    rw [fz_map] at ol
    obtain ⟨hd, rfl⟩ := owl_fz' ol
    exact ⟨p, _, rfl, rfl, hp, by rw [zip_fst (f := fun x => x) hl, List.map_id'], by rw [zip_snd hl]; exact hd⟩
theorem at_oT {p : Addr} {kv : List (List Key × V)} {kvs : List (List Key × D)} (h : H p = some (.dT kv)) (h1 : kv.map (·.1) = kvs.map (·.1)) (h2 : DpAll K F (kv.map (·.2)) (kvs.map (·.2))) : Ow K F H (oT kvs) (.ref p) [p] := by
  unfold oT
  rw [fz_map, ← h1]
  exact .dT (vs := kv.map (·.2)) (by rw [zip_un]; exact h) (by simp) (owl_fz h2)
theorem at_oK {p : Addr} {kv : List (Key × V)} {kvs : List (Key × D)} (h : H p = some (.dK kv)) (h1 : kv.map (·.1) = kvs.map (·.1)) (h2 : DpAll K F (kv.map (·.2)) (kvs.map (·.2))) : Ow K F H (oK kvs) (.ref p) [p] := by
  unfold oK
  rw [fz_map, ← h1]
  exact .dK (vs := kv.map (·.2)) (by rw [zip_un]; exact h) (by simp) (owl_fz h2)
/-- a store on both sides -/
theorem put_rel {κ : Type} [DecidableEq κ] {k : κ} {v : V} {d : D} (hd : Dp K F v d) : ∀ {kv : List (κ × V)} {kvs : List (κ × D)}, kv.map (·.1) = kvs.map (·.1) → DpAll K F (kv.map (·.2)) (kvs.map (·.2)) → (putK kv k v).map (·.1) = (aput kvs k d).map (·.1) ∧ DpAll K F ((putK kv k v).map (·.2)) ((aput kvs k d).map (·.2)) := by
  intro kv kvs h1 h2
  have an : (kv.any fun p => decide (p.1 = k)) = kvs.any fun p => decide (p.1 = k) := by
    have e1 : (kv.any fun p => decide (p.1 = k)) = (kv.map (·.1)).any fun x => decide (x = k) := by rw [List.any_map]; rfl
    have e2 : (kvs.any fun p => decide (p.1 = k)) = (kvs.map (·.1)).any fun x => decide (x = k) := by rw [List.any_map]; rfl
    rw [e1, e2, h1]
  unfold putK aput
  rw [an]
  split
  · rename_i hh
    clear an hh
    constructor
    · have e1 : (kv.map fun kv => if kv.1 = k then (kv.1, v) else kv).map (·.1) = kv.map (·.1) := by
        rw [List.map_map]; apply List.map_congr_left; intro p _; show (if p.1 = k then (p.1, v) else p).1 = p.1; split <;> rfl
      have e2 : (kvs.map fun p => if p.1 = k then (p.1, d) else p).map (·.1) = kvs.map (·.1) := by
        rw [List.map_map]; apply List.map_congr_left; intro p _; show (if p.1 = k then (p.1, d) else p).1 = p.1; split <;> rfl
      rw [e1, e2, h1]
    · induction kv generalizing kvs with
      | nil => cases kvs with
        | nil => exact .nil
        | cons q kvs => simp at h1
      | cons p kv ih => cases kvs with
        | nil => simp at h1
        | cons q kvs =>
          simp only [List.map_cons, List.cons.injEq] at h1 h2
          cases h2 with
          | cons a r =>
            simp only [List.map_cons]
            by_cases hk : p.1 = k
            · rw [if_pos hk, if_pos (h1.1 ▸ hk)]; exact .cons hd (ih h1.2 r)
            · rw [if_neg hk, if_neg (h1.1 ▸ hk)]; exact .cons a (ih h1.2 r)
  · constructor
    · rw [List.map_append, List.map_append, h1]; rfl
    · rw [List.map_append, List.map_append]; exact h2.append (.cons hd .nil)
/-- d[k] = v, on the tree -/
def dput (t : OT) (k v : D) : Option OT := match flatT t, tkey k with
  | some kvs, some ks => if kvs.length < sizeLine then some (oT (aput kvs ks v)) else none
  | _, _ => match flatK t, skey k with
    | some kvs, some ks => if kvs.length < sizeLine then some (oK (aput kvs ks v)) else none
    | _, _ => none
def dsetS (i : Nat) (k v : Ev) : St1 := fun e => (toD v e).bind fun dv e1 => match e1[i]? with
  | some (some (.tr _ _)) => (toD k e1).bind fun dk e2 => match e2[i]? with
    | some (some (.tr b t)) => match dput t dk dv with
      | some t' => .ok .nx (e2.set i (some (.tr b t')))
      | none => .no
    | _ => .no
  | _ => .no
theorem ev_tr {i : Nat} {b : Bool} {t : OT} (h : e[i]? = some (some (.tr b t))) : eV i e = .ok (.bor i) e := by unfold eV; rw [h]
theorem rd_dset {w : Wd} {D : Ends} {i : Nat} {k v : Ev} (h : rdS w (dsetS i k v) D σ H) : sDPut (rdR w (eV i)) (rdR w k) (rdR w v) D σ H := by
  obtain ⟨C, F, e, R, P⟩ := h
  refine rd_toD (bindS R P fun F1 H1 e1 dv v1 h1 R1 E1 q1 P1 => ?_)
  split at P1
  · rename_i b0 t0 ht0
    refine ⟨C, F1, e1, R1, ?_⟩
    rw [ev_tr ht0]
    intro o F2 H2 R2 E2 qo
    have qo : σ[i]? = some (some o) := qo
    have P1 := PostS.mono E2 P1
    refine rd_toD (bindS R2 P1 fun F3 H3 e3 dk y h3 R3 E3 q3 P3 => ?_)
    split at P3
    · rename_i b t ht
      obtain ⟨u, hu, fp, ow, nd, hF, hb⟩ := R3.sl _ _ ht
      rw [qo] at hu; cases hu
      have qv : Dp w.K F3 v1 dv := Dp.ext (E2.trans E3) q1
      split at P3
      · rename_i t' hp
        unfold dput at hp
        split at hp
        · rename_i kvs ks hk1 hk2
          split at hp
          · rename_i hl
            cases hp
            have := flatT_of hk1
            subst this
            obtain ⟨p, kv, rfl, rfl, hH, g1, g2⟩ := oT_at ow
            obtain ⟨c, rfl, hc⟩ := tkey_v hk2 q3
            have hlen : kv.length = kvs.length := by have := congrArg List.length g1; simpa using this
            obtain ⟨z1, z2⟩ := put_rel (k := ks) qv g1 g2
            obtain ⟨f1, f2⟩ := hF p List.mem_cons_self
            refine ⟨p, _, rfl, .inr ⟨kv, ks, c, hH, rfl, R3.ext _ _ hc, by rw [hlen]; exact hl, rfl⟩, P3 F3 _ σ (R3.trPut (fp' := [p]) ht qo ow (.refl F3) (R3.ext.mut f1) (fun a ha hn => ⟨upd_ne (fun z => hn (by rw [z]; exact List.mem_cons_self)), id⟩) (R3.tup.mut fun xs z => by cases z) (at_oT upd_same z1 z2) nd (fun a ha => ?_) fun hbt => (hb hbt).2) (.refl F3)⟩
            rw [List.mem_singleton] at ha
            subst ha
            exact ⟨f1, .inl List.mem_cons_self⟩
          · cases hp
        · split at hp
          · rename_i kvs ks hk1 hk2
            split at hp
            · rename_i hl
              cases hp
              have := flatK_of hk1
              subst this
              obtain ⟨p, kv, rfl, rfl, hH, g1, g2⟩ := oK_at ow
              have := skey_v hk2 q3
              subst this
              have hlen : kv.length = kvs.length := by have := congrArg List.length g1; simpa using this
              obtain ⟨z1, z2⟩ := put_rel (k := ks) qv g1 g2
              obtain ⟨f1, f2⟩ := hF p List.mem_cons_self
              refine ⟨p, _, rfl, .inl ⟨kv, ks, hH, rfl, by rw [hlen]; exact hl, rfl⟩, P3 F3 _ σ (R3.trPut (fp' := [p]) ht qo ow (.refl F3) (R3.ext.mut f1) (fun a ha hn => ⟨upd_ne (fun z => hn (by rw [z]; exact List.mem_cons_self)), id⟩) (R3.tup.mut fun xs z => by cases z) (at_oK upd_same z1 z2) nd (fun a ha => ?_) fun hbt => (hb hbt).2) (.refl F3)⟩
              rw [List.mem_singleton] at ha
              subst ha
              exact ⟨f1, .inl List.mem_cons_self⟩
            · cases hp
          · cases hp
      · exact P3.elim
    · exact P3.elim
  · exact P1.elim
/-- name.update(pairs), keys that are tuples -/
def unPairs : List D → Option (List (List Key × D))
  | [] => some []
  | .tuple [k, v] :: ds => (tkey k).bind fun ks => (unPairs ds).map fun r => (ks, v) :: r
  | _ :: _ => none
def aputs (kvs more : List (List Key × D)) : List (List Key × D) := more.foldl (fun acc p => aput acc p.1 p.2) kvs
@[simp] theorem unPairs_eq (kvs : List (List Key × D)) : unPairs (kvs.map fun p => .tuple [keysD p.1, p.2]) = some kvs := by
  induction kvs with
  | nil => rfl
  | cons p kvs ih => rw [List.map_cons]; unfold unPairs; rw [tkey_D, ih]; rfl
theorem merge_rel : ∀ {m : List (List Key × V)} {ms : List (List Key × D)} {kv : List (List Key × V)} {kvs : List (List Key × D)}, m.map (·.1) = ms.map (·.1) → DpAll K F (m.map (·.2)) (ms.map (·.2)) → kv.map (·.1) = kvs.map (·.1) → DpAll K F (kv.map (·.2)) (kvs.map (·.2)) →
    (mergeT kv m).map (·.1) = (aputs kvs ms).map (·.1) ∧ DpAll K F ((mergeT kv m).map (·.2)) ((aputs kvs ms).map (·.2))
  | [], [], kv, kvs, _, _, h1, h2 => ⟨h1, h2⟩
  | p :: m, q :: ms, kv, kvs, g1, g2, h1, h2 => by
    simp only [List.map_cons, List.cons.injEq] at g1 g2
    cases g2 with
    | cons a r =>
      obtain ⟨z1, z2⟩ := put_rel (k := p.1) a h1 h2
      rw [g1.1] at z1 z2
      have := merge_rel g1.2 r z1 z2
      rw [← g1.1] at this
      show (mergeT (putK kv p.1 p.2) m).map (·.1) = (aputs (aput kvs q.1 q.2) ms).map (·.1) ∧ DpAll K F ((mergeT (putK kv p.1 p.2) m).map (·.2)) ((aputs (aput kvs q.1 q.2) ms).map (·.2))
      rw [g1.1] at this ⊢
      exact this
  | [], _ :: _, _, _, h, _, _, _ => by simp at h
  | _ :: _, [], _, _, h, _, _, _ => by simp at h
theorem pairs_v : ∀ {ds : List D} {vs : List V} {ms : List (List Key × D)}, unPairs ds = some ms → DpAll K F vs ds → ∃ ps m, vs = ps.map V.ref ∧ Paired (fun p (m : List Key × V) => ∃ b, F p = some (.tup [.ref b, m.2]) ∧ F b = some (.tup (m.1.map kV))) ps m ∧ m.map (·.1) = ms.map (·.1) ∧ DpAll K F (m.map (·.2)) (ms.map (·.2))
  | [], _, ms, h, .nil => by cases h; exact ⟨[], [], rfl, .nil, rfl, .nil⟩
  | d :: ds, _, ms, h, .cons a r => by
    unfold unPairs at h
    split at h
    · rename_i h0; cases h0
    · rename_i k v ds' h0
      cases h0
      obtain ⟨ks, h1, h⟩ := Option.bind_eq_some_iff.mp h
      obtain ⟨ms', h2, rfl⟩ := Option.map_eq_some_iff.mp h
      obtain ⟨ps, m, rfl, g1, g2, g3⟩ := pairs_v h2 r
      cases a with
      | tup hp hd =>
        rename_i q xs
        cases hd with
        | cons a1 r1 =>
          cases r1 with
          | cons a2 r2 =>
            cases r2
            rename_i v1 v2
            obtain ⟨b, rfl, hb⟩ := tkey_v h1 a1
            exact ⟨q :: ps, (ks, v2) :: m, rfl, .cons ⟨b, hp, hb⟩ g1, by rw [List.map_cons, List.map_cons, g2], .cons a2 g3⟩
    · cases h
def isOT : Option (Option Sv) → Bool
  | some (some (.tr _ t)) => (flatT t).isSome
  | _ => false
def eUpd (i : Nat) (a : Ev) : Ev := fun e => if isOT e[i]? then (toD a e).bind fun d e1 => match e1[i]?, d with
    | some (some (.tr b t)), .list ds => match flatT t, unPairs ds with
      | some kvs, some ms => if kvs.length + ms.length ≤ sizeLine then .ok (.fz .none) (e1.set i (some (.tr b (oT (aputs kvs ms))))) else .no
      | _, _ => .no
    | _, _ => .no
  else .no
theorem isOT_of {o : Option (Option Sv)} (h : isOT o = true) : ∃ b kvs, o = some (some (.tr b (oT kvs))) := by
  unfold isOT at h
  split at h
  · rename_i b t
    obtain ⟨kvs, hk⟩ := Option.isSome_iff_exists.mp h
    exact ⟨b, kvs, by rw [flatT_of hk]⟩
  · cases h
theorem rd_upd {w : Wd} {i : Nat} {a : Ev} {Q : VK} (h : rdR w (eUpd i a) σ H Q) : tBM w.K "dict" (rUpdT w.K) (rdR w (eV i)) (tCons (rdR w a) tNil) σ H Q := by
  obtain ⟨C, F, e, R, P⟩ := h
  unfold eUpd at P
  split at P
  · rename_i h0
    obtain ⟨b0, kvs0, h0⟩ := isOT_of h0
    refine ⟨C, F, e, R, ?_⟩
    rw [ev_tr h0]
    intro x F1 H1 R1 E1 q1
    have q1 : σ[i]? = some (some x) := q1
    obtain ⟨u, hu, fp, ow, nd, hF, hb⟩ := R1.sl _ _ h0
    rw [q1] at hu; cases hu
    obtain ⟨p, kv, rfl, rfl, hH, g1, g2⟩ := oT_at ow
    refine ⟨.inr (.inr (.inl ⟨rfl, .inr ⟨kv, hH⟩⟩)), ?_⟩
    have P := Post.mono E1 P
    refine rd_toD (bindP R1 P fun F2 H2 e2 d v h2 R2 E2 q2 P2 => ?_)
    split at P2
    · rename_i b t ds ht
      split at P2
      · rename_i kvs ms hk hm
        split at P2
        · rename_i hl
          have := flatT_of hk
          subst this
          obtain ⟨u, hu, fp2, ow2, nd2, hF2, hb2⟩ := R2.sl _ _ ht
          rw [q1] at hu; cases hu
          obtain ⟨p2, kv2, e2', rfl, hH2, g3, g4⟩ := oT_at ow2
          cases e2'
          cases q2 with
          | lst hr hd =>
            obtain ⟨ps, m, rfl, k1, k2, k3⟩ := pairs_v hm hd
            have l1 : kv2.length = kvs.length := by have := congrArg List.length g3; simpa using this
            have l2 : m.length = ms.length := by have := congrArg List.length k2; simpa using this
            obtain ⟨z1, z2⟩ := merge_rel k2 k3 g3 g4
            obtain ⟨f1, f2⟩ := hF2 p List.mem_cons_self
            refine ⟨p, _, kv2, m, ps, rfl, rfl, hH2, ext_rd R2.ext hr, paired_mono (fun p m ⟨b, y1, y2⟩ => ⟨b, R2.ext _ _ y1, R2.ext _ _ y2⟩) k1, by rw [l1, l2]; exact hl, P2 V.non F2 _ (R2.trPut (fp' := [p]) ht q1 ow2 (.refl F2) (R2.ext.mut f1) (fun a ha hn => ⟨upd_ne (fun z => hn (by rw [z]; exact List.mem_cons_self)), id⟩) (R2.tup.mut fun xs z => by cases z) (at_oT upd_same z1 z2) nd2 (fun a ha => ?_) fun hbt => (hb2 hbt).2) (.refl F2) .non⟩
            rw [List.mem_singleton] at ha
            subst ha
            exact ⟨f1, .inl List.mem_cons_self⟩
        · exact P2.elim
      · exact P2.elim
    · exact P2.elim
  · exact P.elim
section
variable {X : Cx} {w : Wd} {o k v a : Expr} {ea eb : Ev} {i : Nat} {pos pos' apos cpos : Pos}
theorem vn_dT1 (hu : X.A.units + 1 < cLine) (hk : PE X k (rdR w ea)) (hv : PE X v (rdR w eb)) : PE X (.Dict [some k] [v] pos) (rdN w (nDT1 ea eb)) := pe_mono (pe_disp1T hu hk hv) fun _ _ _ q => rd_nDT1 q
theorem vn_dK1 (hk : PE X k (rdR w ea)) (hv : PE X v (rdR w eb)) : PE X (.Dict [some k] [v] pos) (rdN w (nDK1 ea eb)) := pe_mono (pe_disp (pps_cons hk hv pps_nil) rfl rfl (fun z => by cases z) (by show 1 ≤ 15; decide)) fun _ _ _ q => rd_nDK1 q
theorem vs_dset (hu : X.A.units + 1 < cLine) (ho : PE X o (rdR w (eV i))) (hk : PE X k (rdR w ea)) (hv : PE X v (rdR w eb)) (hs : swapsWith v (some (.Subscript o k pos')) pos.line X.env = pure false := by rfl) :
    PS X (.Assign [.Subscript o k pos'] v pos) (rdS w (dsetS i ea eb)) := ps_mono (ps_dput hu ho hk hv hs) fun _ _ _ h => rd_dset h
theorem ve_upd (hw : w.K = X.K) (hc : X.calm = true) (hu : X.A.units + 1 < cLine) (ho : PE X o (rdR w (eV i))) (ha : PE X a (rdR w ea))
    (hbase : attributeBase o "update" X.env (eval o X.env) = eval o X.env := by rfl)
    (hfew : ((backTo cpos (starEach [a] X.env)).all (fun x => !x.1) && (backToKw cpos (keywordEach [] X.env)).all (fun x => x.1.isSome)
      && decide (([a] : List Expr).length + ([] : List Keyword).length + (if ([] : List Keyword).isEmpty then 0 else 1) < 30)) = true := by rfl)
    (hline : (apos.endLine == cpos.line) = true := by rfl) (h1 : starEach [a] X.env = (false, eval a X.env) :: starEach [] X.env := by rfl) (hplain : (backTo cpos (starEach [] X.env)).any (·.1) = false := by rfl) :
    PE X (.Call (.Attribute o "update" apos) [a] [] cpos) (rdR w (eUpd i ea)) := pe_mono (pe_bm PySem.F.plainAttrs_dict PySem.F.slot_dict_update PySem.F.type_dict_update (mt_updT hc hu) ho (pa_cons ha pa_nil h1) hbase hfew hline h1 hplain) fun _ _ _ h => by
  rw [← hw]; exact rd_upd h
end
end VI
set_option Elab.async false
set_option linter.all false
set_option maxRecDepth 100000
set_option maxHeartbeats 4000000
namespace VI
open PySem PySem.Spec PyProof.Rows L2
section
variable {α β : Type} {e : Env} {i j n : Nat} {d x y : D} {ds xs : List D} {r : Rv} {rs : List Rv} {a b c : Ev} {t : OT} {ts : List OT} {p : Nv} {ps : List Nv} {m : Sem1 Bool} {f : F2}
theorem ds_T (kvs : List (List Key × D)) : OT.ds (kvs.map fun p => OT.fz p.2) = kvs.map (·.2) := by rw [fz_map, ds_fz]
theorem ds_K (kvs : List (Key × D)) : OT.ds (kvs.map fun p => OT.fz p.2) = kvs.map (·.2) := by rw [fz_map, ds_fz]
theorem flatL_fz (ds : List D) : OT.flatL (ds.map OT.fz) = true := by
  induction ds with
  | nil => unfold List.map; unfold OT.flatL; rfl
  | cons d ds ih => rw [List.map_cons]; unfold OT.flatL; rw [ih]; unfold OT.flat; rfl
@[simp] theorem oT_d (kvs : List (List Key × D)) : (oT kvs).d = dictT kvs := by
  unfold oT OT.d dictT
  rw [ds_T]
  induction kvs with
  | nil => rfl
  | cons p kvs ih =>
    injection ih with ih
    simp only [List.map_cons, List.zip_cons_cons, PyData.dict.injEq, List.cons.injEq, true_and]
    exact ih
@[simp] theorem oK_d (kvs : List (Key × D)) : (oK kvs).d = dictK kvs := by
  unfold oK OT.d dictK
  rw [ds_K]
  induction kvs with
  | nil => rfl
  | cons p kvs ih =>
    injection ih with ih
    simp only [List.cons.injEq, true_and] at ih
    simp only [List.map_cons, List.zip_cons_cons, PyData.dict.injEq, List.cons.injEq, true_and]
    exact ih
@[simp] theorem oT_flat (kvs : List (List Key × D)) : (oT kvs).flat = true := by unfold oT OT.flat; rw [fz_map]; exact flatL_fz _
@[simp] theorem oK_flat (kvs : List (Key × D)) : (oK kvs).flat = true := by unfold oK OT.flat; rw [fz_map]; exact flatL_fz _
def okVL (o : Option (Option Sv)) (i : Nat) (e : Env) (Q : Po Rv) : Prop := match o with
  | some (some (.tr false t)) => t.flat = true ∧ Q (.fz t.d) (e.set i (some (.fz t.d)))
  | some (some (.tr true _)) => False
  | some (some (.fz d)) => Q (.fz d) e
  | some (some _) => Q (.bor i) e
  | _ => False
@[simp] theorem okVL_fz {Q : Po Rv} : okVL (some (some (.fz d))) i e Q = Q (.fz d) e := rfl
@[simp] theorem okVL_own {Q : Po Rv} : okVL (some (some (.own ds))) i e Q = Q (.bor i) e := rfl
@[simp] theorem okVL_tr {Q : Po Rv} : okVL (some (some (.tr false t))) i e Q = (t.flat = true ∧ Q (.fz t.d) (e.set i (some (.fz t.d)))) := rfl
@[simp] theorem ok_VL {Q : Po Rv} : Ok (eVL i e) Q = okVL e[i]? i e Q := by
  unfold eVL
  cases h : e[i]? with
  | none => rfl
  | some o => cases o with
    | none => rfl
    | some s => cases s with
      | tr z t =>
        cases z with
        | true => rfl
        | false =>
          show Ok (if t.flat then _ else _) Q = (t.flat = true ∧ Q (.fz t.d) (e.set i (some (.fz t.d))))
          by_cases hf : t.flat = true
          · simp [hf]
          · simp [hf]
      | _ => rfl
@[simp] theorem lendE_nil : lendE [] = [] := rfl
@[simp] theorem lendE_cons {o : Option Sv} : lendE (o :: e) = lend1 o :: lendE e := rfl
@[simp] theorem lend1_none : lend1 none = none := rfl
@[simp] theorem lend1_fz : lend1 (some (.fz d)) = some (.fz d) := rfl
@[simp] theorem lend1_own : lend1 (some (.own ds)) = some (.fz (.list ds)) := rfl
@[simp] theorem lend1_lent : lend1 (some (.lent ds)) = some (.fz (.list ds)) := rfl
@[simp] theorem lend1_io : lend1 (some (.io ds)) = some (.fz (.list ds)) := rfl
@[simp] theorem lend1_oT {z : Bool} {kvs : List (List Key × D)} : lend1 (some (.tr z (oT kvs))) = some (.fz (dictT kvs)) := by
  unfold lend1 Sv.d
  simp
@[simp] theorem lend1_oK {z : Bool} {kvs : List (Key × D)} : lend1 (some (.tr z (oK kvs))) = some (.fz (dictK kvs)) := by
  unfold lend1 Sv.d
  simp
theorem lend1_tr {z : Bool} (h : t.flat = true) : lend1 (some (.tr z t)) = some (.fz t.d) := by
  unfold lend1 Sv.d
  simp [h]
@[simp] theorem lendE_rep {k : Nat} : lendE (List.replicate k none) = List.replicate k none := by unfold lendE; simp
@[simp] theorem scal_none : scal .none = true := rfl
@[simp] theorem scal_bool {z : Bool} : scal (.bool z) = true := rfl
@[simp] theorem scal_int {z : Int} : scal (.int z) = true := rfl
@[simp] theorem scal_str {z : Str} : scal (.str z) = true := rfl
def kLent (e : Env) (Q : Po Rv) : Po Rv := fun r _ => match r with
  | .fz d => scal d = true ∧ Q (.fz d) e
  | _ => False
@[simp] theorem kLent_fz {e' : Env} {Q : Po Rv} : kLent e Q (.fz d) e' = (scal d = true ∧ Q (.fz d) e) := rfl
@[simp] theorem ok_lentE {Q : Po Rv} : Ok (lentE a e) Q = Ok (a (lendE e)) (kLent e Q) := by
  unfold lentE
  cases a (lendE e) with
  | no => rfl
  | ex x e1 => rfl
  | ok r e1 =>
    cases r with
    | fz d =>
      show Ok (if scal d then _ else _) Q = (scal d = true ∧ Q (.fz d) e)
      by_cases h : scal d = true
      · simp [h]
      · simp [h]
    | fresh ds => rfl
    | bor j => rfl
def kLentT (e : Env) (Q : Po Bool) : Po Bool := fun z _ => Q z e
@[simp] theorem kLentT_eq {e' : Env} {z : Bool} {Q : Po Bool} : kLentT e Q z e' = Q z e := rfl
@[simp] theorem ok_lentT {Q : Po Bool} : Ok (lentT m e) Q = Ok (m (lendE e)) (kLentT e Q) := by
  unfold lentT
  cases m (lendE e) <;> rfl
def kNv (Q : Po OT) : Po Rv := fun r e => match r with
  | .fz d => Q (.fz d) e
  | .fresh ds => Q (.lst (ds.map OT.fz)) e
  | .bor _ => False
@[simp] theorem kNv_fz {Q : Po OT} : kNv Q (.fz d) e = Q (.fz d) e := rfl
@[simp] theorem kNv_fresh {Q : Po OT} : kNv Q (.fresh ds) e = Q (.lst (ds.map OT.fz)) e := rfl
@[simp] theorem ok_nv {Q : Po OT} : Ok (nv a e) Q = Ok (a e) (kMv (kNv Q)) := by
  unfold nv
  rw [ok_bind, ok_bind]
  congr 1
  funext r e1
  show Ok (mvR r e1) _ = Ok (mvR r e1) _
  congr 1
  funext r e1
  cases r <;> rfl
@[simp] theorem ok_nDT {Q : Po OT} : Ok (nDT e) Q = Q (oT []) e := rfl
@[simp] theorem ok_nDK {Q : Po OT} : Ok (nDK e) Q = Q (oK []) e := rfl
def kND2 (k : D) (Q : Po OT) : Po D := fun v e => okO (tkey k) e fun ks e => Q (oT [(ks, v)]) e
def kND1 (b : Ev) (Q : Po OT) : Po D := fun k e => Ok (b e) (kFrz (kND2 k Q))
@[simp] theorem kND2_eq {Q : Po OT} : kND2 x Q d e = okO (tkey x) e fun ks e => Q (oT [(ks, d)]) e := rfl
@[simp] theorem kND1_eq {Q : Po OT} : kND1 b Q d e = Ok (b e) (kFrz (kND2 d Q)) := rfl
@[simp] theorem ok_nDT1 {Q : Po OT} : Ok (nDT1 a b e) Q = Ok (a e) (kFrz (kND1 b Q)) := by
  unfold nDT1
  rw [ok_bind, ok_toD]
  congr 2
  funext k e1
  rw [ok_bind, ok_toD]
  show Ok (b e1) _ = Ok (b e1) _
  congr 2
  funext v e2
  show Ok (match tkey k with | some ks => Rs.ok (OT.dT [ks] [.fz v]) e2 | none => .no) Q = okO (tkey k) e2 _
  cases tkey k <;> rfl
def kNE2 (k : D) (Q : Po OT) : Po D := fun v e => okO (skey k) e fun ks e => Q (oK [(ks, v)]) e
def kNE1 (b : Ev) (Q : Po OT) : Po D := fun k e => Ok (b e) (kFrz (kNE2 k Q))
@[simp] theorem kNE2_eq {Q : Po OT} : kNE2 x Q d e = okO (skey x) e fun ks e => Q (oK [(ks, d)]) e := rfl
@[simp] theorem kNE1_eq {Q : Po OT} : kNE1 b Q d e = Ok (b e) (kFrz (kNE2 d Q)) := rfl
@[simp] theorem ok_nDK1 {Q : Po OT} : Ok (nDK1 a b e) Q = Ok (a e) (kFrz (kNE1 b Q)) := by
  unfold nDK1
  rw [ok_bind, ok_toD]
  congr 2
  funext k e1
  rw [ok_bind, ok_toD]
  show Ok (b e1) _ = Ok (b e1) _
  congr 2
  funext v e2
  show Ok (match skey k with | some ks => Rs.ok (OT.dK [ks] [.fz v]) e2 | none => .no) Q = okO (skey k) e2 _
  cases skey k <;> rfl
def kNs2 (t : OT) (Q : Po (List OT)) : Po (List OT) := fun ts e => Q (t :: ts) e
@[simp] theorem kNs2_eq {Q : Po (List OT)} : kNs2 t Q ts e = Q (t :: ts) e := rfl
def kNs1 (ps : List Nv) (Q : Po (List OT)) : Po OT := fun t e => Ok (news ps e) (kNs2 t Q)
@[simp] theorem kNs1_eq {Q : Po (List OT)} : kNs1 ps Q t e = Ok (news ps e) (kNs2 t Q) := rfl
@[simp] theorem ok_news0 {Q : Po (List OT)} : Ok (news [] e) Q = Q [] e := rfl
@[simp] theorem ok_news {Q : Po (List OT)} : Ok (news (p :: ps) e) Q = Ok (p e) (kNs1 ps Q) := by
  unfold news
  rw [ok_bind]
  congr 1
  funext t e1
  rw [ok_bind]; rfl
def kNL (Q : Po OT) : Po (List OT) := fun ts e => ts.length ≤ sizeLine ∧ Q (.lst ts) e
@[simp] theorem kNL_eq {Q : Po OT} : kNL Q ts e = (ts.length ≤ sizeLine ∧ Q (.lst ts) e) := rfl
@[simp] theorem ok_nLst {q : Sem1 (List OT)} {Q : Po OT} : Ok (nLst q e) Q = Ok (q e) (kNL Q) := by
  unfold nLst
  rw [ok_bind]
  congr 1
  funext ts e1
  show Ok (if ts.length ≤ sizeLine then _ else _) Q = (ts.length ≤ sizeLine ∧ Q (.lst ts) e1)
  by_cases h : ts.length ≤ sizeLine
  · rw [if_pos h]; simp [h, -szE]
  · rw [if_neg h]; simp [h, -szE]
@[simp] theorem allFz_nil : allFz [] = some [] := rfl
@[simp] theorem allFz_cons : allFz (.fz d :: ts) = (allFz ts).map fun ds => d :: ds := rfl
@[simp] theorem allFz_lst {us : List OT} : allFz (.lst us :: ts) = none := rfl
def svL (o : Option (List D)) (ts : List OT) : Sv := match o with
  | some ds => .own ds
  | none => .tr false (.lst ts)
@[simp] theorem svL_some : svL (some ds) ts = .own ds := rfl
@[simp] theorem svL_none : svL none ts = .tr false (.lst ts) := rfl
@[simp] theorem svOf_fz : svOf (.fz d) = .fz d := rfl
@[simp] theorem svOf_lst : svOf (.lst ts) = svL (allFz ts) ts := by unfold svOf svL; rfl
@[simp] theorem svOf_oT {kvs : List (List Key × D)} : svOf (oT kvs) = .tr false (oT kvs) := rfl
@[simp] theorem svOf_oK {kvs : List (Key × D)} : svOf (oK kvs) = .tr false (oK kvs) := rfl
def okStN (o : Option (Option Sv)) (i : Nat) (t : OT) (e : Env) (Q : Po Fl) : Prop := match o with
  | some none => Q .nx (e.set i (some (svOf t)))
  | some (some (.fz _)) => Q .nx (e.set i (some (svOf t)))
  | some (some (.own _)) => Q .nx (e.set i (some (svOf t)))
  | some (some (.tr false _)) => Q .nx (e.set i (some (svOf t)))
  | _ => False
@[simp] theorem okStN_none {Q : Po Fl} : okStN (some none) i t e Q = Q .nx (e.set i (some (svOf t))) := rfl
@[simp] theorem okStN_fz {Q : Po Fl} : okStN (some (some (.fz d))) i t e Q = Q .nx (e.set i (some (svOf t))) := rfl
@[simp] theorem okStN_own {Q : Po Fl} : okStN (some (some (.own ds))) i t e Q = Q .nx (e.set i (some (svOf t))) := rfl
@[simp] theorem okStN_tr {u : OT} {Q : Po Fl} : okStN (some (some (.tr false u))) i t e Q = Q .nx (e.set i (some (svOf t))) := rfl
theorem ok_storeN {Q : Po Fl} : Ok (storeN i t e) Q = okStN e[i]? i t e Q := by
  unfold storeN unTr
  cases h : e[i]? with
  | none => simp only [freeAt, h]; rfl
  | some o =>
    cases o with
    | none => simp only [freeAt, h]; rfl
    | some s =>
      cases s with
      | tr z u =>
        cases z with
        | true => simp only [freeAt, h]; rfl
        | false =>
          have lt : i < e.length := (List.getElem?_eq_some_iff.mp h).1
          have h2 : (e.set i none)[i]? = some none := by rw [List.getElem?_set_self lt]
          simp only [freeAt, h2, if_true]
          show Q .nx ((e.set i none).set i (some (svOf t))) = Q .nx (e.set i (some (svOf t)))
          rw [List.set_set]
      | _ => simp only [freeAt, h]; rfl
def kStN (i : Nat) (Q : Po Fl) : Po OT := fun t e => okStN e[i]? i t e Q
@[simp] theorem kStN_eq {Q : Po Fl} : kStN i Q t e = okStN e[i]? i t e Q := rfl
@[simp] theorem ok_asgN {Q : Po Fl} : Ok (asgN i p e) Q = Ok (p e) (kStN i Q) := by
  unfold asgN
  rw [ok_bind]
  congr 1
  funext t e1
  exact ok_storeN
def kParN (is : List Nat) (Q : Po Fl) : Po (List OT) := fun ts e => Ok (storesN is ts e) Q
@[simp] theorem kParN0 {Q : Po Fl} : kParN [] Q [] e = Q .nx e := rfl
def kParN2 (is : List Nat) (ts : List OT) (Q : Po Fl) : Po Fl := fun _ e => kParN is Q ts e
@[simp] theorem kParN2_eq {is : List Nat} {w : Fl} {Q : Po Fl} : kParN2 is ts Q w e = kParN is Q ts e := rfl
@[simp] theorem kParN1 {is : List Nat} {Q : Po Fl} : kParN (i :: is) Q (t :: ts) e = kStN i (kParN2 is ts Q) t e := by
  show Ok ((storeN i t e).bind _) Q = _
  rw [ok_bind]
  show Ok (storeN i t e) _ = _
  rw [ok_storeN]; rfl
@[simp] theorem ok_parN {is : List Nat} {Q : Po Fl} : Ok (parN is ps e) Q = Ok (news ps e) (kParN is Q) := by unfold parN; rw [ok_bind]; rfl
@[simp] theorem dput_T {kvs : List (List Key × D)} : dput (oT kvs) x y = (tkey x).bind fun ks => if kvs.length < sizeLine then some (oT (aput kvs ks y)) else none := by
  unfold dput
  rw [flatT_o]
  cases tkey x with
  | none => rfl
  | some ks => rfl
@[simp] theorem dput_K {kvs : List (Key × D)} : dput (oK kvs) x y = (skey x).bind fun ks => if kvs.length < sizeLine then some (oK (aput kvs ks y)) else none := by
  unfold dput
  rw [flatT_oK, flatK_o]
  cases skey x with
  | none => rfl
  | some ks => rfl
def isTr (o : Option (Option Sv)) : Bool := match o with
  | some (some (.tr _ _)) => true
  | _ => false
@[simp] theorem isTr_tr {z : Bool} : isTr (some (some (.tr z t))) = true := rfl
def okDp (o : Option (Option Sv)) (i : Nat) (k v : D) (e : Env) (Q : Po Fl) : Prop := match o with
  | some (some (.tr z t)) => okO (dput t k v) e fun t' e => Q .nx (e.set i (some (.tr z t')))
  | _ => False
@[simp] theorem okDp_tr {z : Bool} {Q : Po Fl} : okDp (some (some (.tr z t))) i x y e Q = okO (dput t x y) e fun t' e => Q .nx (e.set i (some (.tr z t'))) := rfl
def kDs2' (i : Nat) (v : D) (Q : Po Fl) : Po D := fun k e => okDp e[i]? i k v e Q
def kDs1' (i : Nat) (k : Ev) (Q : Po Fl) : Po D := fun v e => isTr e[i]? = true ∧ Ok (k e) (kFrz (kDs2' i v Q))
@[simp] theorem kDs2'_eq {Q : Po Fl} : kDs2' i y Q x e = okDp e[i]? i x y e Q := rfl
@[simp] theorem kDs1'_eq {Q : Po Fl} : kDs1' i a Q d e = (isTr e[i]? = true ∧ Ok (a e) (kFrz (kDs2' i d Q))) := rfl
@[simp] theorem ok_dset {Q : Po Fl} : Ok (dsetS i a b e) Q = Ok (b e) (kFrz (kDs1' i a Q)) := by
  unfold dsetS
  rw [ok_bind, ok_toD]
  congr 2
  funext v e1
  show Ok (match e1[i]? with | some (some (.tr _ _)) => _ | _ => _) Q = (isTr e1[i]? = true ∧ Ok (a e1) (kFrz (kDs2' i v Q)))
  cases h : e1[i]? with
  | none => simp [isTr]
  | some o => cases o with
    | none => simp [isTr]
    | some s => cases s with
      | tr z t =>
        simp only [isTr_tr, true_and]
        rw [ok_bind, ok_toD]
        congr 2
        funext k e2
        show Ok (match e2[i]? with | some (some (.tr b t)) => _ | _ => _) Q = okDp e2[i]? i k v e2 Q
        cases e2[i]? with
        | none => rfl
        | some o => cases o with
          | none => rfl
          | some s => cases s with
            | tr z t =>
              show Ok (match dput t k v with | some t' => Rs.ok Fl.nx (List.set e2 i (some (Sv.tr z t'))) | none => Rs.no) Q = okO (dput t k v) e2 fun t' e => Q .nx (e.set i (some (.tr z t')))
              cases dput t k v <;> rfl
            | _ => rfl
      | _ => simp [isTr]
def okUp2 (o : Option (Option Sv)) (i : Nat) (ms : List (List Key × D)) (e : Env) (Q : Po Rv) : Prop := match o with
  | some (some (.tr z t)) => okO (flatT t) e fun kvs e => kvs.length + ms.length ≤ sizeLine ∧ Q (.fz .none) (e.set i (some (.tr z (oT (aputs kvs ms)))))
  | _ => False
@[simp] theorem okUp2_T {z : Bool} {kvs ms : List (List Key × D)} {Q : Po Rv} : okUp2 (some (some (.tr z (oT kvs)))) i ms e Q = (kvs.length + ms.length ≤ sizeLine ∧ Q (.fz .none) (e.set i (some (.tr z (oT (aputs kvs ms)))))) := by
  unfold okUp2
  simp only [flatT_o]
  rfl
def unPairsL : D → Option (List (List Key × D))
  | .list ds => unPairs ds
  | _ => none
@[simp] theorem unPairsL_list : unPairsL (.list ds) = unPairs ds := rfl
def kUp (i : Nat) (Q : Po Rv) : Po D := fun d e => okO (unPairsL d) e fun ms e => okUp2 e[i]? i ms e Q
@[simp] theorem kUp_eq {Q : Po Rv} : kUp i Q d e = okO (unPairsL d) e fun ms e => okUp2 e[i]? i ms e Q := rfl
@[simp] theorem isOT_T {z : Bool} {kvs : List (List Key × D)} : isOT (some (some (.tr z (oT kvs)))) = true := by unfold isOT; simp
@[simp] theorem ok_upd {Q : Po Rv} : Ok (eUpd i a e) Q = (isOT e[i]? = true ∧ Ok (a e) (kFrz (kUp i Q))) := by
  unfold eUpd
  by_cases h : isOT e[i]? = true
  · rw [if_pos h, ok_bind, ok_toD]
    simp only [h, true_and]
    congr 2
    funext d e1
    have nl : unPairsL d = none → Ok (match e1[i]?, d with
      | some (some (.tr b t)), .list ds => match flatT t, unPairs ds with
        | some kvs, some ms => if kvs.length + ms.length ≤ sizeLine then .ok (.fz .none) (e1.set i (some (.tr b (oT (aputs kvs ms))))) else .no
        | _, _ => .no
      | _, _ => (.no : Rs Rv)) Q = False := by
      intro hn
      split
      · rename_i b t ds ht
        have hn : unPairs ds = none := hn
        rw [hn]
        cases flatT t <;> rfl
      · rfl
    show Ok (match e1[i]?, d with
      | some (some (.tr b t)), .list ds => match flatT t, unPairs ds with
        | some kvs, some ms => if kvs.length + ms.length ≤ sizeLine then .ok (.fz .none) (e1.set i (some (.tr b (oT (aputs kvs ms))))) else .no
        | _, _ => .no
      | _, _ => (.no : Rs Rv)) Q = okO (unPairsL d) e1 fun ms e => okUp2 e[i]? i ms e Q
    cases hn : unPairsL d with
    | none => rw [nl hn]; rfl
    | some ms =>
      cases d with
      | list ds =>
        have hn : unPairs ds = some ms := hn
        clear nl
        show _ = okUp2 e1[i]? i ms e1 Q
        cases e1[i]? with
        | none => rfl
        | some o => cases o with
          | none => rfl
          | some s => cases s with
            | tr z t =>
              show Ok (match flatT t, unPairs ds with
                | some kvs, some ms => if kvs.length + ms.length ≤ sizeLine then .ok (.fz .none) (e1.set i (some (.tr z (oT (aputs kvs ms))))) else .no
                | _, _ => (.no : Rs Rv)) Q = okO (flatT t) e1 fun kvs e => kvs.length + ms.length ≤ sizeLine ∧ Q (.fz .none) (e.set i (some (.tr z (oT (aputs kvs ms)))))
              rw [hn]
              cases flatT t with
              | none => rfl
              | some kvs =>
                show Ok (if kvs.length + ms.length ≤ sizeLine then _ else _) Q = (kvs.length + ms.length ≤ sizeLine ∧ _)
                by_cases hl : kvs.length + ms.length ≤ sizeLine
                · rw [if_pos hl]; simp [hl, -szE]
                · rw [if_neg hl]; simp [hl, -szE]
            | _ => rfl
      | _ => cases hn
  · rw [if_neg h]; simp [h]
@[simp] theorem inK_eq : inK x d = (dlook d x).map fun r => .fz (.bool r.isSome) := rfl
@[simp] theorem notInK_eq : notInK x d = (dlook d x).map fun r => .fz (.bool (!r.isSome)) := rfl
@[simp] theorem ixK_eq : ixK d x = (dlook d x).bind fun r => r.map .fz := rfl
@[simp] theorem dlook_dT {kvs : List (List Key × D)} : dlook (dictT kvs) x = (tkey x).map fun ks => aget kvs ks := by
  unfold dlook
  rw [unT_T]
  cases tkey x with
  | none => rw [unK_T]; rfl
  | some ks => rfl
@[simp] theorem dlook_dK {kvs : List (Key × D)} : dlook (dictK kvs) x = (skey x).map fun ks => aget kvs ks := by
  unfold dlook
  rw [unT_K, unK_K]
  cases skey x <;> rfl
def kG2 (d : D) (Q : Po Rv) : Po D := fun k e => okO (dlook d k) e fun r e => Q (.fz (r.getD .none)) e
def kG1 (b : Ev) (Q : Po Rv) : Po D := fun d e => isDct d = true ∧ Ok (b e) (kFrz (kG2 d Q))
@[simp] theorem kG2_eq {Q : Po Rv} : kG2 d Q x e = okO (dlook d x) e fun r e => Q (.fz (r.getD .none)) e := rfl
@[simp] theorem kG1_eq {Q : Po Rv} : kG1 b Q d e = (isDct d = true ∧ Ok (b e) (kFrz (kG2 d Q))) := rfl
theorem ok_ifd {z : Bool} {q : Rs α} {Q : Po α} : Ok (if z = true then q else .no) Q = (z = true ∧ Ok q Q) := by
  cases z
  · simp
  · simp
@[simp] theorem ok_getK1 {Q : Po Rv} : Ok (getK1 a b e) Q = Ok (a e) (kFrz (kG1 b Q)) := by
  unfold getK1
  rw [ok_bind, ok_toD]
  congr 2
  funext d e1
  show Ok (if isDct d then _ else _) Q = (isDct d = true ∧ Ok (b e1) (kFrz (kG2 d Q)))
  rw [ok_ifd, ok_bind, ok_toD]
  congr 3
  funext k e2
  rw [ok_ofO]
  show okO ((dlook d k).map _) e2 Q = okO (dlook d k) e2 _
  cases dlook d k <;> rfl
def kH3 (d k : D) (Q : Po Rv) : Po D := fun x e => okO (dlook d k) e fun r e => Q (.fz (r.getD x)) e
def kH2 (d : D) (c : Ev) (Q : Po Rv) : Po D := fun k e => Ok (c e) (kFrz (kH3 d k Q))
def kH1 (b c : Ev) (Q : Po Rv) : Po D := fun d e => isDct d = true ∧ Ok (b e) (kFrz (kH2 d c Q))
@[simp] theorem kH3_eq {Q : Po Rv} : kH3 d x Q y e = okO (dlook d x) e fun r e => Q (.fz (r.getD y)) e := rfl
@[simp] theorem kH2_eq {Q : Po Rv} : kH2 d c Q x e = Ok (c e) (kFrz (kH3 d x Q)) := rfl
@[simp] theorem kH1_eq {Q : Po Rv} : kH1 b c Q d e = (isDct d = true ∧ Ok (b e) (kFrz (kH2 d c Q))) := rfl
@[simp] theorem ok_getK2 {Q : Po Rv} : Ok (getK2 a b c e) Q = Ok (a e) (kFrz (kH1 b c Q)) := by
  unfold getK2
  rw [ok_bind, ok_toD]
  congr 2
  funext d e1
  show Ok (if isDct d then _ else _) Q = (isDct d = true ∧ Ok (b e1) (kFrz (kH2 d c Q)))
  rw [ok_ifd, ok_bind, ok_toD]
  congr 3
  funext k e2
  rw [ok_bind, ok_toD]
  show Ok (c e2) _ = Ok (c e2) _
  congr 2
  funext x e3
  rw [ok_ofO]
  show okO ((dlook d k).map _) e3 Q = okO (dlook d k) e3 _
  cases dlook d k <;> rfl
@[simp] theorem keysOf_T {kvs : List (List Key × D)} : keysOf (dictT kvs) = some (kvs.map fun p => keysD p.1) := by unfold keysOf; rw [unT_T]
@[simp] theorem keysOf_K {kvs : List (Key × D)} : keysOf (dictK kvs) = some (kvs.map fun p => keyD p.1) := by unfold keysOf; rw [unT_K, unK_K]; rfl
def kKe (Q : Po Src) : Po D := fun d e => okO (keysOf d) e fun ks e => Q ⟨ks, []⟩ e
@[simp] theorem kKe_eq {Q : Po Src} : kKe Q d e = okO (keysOf d) e fun ks e => Q ⟨ks, []⟩ e := rfl
@[simp] theorem ok_keysE {Q : Po Src} : Ok (keysE a e) Q = Ok (a e) (kFrz (kKe Q)) := by
  unfold keysE
  rw [ok_bind, ok_toD]
  congr 2
  funext d e1
  rw [ok_ofO]
  show okO ((keysOf d).map _) e1 Q = okO (keysOf d) e1 _
  cases keysOf d <;> rfl
def kVa (Q : Po Src) : Po D := fun d e => okO (unK d) e fun kvs e => Q ⟨kvs.map (·.2), []⟩ e
@[simp] theorem kVa_eq {Q : Po Src} : kVa Q d e = okO (unK d) e fun kvs e => Q ⟨kvs.map (·.2), []⟩ e := rfl
@[simp] theorem ok_valsE {Q : Po Src} : Ok (valsE a e) Q = Ok (a e) (kFrz (kVa Q)) := by
  unfold valsE
  rw [ok_bind, ok_toD]
  congr 2
  funext d e1
  rw [ok_ofO]
  show okO ((unK d).map _) e1 Q = okO (unK d) e1 _
  cases unK d <;> rfl
def kIt (Q : Po Src) : Po D := fun d e => okO (unK d) e fun kvs e => Q ⟨kvs.map fun p => .tuple [keyD p.1, p.2], []⟩ e
@[simp] theorem kIt_eq {Q : Po Src} : kIt Q d e = okO (unK d) e fun kvs e => Q ⟨kvs.map fun p => .tuple [keyD p.1, p.2], []⟩ e := rfl
@[simp] theorem ok_itemsE {Q : Po Src} : Ok (itemsE a e) Q = Ok (a e) (kFrz (kIt Q)) := by
  unfold itemsE
  rw [ok_bind, ok_toD]
  congr 2
  funext d e1
  rw [ok_ofO]
  show okO ((unK d).map _) e1 Q = okO (unK d) e1 _
  cases unK d <;> rfl
end
end VI
set_option Elab.async false
set_option linter.all false
set_option maxRecDepth 100000
set_option maxHeartbeats 4000000
namespace VI
open PySem PySem.Spec PyProof.Rows L2
variable {K : PySem.W.Frag} {C : Cf} {F H : Hp} {e e' : Env} {σ : L2.St}
def RgW (i j c : Int) : Prop := 0 < c ∧ c < 2 ^ 62 ∧ -(2 ^ 62) ≤ i ∧ i < 2 ^ 62 ∧ -(2 ^ 62) ≤ j ∧ j < 2 ^ 62
def rgN (i j c : Int) : Nat := (Builtin.Range.rangeSize i j c).toNat
theorem rgN_eq {i j c : Int} (h : 0 < c) : Builtin.Range.rangeSize i j c = (rgN i j c : Nat) := by
  unfold rgN
  refine (Int.toNat_of_nonneg ?_).symm
  unfold Builtin.Range.rangeSize
  rw [if_pos h]
  split
  · have := Int.ediv_nonneg (a := j - i - 1) (b := c) (by omega) (by omega); omega
  · omega
theorem small_step {a b c : Int} (h : RgW a b c) : Builtin.Range.small a b c = true := by
  obtain ⟨h1, h2, h3, h4, h5, h6⟩ := h
  unfold Builtin.Range.small
  have hs : 0 ≤ Builtin.Range.rangeSize a b c ∧ Builtin.Range.rangeSize a b c < 2 ^ 63 := by
    unfold Builtin.Range.rangeSize
    rw [if_pos h1]
    split
    · have := Int.ediv_nonneg (a := b - a - 1) (b := c) (by omega) (by omega)
      have := Int.ediv_le_self c (a := b - a - 1) (by omega)
      omega
    · omega
  generalize Builtin.Range.rangeSize a b c = z at hs
  simp only [Builtin.Range.rangeFitsLong, gt_iff_lt, h1, if_true, Bool.and_eq_true, Bool.or_eq_true, decide_eq_true_eq, beq_iff_eq]
  omega
def iRngW (ta : TA) : TI := fun σ H R => ta σ H fun vs H1 => ∃ (i j c : Int), vs = [.int i, .int j, .int c] ∧ RgW i j c ∧ R (Itc i c (rgN i j c)) H1
theorem pi_rangeW {X : Cx} {tg a b c : Expr} {ta : TA} {p pos : Pos} (hg : Gl X "range") (hm : X.mg "range" = none) (ha : PA X [a, b, c] ta)
    (hs : starEach [a, b, c] X.env = (false, eval a X.env) :: starEach [b, c] X.env := by rfl) (hpl : (backTo pos (starEach [b, c] X.env)).any (·.1) = false := by rfl) :
    PI X tg (.Call (.Name "range" p) [a, b, c] [] pos) (iRngW ta) := by
  refine ⟨fun pins s σ H R I h => ?_⟩
  refine Call_ (ld_blt I hg hm boot_range (PyProof.Rows.callWith_type1 (thn (ha.run pos pins s σ H _ I h) fun us s1 ⟨vs, H1, I1, r1, q1⟩ => ?_) hs hpl))
  obtain ⟨i, j, k, e, hw, q⟩ := q1
  subst e
  cases r1 with
  | cons r rr =>
    cases rr with
    | cons r' rr =>
      cases rr with
      | cons r'' rr =>
        cases rr
        obtain ⟨t, rfl⟩ := r
        obtain ⟨t', rfl⟩ := r'
        obtain ⟨t'', rfl⟩ := r''
        have c0 : k ≠ 0 := by have := hw.1; omega
        have hl : k.natAbs.log2 < 9000 := by
          have hk : k.natAbs < 2 ^ 62 := by have := hw.1; have := hw.2.1; omega
          have := log2_of_lt (B := 62) (by omega) hk
          omega
        refine call_range_3 c0 ?_ (.inl (PyProof.noPylong_of_log2 hl))
        refine wpAny_pyIter_range (IsRange.new ..) (small_step hw) ?_
        have I2 : Inv X pins σ H1 { s1 with heap := s1.heap.push { cls := .type "range", data := .fields #[.int i t, .int j t', .int k t''] } } := I1.kept (t' := s1.toks) fun b o e => Heap.get?_push_of_some _ e
        refine pi_one (tk := s1.toks) I2 _ (turn_rangeC _ i k (rgN i j k)) ?_ q
        have e1 : i + ((0 : Nat) : Int) * k = i := by simp
        have e2 : ((rgN i j k : Nat) : Int) - ((0 : Nat) : Int) = Builtin.Range.rangeSize i j k := by rw [rgN_eq hw.1]; simp
        show IsRangeIter _ _ (i + ((0 : Nat) : Int) * k) (((rgN i j k : Nat) : Int) - ((0 : Nat) : Int)) k
        rw [e1, e2]
        exact Heap.get?_push_size _ rfl
def stepsOf (lo c : Int) (n : Nat) : List D := (List.range n).map fun i => .int (lo + (i : Nat) * c)
theorem itOk_step {lo c : Int} {n : Nat} : ItOk K C F (Itc lo c n) (stepsOf lo c n) := by
  have hl : (stepsOf lo c n).length = n := by unfold stepsOf; rw [List.length_map, List.length_range]
  refine ⟨fun _ => True, YFn fun i => .int (lo + (i : Nat) * c), by rw [hl]; exact walk_rangeC, fun _ _ _ _ _ _ => trivial, fun i x H1 H2 F1 E _ _ y hi => ?_⟩
  obtain ⟨rfl, rfl⟩ := y
  refine ⟨.int (lo + (i : Nat) * c), ?_, .old (.int _)⟩
  unfold stepsOf
  rw [hl] at hi
  rw [List.getElem?_map, List.getElem?_range hi]
  rfl
def rgB (i j c : Int) : Bool := decide (0 < c) && decide (c < 2 ^ 62) && (inR i && inR j)
theorem rgB_ok {i j c : Int} (h : rgB i j c = true) : RgW i j c := by
  unfold rgB at h
  simp only [Bool.and_eq_true, decide_eq_true_eq] at h
  have h1 := inR_ok h.2.1
  have h2 := inR_ok h.2.2
  exact ⟨h.1.1, h.1.2, h1.1, h1.2, h2.1, h2.2⟩
def int3 : List Rv → Option (Int × Int × Int)
  | [.fz (.int i), .fz (.int j), .fz (.int c)] => some (i, j, c)
  | _ => none
def rng3 (as : Sem1 (List Rv)) : Sem1 Src := fun e => (as e).bind fun rs e1 => ofO ((int3 rs).bind fun p => if rgB p.1 p.2.1 p.2.2 then some ⟨stepsOf p.1 p.2.2 (rgN p.1 p.2.1 p.2.2), []⟩ else none) e1
theorem rd_rng3 {w : Wd} {as : Sem1 (List Rv)} {Rr : It → Hp → Prop} (h : rdI w (rng3 as) σ H Rr) : iRngW (rdRs w as) σ H Rr := by
  obtain ⟨C, F, e, R, P⟩ := h
  refine bindI R P fun F1 H1 e1 rs vs h1 R1 E1 q1 P1 => ?_
  obtain ⟨s, hs, P2⟩ := ofO_I (α := Unit) P1
  obtain ⟨⟨i, j, c⟩, h3, hs⟩ := Option.bind_eq_some_iff.mp hs
  have hs : (if rgB i j c then some (⟨stepsOf i c (rgN i j c), []⟩ : Src) else none) = some s := hs
  split at hs
  · rename_i hb
    cases hs
    unfold int3 at h3
    split at h3
    · cases h3
      cases q1 with
      | cons a r =>
        cases r with
        | cons b r =>
          cases r with
          | cons d r =>
            cases r
            obtain ⟨_, a⟩ := a; obtain ⟨_, b⟩ := b; obtain ⟨_, d⟩ := d
            cases a; cases b; cases d
            exact ⟨i, j, c, rfl, rgB_ok hb, P2 C _ F1 H1 R1 (.refl F1) back_nil itOk_step⟩
    · cases h3
  · cases hs
theorem vi_rng3 {X : Cx} {w : Wd} {tg a b c : Expr} {as : Sem1 (List Rv)} {p pos : Pos} (hg : Gl X "range") (hm : X.mg "range" = none) (ha : PA X [a, b, c] (rdRs w as))
    (hs : starEach [a, b, c] X.env = (false, eval a X.env) :: starEach [b, c] X.env := by rfl) (hpl : (backTo pos (starEach [b, c] X.env)).any (·.1) = false := by rfl) :
    PI X tg (.Call (.Name "range" p) [a, b, c] [] pos) (rdI w (rng3 as)) := pi_mono (pi_rangeW hg hm ha hs hpl) fun _ _ _ q => rd_rng3 q
def kR3 (Q : Po Src) : Po (List Rv) := fun rs e => okO (int3 rs) e fun p e => rgB p.1 p.2.1 p.2.2 = true ∧ Q ⟨stepsOf p.1 p.2.2 (rgN p.1 p.2.1 p.2.2), []⟩ e
@[simp] theorem kR3_eq {i j c : Int} {Q : Po Src} {e : Env} : kR3 Q [.fz (.int i), .fz (.int j), .fz (.int c)] e = (rgB i j c = true ∧ Q ⟨stepsOf i c (rgN i j c), []⟩ e) := rfl
@[simp] theorem ok_rng3 {as : Sem1 (List Rv)} {Q : Po Src} {e : Env} : Ok (rng3 as e) Q = Ok (as e) (kR3 Q) := by
  unfold rng3
  rw [ok_bind]
  congr 1
  funext rs e1
  rw [ok_ofO]
  show okO ((int3 rs).bind _) e1 Q = okO (int3 rs) e1 _
  cases int3 rs with
  | none => rfl
  | some p =>
    show okO (if rgB p.1 p.2.1 p.2.2 then _ else none) e1 Q = (rgB p.1 p.2.1 p.2.2 = true ∧ _)
    cases rgB p.1 p.2.1 p.2.2 <;> simp
theorem dt_raw {X : Cx} {pins : List (Addr × Obj)} {s : Shared} {d : Addr} {kv : List (List Key × V)} (I : Inv X pins σ H s) (h : L2.Rd H d (.dT kv)) : kv.length ≤ sizeLine ∧ (d == sysModules) = false ∧
    ∃ (xs : List (List Key × Addr × Value)) (es : Array DictEntry) (ep : Nat), KT H kv xs ∧ s.heap.DictRaw d es ep ∧ es.size = xs.length ∧ ∀ (i : Nat) (hi : i < es.size), ∃ x, xs[i]? = some x ∧ es[i].key = .ref x.2.1 ∧ es[i].val = x.2.2 := by
  obtain ⟨z, hd, xs, kt, o, es, ep, ho, hx, hdt, he, _, _⟩ := dt_rd I.hok h
  have hsz : es.size = xs.length := size_of_entries he
  refine ⟨z, hd, xs, es, ep, kt, ⟨o, ho, hx, hdt⟩, hsz, fun i hi => ?_⟩
  have := entry_at he i
  rw [Array.getElem?_eq_getElem hi] at this
  obtain ⟨x, h1, h2⟩ := Option.map_eq_some_iff.mp this.symm
  exact ⟨x, h1, by rw [← h2]; rfl, by rw [← h2]; rfl⟩
theorem kt_get : ∀ {kv : List (List Key × V)} {xs : List (List Key × Addr × Value)} {i : Nat} {x : List Key × Addr × Value}, KT H kv xs → xs[i]? = some x → ∃ v, kv[i]? = some (x.1, v) ∧ H x.2.1 = some (.tup (x.1.map kV)) ∧ RelV v x.2.2
  | _, _, _, _, .nil, h => by simp at h
  | p :: kv, q :: xs, 0, x, .cons a t, h => by
    simp at h; subst h
    obtain ⟨h1, h2, h3⟩ := a
    exact ⟨p.2, by rw [← h1]; rfl, by rw [← h1]; exact h2, h3⟩
  | p :: kv, q :: xs, i + 1, x, .cons a t, h => by
    obtain ⟨v, h1, h2⟩ := kt_get t (i := i) (by simpa using h)
    exact ⟨v, by simpa using h1, h2⟩
/-- what a collection of its keys is -/
theorem keys_acc {X : Cx} {kv : List (List Key × V)} {xs : List (List Key × Addr × Value)} {es : Array DictEntry} {acc : List Value} (kt : KT H kv xs) (hsz : es.size = xs.length) (he : ∀ (i : Nat) (hi : i < es.size), ∃ x, xs[i]? = some x ∧ es[i].key = .ref x.2.1 ∧ es[i].val = x.2.2)
    (hl : acc.length = es.size) (ha : ∀ i v, acc[i]? = some v → ∃ hi : i < es.size, v = es[i].key) : Vals (xs.map fun x => V.ref x.2.1) acc ∧ L2.DpAll X.K H (xs.map fun x => V.ref x.2.1) (kv.map fun p => keysD p.1) := by
  constructor
  · have : acc = xs.map fun x => Value.ref x.2.1 := by
      apply List.ext_getElem?
      intro i
      rw [List.getElem?_map]
      by_cases hi : i < acc.length
      · obtain ⟨h1, h2⟩ := ha i _ (List.getElem?_eq_getElem hi)
        obtain ⟨x, h3, h4, _⟩ := he i h1
        rw [List.getElem?_eq_getElem hi, h3, h2, h4]; rfl
      · rw [List.getElem?_eq_none (by omega), List.getElem?_eq_none (by omega)]; rfl
    rw [this]
    clear this he ha hl hsz kt
    induction xs with
    | nil => exact .nil
    | cons x xs ih => exact .cons rfl ih
  · clear he ha hl hsz
    induction kt with
    | nil => exact .nil
    | @cons p q ps qs h t ih =>
      obtain ⟨h1, h2, _⟩ := h
      have one : ∀ ks : List Key, L2.DpAll X.K H (ks.map kV) (ks.map keyD) := by
        intro ks
        induction ks with
        | nil => exact .nil
        | cons k ks ih => exact .cons (by cases k with | inl i => exact .int i | inr s => exact .str s) ih
      exact .cons (.tup (.inl (.inl h2)) (one p.1)) ih
def rLenR : List V → Hp → VK → Prop := fun xs H Q => ∃ a kvs, xs = [.ref a] ∧ L2.Rd H a (.dT kvs) ∧ Q (.int kvs.length) H
theorem call_len_dR {X : Cx} : CallR X (.builtin "len") rLenR := by
  intro pins s σ H xs us Q I r h
  obtain ⟨a, kvs, rfl, hd, q⟩ := h
  obtain ⟨u, rfl, ru⟩ := vals1 r
  obtain rfl : u = Value.ref a := ru
  obtain ⟨z, hs, ks, kt, dd⟩ := dt_rd I.hok hd
  have hl : kvs.length = ks.length := Paired.length kt
  refine call_len_dictH hs dd (by rw [← hl]; rw [sizeLine_eq] at z; omega) ?_
  exact ⟨.int kvs.length, H, I.tok _, ⟨_, by rw [hl]⟩, q⟩
def lenKD : D → Option Rv := fun d => (unT d).map fun kvs => .fz (.int kvs.length)
theorem s_lenK : CallS K (on1 lenKD) rLenR := callS1 fun F H v d z E h hz Q k => by
  obtain ⟨kvs, hk, rfl⟩ := Option.map_eq_some_iff.mp hz
  have := unT_of hk
  subst this
  cases h with
  | oth q =>
    obtain ⟨a, od, kv, rfl, hF, g1, g2⟩ := dictT_v q
    have hl : kv.length = kvs.length := by have := congrArg List.length g1; simpa using this
    exact ⟨a, kv, rfl, .inr ⟨od, E _ _ hF⟩, by rw [hl]; exact k _ _ (.old (.int _))⟩
@[simp] theorem lenKD_T (kvs : List (List Key × D)) : lenKD (dictT kvs) = some (.fz (.int kvs.length)) := by unfold lenKD; rw [unT_T]; rfl
def rLstT : List V → Hp → VK → Prop := fun vs H Q => ∃ (d : Addr) (kv : List (List Key × V)), vs = [.ref d] ∧ L2.Rd H d (.dT kv) ∧ ∀ (zs : List V) (p : Addr), H p = none → Paired (fun z (k : List Key) => ∃ q, z = .ref q ∧ H q = some (.tup (k.map kV))) zs (kv.map (·.1)) → Q (.ref p) (upd H p (.lst zs))
theorem kt_keys : ∀ {kv : List (List Key × V)} {xs : List (List Key × Addr × Value)}, KT H kv xs → Paired (fun z (k : List Key) => ∃ q, z = V.ref q ∧ H q = some (.tup (k.map kV))) (xs.map fun x => V.ref x.2.1) (kv.map (·.1))
  | _, _, .nil => .nil
  | p :: kv, q :: xs, .cons h t => .cons ⟨q.2.1, rfl, h.2.1⟩ (kt_keys t)
theorem c_lstT {X : Cx} (hc : X.calm = true) : CallR X (.type "list") rLstT := by
  intro pins s σ H vs us Q I r h0
  obtain ⟨d, kv, rfl, hd, q⟩ := h0
  obtain ⟨u, rfl, ru⟩ := vals1 r
  obtain rfl : u = Value.ref d := ru
  obtain ⟨z, lo, xs, es, ep, kt, raw, hsz, he⟩ := dt_raw I hd
  have hkl : kv.length = xs.length := Paired.length kt
  refine PySem.W.kdl_call (KdlSrc.rawDict (es := es) (ep := ep) lo) (I.ok.hd hc) raw (by rw [hsz, ← hkl]; exact z) fun h' tk acc' c' hkeep hS hacc => ?_
  obtain ⟨rv, _⟩ := keys_acc (X := X) kt hsz he (acc := acc'.toList) (by rw [Array.length_toList]; exact hacc.1) fun i v hv => hacc.2 i v (by rw [← Array.getElem?_toList]; exact hv)
  refine ⟨.ref s.heap.objs.size, upd H s.heap.objs.size (.lst (xs.map fun x => V.ref x.2.1)), I.laid (t' := tk) hkeep (Nat.le_refl _) ⟨by rw [List.length_map, ← hkl]; exact z, acc'.toList, c', rv, by rw [Array.toArray_toList]; exact hS⟩, rfl, q _ _ (I.hok.fresh (Nat.le_refl _)) (kt_keys kt)⟩
def lstTD : D → Option Rv := fun d => (unT d).map fun kvs => .fresh (kvs.map fun p => keysD p.1)
theorem keys_dp : ∀ {zs : List V} {ks : List (List Key)}, TupIn F H → Paired (fun z (k : List Key) => ∃ q, z = V.ref q ∧ H q = some (.tup (k.map kV))) zs ks → DpAll K F zs (ks.map keysD)
  | _, _, _, .nil => .nil
  | _, _, T, .cons ⟨q, h1, h2⟩ t => by subst h1; exact .cons (.tup (T _ _ h2) (keysD_dp _)) (keys_dp T t)
theorem rd_lstT {w : Wd} {a : Ev} {Q : VK} (h : rdR w (eB (on1 lstTD) (opds [a])) σ H Q) : tCB rLstT (rdRs w (opds [a])) σ H Q := by
  obtain ⟨C, F, e, R, P⟩ := h
  refine bindP R P fun F1 H1 e1 rs vs h1 R1 E1 q1 P1 => ?_
  obtain ⟨z, hz, P2⟩ := post_ofO P1
  obtain ⟨ds, hd, hf⟩ := Option.bind_eq_some_iff.mp hz
  have hdh := peeks_dh R1 q1 hd
  unfold on1 at hf
  split at hf
  · rename_i d
    cases hdh with
    | cons g gr =>
      cases gr
      obtain ⟨kvs, hk, rfl⟩ := Option.map_eq_some_iff.mp hf
      have := unT_of hk
      subst this
      cases g with
      | oth q =>
        obtain ⟨b, od, kv, rfl, hF, g1, g2⟩ := dictT_v q
        refine ⟨b, kv, rfl, .inr ⟨od, R1.ext _ _ hF⟩, fun zs p hp hzs => ?_⟩
        rw [g1] at hzs
        have := keys_dp (K := w.K) R1.tup hzs
        rw [List.map_map] at this
        exact P2.res R1 (.lst hp this)
  · cases hf
def rSrtT (K : PySem.W.Frag) : List V → Hp → VK → Prop := fun vs H Q => ∃ (d : Addr) (kv : List (List Key × V)), vs = [.ref d] ∧ L2.Rd H d (.dT kv) ∧ sortB (kv.map fun p => keysD p.1) = true ∧
  ∀ (zs : List V) (p : Addr), H p = none → Paired (fun z d => ∃ q k, z = V.ref q ∧ d = keysD k ∧ H q = some (.tup (k.map kV))) zs ((kv.map fun p => keysD p.1).mergeSort (PySem.W.dataLe false id)) → Q (.ref p) (upd H p (.lst zs))
theorem c_srtT {X : Cx} (hc : X.calm = true) (hr : X.A.units + 64 < cLine) : CallR X (.builtin "sorted") (rSrtT X.K) := by
  intro pins s σ H vs us Q I r h0
  obtain ⟨d, kv, rfl, hd, hb, q⟩ := h0
  obtain ⟨u, rfl, ru⟩ := vals1 r
  obtain rfl : u = Value.ref d := ru
  obtain ⟨z, lo, xs, es, ep, kt, raw, hsz, he⟩ := dt_raw I hd
  have hkl : kv.length = xs.length := Paired.length kt
  generalize hds : (kv.map fun p => keysD p.1) = ds at hb q
  have hdl : ds.length = xs.length := by rw [← hds, List.length_map, hkl]
  unfold sortB at hb
  rw [Bool.and_eq_true, Bool.and_eq_true, Bool.and_eq_true, Bool.or_eq_true] at hb
  obtain ⟨⟨⟨h1, h2⟩, h3⟩, h4⟩ := hb
  have hl3 := of_decide_eq_true h3
  have hal : PySem.W.AllAlike (ds.map id) := fun d hd d' hd' => by
    rw [List.map_id] at hd hd'
    exact List.all_eq_true.mp (List.all_eq_true.mp h1 d hd) d' hd'
  refine Calls.call_function_entry PyProof.Rows.kind_sorted PyProof.Rows.plain_sorted PyProof.Rows.entry_sorted (PyProof.Rows.args_sorted1 _) ?_
  unfold Builtin.«sorted»
  refine wpAny_bind (m := checkCount "sorted" 1 1 _) (wpAny_pure ?_)
  refine wpAny_bind (PySem.W.kdu_collect (A := X.A.in1) (KdlSrc.rawDict (es := es) (ep := ep) lo) (I.ok.hd hc) raw (by rw [hsz, ← hkl]; exact z) fun h' tk acc hk hacc => ?_)
  obtain ⟨rv, dpk⟩ := keys_acc (X := X) kt hsz he (acc := acc.toList) (by rw [Array.length_toList]; exact hacc.1) fun i v hv => hacc.2 i v (by rw [← Array.getElem?_toList]; exact hv)
  rw [hds] at dpk
  have hal2 : acc.toList.length = ds.length := by rw [Array.length_toList, hacc.1, hsz, hdl]
  have I1 : Inv X pins σ H { s with heap := h', toks := tk } := I.kept hk
  refine wpAny_bind (wpAny_newList ?_ (by rw [hal2]; exact hl3))
  have hoL : (h'.push (seqObj "list" acc.toList.toArray 0)).get? h'.objs.size = some (seqObj "list" acc.toList.toArray 0) := Heap.get?_push_size _ rfl
  show wpAny _ _ _ _ _ { s with heap := h'.push (seqObj "list" acc.toList.toArray 0), toks := tk }
  -- the items stand as data while the list is sorted
  obtain ⟨as, hra⟩ := L2.Dp.readsAll I1 _ _ _ dpk rv
  have old : ∀ b o, h'.get? b = some o → (PySem.W.sortingHeap (h'.push (seqObj "list" acc.toList.toArray 0)) h'.objs.size acc.toList).get? b = some o := fun b o e => PySem.W.sortingHeap_old (Nat.ne_of_lt (Heap.lt_size e)) (Heap.get?_push_of_some _ e)
  have er : PySem.W.EachIs (fun v b => ∃ as, Reads (PySem.W.sortingHeap (h'.push (seqObj "list" acc.toList.toArray 0)) h'.objs.size acc.toList) v (id b) as) acc.toList ds := (each_reads hra).mono fun _ _ ⟨as, r⟩ => ⟨as, PyProof.Rows.Reads.keeps (fun _ _ => old _ _) r⟩
  let RR : V → D → Prop := fun z d => ∃ q k, z = V.ref q ∧ d = keysD k ∧ H q = some (.tup (k.map kV))
  have mk : ∀ {kv : List (List Key × V)} {xs : List (List Key × Addr × Value)}, KT H kv xs → Paired RR (xs.map fun x => V.ref x.2.1) (kv.map fun p => keysD p.1) := fun {kv xs} kt => by
    induction kt with
    | nil => exact .nil
    | @cons p q ps qs h t ih => exact .cons ⟨q.2.1, p.1, rfl, rfl, h.2.1⟩ ih
  have prs : Paired RR (xs.map fun x => V.ref x.2.1) ds := hds ▸ mk kt
  have ee := each_in (X := X) (H := H) rv prs
  have fin : ∀ out : List Value, out.length = ds.length → PySem.W.EachIs (eachOf X H RR) out (ds.mergeSort (PySem.W.dataLe false id)) → EP X pins σ Q (.ref h'.objs.size) { s with heap := sortedHeap (h'.push (seqObj "list" acc.toList.toArray 0)) h'.objs.size acc.toList out.toArray, toks := tk } := fun out ho he => by
    obtain ⟨zs, hz1, hz2⟩ := each_out he
    obtain ⟨e', he'⟩ := PyProof.Rows.sortedHeap_at (vs := acc.toList) (out := out.toArray) hoL
    have hlen : zs.length ≤ sizeLine := by rw [hz1.length, ho]; exact hl3
    refine ⟨.ref h'.objs.size, upd H h'.objs.size (.lst zs), I1.laid (t' := tk) (fun b u e => ?_) (Nat.le_refl _) ⟨hlen, out, e', hz1, he'⟩, rfl, q zs _ (I1.hok.fresh (Nat.le_refl _)) hz2⟩
    have hb : b < h'.objs.size := Heap.lt_size e
    rw [PyProof.Rows.sortedHeap_old (Nat.ne_of_lt hb) (by rw [size_push']; exact Nat.lt_succ_of_lt hb)]
    exact Heap.get?_push_of_some _ e
  have core : ∃ κ : PyProof.Rows.KeyKind, PySem.W.SortsAt X.prog X.w X.A.in1.in1 { s with heap := PySem.W.sortingHeap (h'.push (seqObj "list" acc.toList.toArray 0)) h'.objs.size acc.toList, toks := tk } κ acc.toList ∧
      (PySem.W.sortVals κ false acc.toList acc.toList).length = ds.length ∧ PySem.W.EachIs (eachOf X H RR) (PySem.W.sortVals κ false acc.toList acc.toList) (ds.mergeSort (PySem.W.dataLe false id)) := by
    by_cases h0 : oneNil ds = true
    · have e : ds = [.tuple []] := by
        unfold oneNil at h0
        split at h0
        · rfl
        · cases h0
      rw [e] at er ee hal ⊢
      generalize acc.toList = l at er ee
      cases er with
      | cons r0 rest =>
        cases rest
        exact ⟨_, sortsAt_nil r0 (by show X.A.units + 1 + 1 + 1 < cLine; omega), PySem.W.sortVals_length false rfl, PySem.W.sortVals_data (enc := id) false ee (.cons r0 .nil) hal⟩
    · refine ⟨_, PySem.W.SortsAt.data (PySem.W.each_map (R := fun v d => ∃ as, Reads (PySem.W.sortingHeap (h'.push (seqObj "list" acc.toList.toArray 0)) h'.objs.size acc.toList) v d as) id er) hal ?_ (PySem.W.bound_map fun b hb => ?_), ?_, PySem.W.sortVals_data (enc := id) false ee er hal⟩
      · rw [List.map_id]
        rcases h2 with h2 | h2
        · refine .inl fun d hd => ?_
          have := List.all_eq_true.mp h2 d hd
          split at this
          · exact ⟨_, _, rfl⟩
          · cases this
        · rw [Bool.or_eq_true] at h2
          rcases h2 with h2 | h2
          rotate_left
          · exact absurd h2 h0
          refine .inr fun d hd => ?_
          have := List.all_eq_true.mp h2 d hd
          refine ⟨fun e => ?_, fun xs e => ?_⟩ <;> subst e <;> cases this
      · have := of_decide_eq_true (List.all_eq_true.mp h4 b hb)
        show X.A.units + 2 + b.depth < cLine
        omega
      · rw [PySem.W.sortVals_length false rfl]; exact hal2
  obtain ⟨κ, S, c1, c2⟩ := core
  refine wpAny_bind (wpAny_holding (wpAny_call_entry PyProof.Rows.slot_list_sort ⟨_, hoL, rfl⟩ PyProof.Rows.entry_list_sort
    (PySem.W.list_sort_vals (s := { s with heap := h'.push (seqObj "list" acc.toList.toArray 0), toks := tk }) hoL S (by rw [hal2]; exact hl3) ⟨_, rfl, wpAny_pure ⟨_, rfl, fin _ c1 c2⟩⟩) (PyProof.Rows.args_list_sort _)))
def srtTD : D → Option Rv := fun d => (unT d).bind fun kvs => if sortB (kvs.map fun p => keysD p.1) then some (.fresh ((kvs.map fun p => keysD p.1).mergeSort (PySem.W.dataLe false id))) else none
theorem srt_dp : ∀ {zs : List V} {ds : List D}, TupIn F H → Paired (fun z d => ∃ q k, z = V.ref q ∧ d = keysD k ∧ H q = some (.tup (k.map kV))) zs ds → DpAll K F zs ds
  | _, _, _, .nil => .nil
  | _, _, T, .cons ⟨q, k, h1, h2, h3⟩ t => by subst h1; subst h2; exact .cons (.tup (T _ _ h3) (keysD_dp _)) (srt_dp T t)
theorem rd_srtT {w : Wd} {a : Ev} {Q : VK} (h : rdR w (eB (on1 srtTD) (opds [a])) σ H Q) : tCB (rSrtT w.K) (rdRs w (opds [a])) σ H Q := by
  obtain ⟨C, F, e, R, P⟩ := h
  refine bindP R P fun F1 H1 e1 rs vs h1 R1 E1 q1 P1 => ?_
  obtain ⟨z, hz, P2⟩ := post_ofO P1
  obtain ⟨ds, hd, hf⟩ := Option.bind_eq_some_iff.mp hz
  have hdh := peeks_dh R1 q1 hd
  unfold on1 at hf
  split at hf
  · rename_i d
    cases hdh with
    | cons g gr =>
      cases gr
      have hf0 : srtTD d = some z := hf
      clear hf
      obtain ⟨kvs, hk, hf⟩ := Option.bind_eq_some_iff.mp hf0
      have := unT_of hk
      subst this
      clear hf0
      split at hf
      · rename_i hb
        cases hf
        cases g with
        | oth q =>
          obtain ⟨b, od, kv, rfl, hF, g1, g2⟩ := dictT_v q
          have hkk : (kv.map fun p => keysD p.1) = kvs.map fun p => keysD p.1 := by
            have := congrArg (List.map keysD) g1
            rwa [List.map_map, List.map_map] at this
          refine ⟨b, kv, rfl, .inr ⟨od, R1.ext _ _ hF⟩, by rw [hkk]; exact hb, fun zs p hp hzs => ?_⟩
          rw [hkk] at hzs
          exact P2.res R1 (.lst hp (srt_dp R1.tup hzs))
      · cases hf
  · cases hf
section
variable {X : Cx} {w : Wd} {ex : Expr} {a : Ev} {p pos : Pos}
theorem ve_lstT (hw : w.K = X.K) (hc : X.calm = true) (hg : Gl X "list") (hm : X.mg "list" = none) (ha : PE X ex (rdR w a)) (he : starEach [ex] X.env = (false, eval ex X.env) :: starEach [] X.env := by rfl) (hpl : (backTo pos (starEach [] X.env)).any (·.1) = false := by rfl) :
    PE X (.Call (.Name "list" p) [ex] [] pos) (rdR w (eB (on1 lstTD) (opds [a]))) := pe_mono (pe_callTy (c_lstT hc) hg hm bb_list (va_cons ha va_nil he) (by decide) (by decide) he hpl) fun _ _ _ h => rd_lstT h
theorem ve_srtT (hw : w.K = X.K) (hc : X.calm = true) (hr : X.A.units + 64 < cLine) (hg : Gl X "sorted") (hm : X.mg "sorted" = none) (ha : PE X ex (rdR w a)) (he : starEach [ex] X.env = (false, eval ex X.env) :: starEach [] X.env := by rfl) (hpl : (backTo pos (starEach [] X.env)).any (·.1) = false := by rfl) :
    PE X (.Call (.Name "sorted" p) [ex] [] pos) (rdR w (eB (on1 srtTD) (opds [a]))) := pe_mono (pe_callB (c_srtT hc hr) hg hm bb_sorted (va_cons ha va_nil he) (by decide) (by decide) he hpl) fun _ _ _ h => hw ▸ rd_srtT h
theorem ve_lenK (hg : Gl X "len") (hm : X.mg "len" = none) (ha : PE X ex (rdR w a)) (he : starEach [ex] X.env = (false, eval ex X.env) :: starEach [] X.env := by rfl) (hpl : (backTo pos (starEach [] X.env)).any (·.1) = false := by rfl) :
    PE X (.Call (.Name "len" p) [ex] [] pos) (rdR w (eB (on1 lenKD) (opds [a]))) := pe_mono (pe_callB call_len_dR hg hm bb_len (va_cons ha va_nil he) (by decide) (by decide) he hpl) fun _ _ _ h => rd_blt s_lenK h
end
@[simp] theorem lstTD_T (kvs : List (List Key × D)) : lstTD (dictT kvs) = some (.fresh (kvs.map fun p => keysD p.1)) := by unfold lstTD; rw [unT_T]; rfl
@[simp] theorem srtTD_T (kvs : List (List Key × D)) : srtTD (dictT kvs) = if sortB (kvs.map fun p => keysD p.1) then some (.fresh ((kvs.map fun p => keysD p.1).mergeSort (PySem.W.dataLe false id))) else none := by unfold srtTD; rw [unT_T]; rfl
end VI
set_option Elab.async false
set_option linter.all false
set_option maxRecDepth 100000
set_option maxHeartbeats 4000000
namespace VI
open PySem PySem.Spec PyProof.Rows L2
variable {K : PySem.W.Frag} {C : Cf} {F H : Hp} {e e' : Env} {σ : L2.St}
/-- one of several, told apart -/
theorem owl_at : ∀ {ts : List OT} {vs : List V} {fp : List Addr} {j : Nat} {t : OT}, OwL K F H ts vs fp → ts[j]? = some t → ∃ v f1 f2 f3, fp = f1 ++ f2 ++ f3 ∧ vs[j]? = some v ∧ Ow K F H t v f2 ∧
    ∀ {F' H' : Hp} {t' : OT} {f2' : List Addr}, Ext F F' → (∀ a ∈ f1 ++ f3, H' a = H a) → Ow K F' H' t' v f2' → OwL K F' H' (ts.set j t') vs (f1 ++ f2' ++ f3)
  | _, _, _, _, _, .nil, h => by simp at h
  | _, _, _, 0, t, .cons (v := v) (vs := vs) (f1 := g1) (f2 := g2) o r, h => by
    simp at h; subst h
    refine ⟨v, [], g1, g2, by simp, rfl, o, fun {F' H' t' f2'} E k o' => ?_⟩
    have := OwL.cons o' (r.ext E fun a ha => k a (by simpa using ha))
    simpa using this
  | _, _, _, j + 1, t, .cons (v := v) (vs := vs) (f1 := g1) (f2 := g2) o r, h => by
    obtain ⟨u, f1, f2, f3, rfl, h1, h2, h3⟩ := owl_at r (by simpa using h)
    refine ⟨u, g1 ++ f1, f2, f3, by simp, by simpa using h1, h2, fun {F' H' t' f2'} E k o' => ?_⟩
    have a1 : Ow K F' H' _ v g1 := o.ext E fun a ha => k a (by simp [ha])
    have a2 := h3 E (fun a ha => k a (by rcases List.mem_append.mp ha with z | z <;> simp [z])) o'
    have := OwL.cons a1 a2
    simpa using this
def isLT : Option (Option Sv) → Bool
  | some (some (.tr _ (.lst _))) => true
  | _ => false
def kids : Option (Option Sv) → Option (List OT)
  | some (some (.tr _ (.lst ts))) => some ts
  | _ => none
/-- x[i], x a list of our own of things of our own: which one -/
def ixAt (i : Nat) (ix : Ev) : Sem1 Nat := fun e => if isLT e[i]? then (opd ix e).bind fun r e1 => match r, kids e1[i]? with
    | .fz (.int k), some ts => ofO (ixN ts.length k) e1
    | _, _ => .no
  else .no
def RK (i : Nat) : Cf → Hp → Hp → Env → L2.St → Nat → V → Prop := fun _ _ H e σ j v => ∃ b ts p vs, e[i]? = some (some (.tr b (.lst ts))) ∧ σ[i]? = some (some (.ref p)) ∧ H p = some (.lst vs) ∧ vs[j]? = some v ∧ j < ts.length
abbrev rdK (w : Wd) (i : Nat) (a : Sem1 Nat) : TE := Rd w (RK i) a
theorem isLT_of {o : Option (Option Sv)} (h : isLT o = true) : ∃ b ts, o = some (some (.tr b (.lst ts))) := by
  unfold isLT at h
  split at h
  · exact ⟨_, _, rfl⟩
  · cases h
theorem kids_of {o : Option (Option Sv)} {ts : List OT} (h : kids o = some ts) : ∃ b, o = some (some (.tr b (.lst ts))) := by
  unfold kids at h
  split at h
  · cases h; exact ⟨_, rfl⟩
  · cases h
theorem rd_ixAt {w : Wd} {i : Nat} {ix : Ev} {Q : VK} (h : rdK w i (ixAt i ix) σ H Q) : tOp (rIx w.K) (rdR w (eV i)) (rdR w ix) σ H Q := by
  obtain ⟨C, F, e, R, P⟩ := h
  unfold ixAt at P
  split at P
  · rename_i h0
    obtain ⟨b0, ts0, h0⟩ := isLT_of h0
    refine ⟨C, F, e, R, ?_⟩
    rw [ev_tr h0]
    intro x F1 H1 R1 E1 q1
    have q1 : σ[i]? = some (some x) := q1
    have P := Post.mono E1 P
    refine rd_opd (bindP R1 P fun F2 H2 e2 r v h2 R2 E2 q2 P2 => ?_)
    split at P2
    · rename_i k ts ht
      obtain ⟨b, ht⟩ := kids_of ht
      obtain ⟨j, hj, P3⟩ := post_ofO P2
      cases q2
      obtain ⟨u, hu, fp, ow, nd, hF, hb⟩ := R2.sl _ _ ht
      rw [q1] at hu; cases hu
      cases ow with
      | @lst p _ vs fp' hp ol =>
        have hl : ts.length = vs.length := ol.length
        have hjl : j < vs.length := by
          have := (ixN_seq hj).2.1; omega
        refine .inl ⟨p, vs, k, vs[j], rfl, rfl, .inl (.inl hp), ?_, P3.ok' R2 ⟨b, ts, p, vs, ht, q1, hp, List.getElem?_eq_getElem hjl, by omega⟩⟩
        unfold atI
        rw [← hl, hj]
        exact List.getElem?_eq_getElem hjl
    · exact P2.elim
  · exact P.elim
/-- constants, as they stand anywhere -/
structure Cst (K : PySem.W.Frag) (v : V) (d : D) : Prop where
  dp : ∀ F, Dp K F v d
theorem pc_int {X : Cx} {i : Int} {j : Nat} {pos : Pos} : PE X (.Constant (.int i) j pos) (tC (.int i)) := pe_int
theorem pc_str {X : Cx} {i : Str} {j : Nat} {pos : Pos} : PE X (.Constant (.str i) j pos) (tC (.str i)) := pe_str
theorem cst_int {i : Int} : Cst K (.int i) (.int i) := ⟨fun _ => .int i⟩
theorem cst_str {i : Str} : Cst K (.str i) (.str i) := ⟨fun _ => .str i⟩
def tCs (vs : List V) : TA := fun _ H Q => Q vs H
def kidL (o : Option (Option Sv)) (j : Nat) : Option (List D) := match kids o with
  | some ts => match ts[j]? with
    | some (.lst us) => allFz us
    | _ => none
  | none => none
def setKid (e : Env) (i j : Nat) (t : OT) : Env := match e[i]? with
  | some (some (.tr b (.lst ts))) => e.set i (some (.tr b (.lst (ts.set j t))))
  | _ => e
def eMAt (f : FM) (i : Nat) (ix : Ev) (ds : List D) : Ev := fun e => (ixAt i ix e).bind fun j e1 => match kidL e1[i]? j with
  | none => .no
  | some xs => match f xs ds with
    | none => .no
    | some (z, xs') => .ok (.fz z) (setKid e1 i j (.lst (xs'.map OT.fz)))
/-- a child is changed -/
theorem Rp.setKid (R : Rp K C F H e σ) {i j : Nat} {b : Bool} {ts : List OT} {p : Addr} {vs : List V} {t t' : OT} {v : V} (he : e[i]? = some (some (.tr b (.lst ts)))) (hv : σ[i]? = some (some (.ref p))) (hp : H p = some (.lst vs)) (ht : ts[j]? = some t) (hj : vs[j]? = some v) :
    ∃ fc, Ow K F H t v fc ∧ fc.Nodup ∧ (∀ a ∈ fc, F a = none ∧ ¬ C.M a ∧ a ≠ p) ∧ ∀ {F' H' : Hp} {fc' : List Addr}, Ext F F' → Ext F' H' → TupIn F' H' → (∀ a, a ∉ fc → H a ≠ none → H' a = H a ∧ (F a = none → F' a = none)) → Ow K F' H' t' v fc' → fc'.Nodup → (∀ a ∈ fc', F' a = none ∧ (a ∈ fc ∨ H a = none)) →
      Rp K C F' H' (VI.setKid e i j t') σ := by
  obtain ⟨u, hu, fp, ow, nd, hF, hb⟩ := R.sl _ _ he
  rw [hv] at hu; cases hu
  cases ow with
  | @lst _ _ vs' fp' hp' ol =>
    rw [hp] at hp'; cases hp'
    obtain ⟨v', f1, f2, f3, rfl, h1, h2, h3⟩ := owl_at ol ht
    rw [hj] at h1; cases h1
    have nd' := List.nodup_cons.mp nd
    have ndm := nd'.2
    rw [List.nodup_append, List.nodup_append] at ndm
    obtain ⟨⟨n1, n2, n12⟩, n3, n123⟩ := ndm
    have mem : ∀ a, a ∈ f2 → a ∈ p :: (f1 ++ f2 ++ f3) := fun a ha => List.mem_cons_of_mem _ (by simp [ha])
    refine ⟨f2, h2, n2, fun a ha => ⟨(hF a (mem a ha)).1, (hF a (mem a ha)).2, fun z => nd'.1 (z ▸ (by simp [ha]))⟩, fun {F' H' fc'} E EH TU hk o' ndc hn => ?_⟩
    have ol0 : OwL K F H ts vs (f1 ++ f2 ++ f3) := ol
    have some' : ∀ a ∈ f1 ++ f2 ++ f3, H a ≠ none := fun a ha => ol0.some a ha
    have pn : H p ≠ none := by rw [hp]; exact fun z => by cases z
    have pf2 : p ∉ f2 := fun z => nd'.1 (by simp [z])
    have keep : ∀ a ∈ f1 ++ f3, H' a = H a := fun a ha => by
      have ha2 : a ∉ f2 := fun z => by
        rcases List.mem_append.mp ha with q | q
        · exact n12 a q a z rfl
        · exact n123 a (List.mem_append_right _ z) a q rfl
      exact (hk a ha2 (some' a (by rcases List.mem_append.mp ha with q | q <;> simp [q]))).1
    have ol' := h3 E keep o'
    have e1 : VI.setKid e i j t' = e.set i (some (.tr b (.lst (ts.set j t')))) := by unfold VI.setKid; rw [he]
    rw [e1]
    have op : Ow K F' H' (.lst (ts.set j t')) (.ref p) (p :: (f1 ++ fc' ++ f3)) := .lst ((hk p pf2 pn).1.trans hp) ol'
    have nin : ∀ a ∈ fc', a ∉ f1 ∧ a ∉ f3 ∧ a ≠ p := fun a ha => by
      rcases (hn a ha).2 with q | q
      · exact ⟨fun z => n12 a z a q rfl, fun z => n123 a (List.mem_append_right _ q) a z rfl, fun z => pf2 (z ▸ q)⟩
      · exact ⟨fun z => some' a (by simp [z]) q, fun z => some' a (by simp [z]) q, fun z => pn (z ▸ q)⟩
    refine R.trPut he hv (.lst hp ol0) E EH (fun a h0 hna => hk a (fun z => hna (mem a z)) h0) TU op ?_ (fun a ha => ?_) fun hbt => ?_
    · refine List.nodup_cons.mpr ⟨fun z => ?_, ?_⟩
      · rcases List.mem_append.mp z with z | z
        · rcases List.mem_append.mp z with z | z
          · exact nd'.1 (by simp [z])
          · exact (nin p z).2.2 rfl
        · exact nd'.1 (by simp [z])
      · rw [List.nodup_append, List.nodup_append]
        exact ⟨⟨n1, ndc, fun a ha c hc z => (nin c hc).1 (z ▸ ha)⟩, n3, fun a ha c hc z => by
          rcases List.mem_append.mp ha with q | q
          · exact n123 a (List.mem_append_left _ q) c hc z
          · exact (nin a q).2.1 (z ▸ hc)⟩
    · rcases List.mem_cons.mp ha with rfl | ha
      · exact ⟨(hk a pf2 pn).2 (hF a List.mem_cons_self).1, .inl List.mem_cons_self⟩
      · rcases List.mem_append.mp ha with ha | ha
        · rcases List.mem_append.mp ha with ha | ha
          · have hm : a ∈ p :: (f1 ++ f2 ++ f3) := List.mem_cons_of_mem _ (by simp [ha])
            exact ⟨(hk a (fun z => n12 a ha a z rfl) (some' a (by simp [ha]))).2 (hF a hm).1, .inl hm⟩
          · rcases (hn a ha).2 with q | q
            · exact ⟨(hn a ha).1, .inl (mem a q)⟩
            · exact ⟨(hn a ha).1, .inr q⟩
        · have hm : a ∈ p :: (f1 ++ f2 ++ f3) := List.mem_cons_of_mem _ (by simp [ha])
          exact ⟨(hk a (fun z => n123 a (List.mem_append_right _ z) a ha rfl) (some' a (by simp [ha]))).2 (hF a hm).1, .inl hm⟩
    · have := (hb hbt).1
      injection this with this
      rw [← this]; exact List.mem_cons_self
theorem kidL_of {o : Option (Option Sv)} {j : Nat} {xs : List D} (h : kidL o j = some xs) : ∃ b ts, o = some (some (.tr b (.lst ts))) ∧ ts[j]? = some (.lst (xs.map OT.fz)) := by
  unfold kidL at h
  split at h
  · rename_i ts hk
    obtain ⟨b, hk⟩ := kids_of hk
    split at h
    · rename_i us hu
      rw [allFz_of h] at hu
      exact ⟨b, ts, hk, hu⟩
    · cases h
  · cases h
theorem rd_mutAt {w : Wd} {f : FM} {r : V → List V → Hp → VK → Prop} {i : Nat} {ix : Ev} {ds : List D} {vs : List V} (hs : MutS w.K f r) (hc : ∀ F, DpAll w.K F vs ds) {Q : VK} (h : rdR w (eMAt f i ix ds) σ H Q) : tBM w.K "list" r (rdK w i (ixAt i ix)) (tCs vs) σ H Q := by
  obtain ⟨C, F, e, R, P⟩ := h
  refine bindP R P fun F1 H1 e1 j v h1 R1 E1 q1 P1 => ?_
  obtain ⟨b, ts, p, us, he, hv, hp, hj, _⟩ := q1
  split at P1
  · exact P1.elim
  · rename_i xs hk
    obtain ⟨b2, ts2, he2, hts⟩ := kidL_of hk
    rw [he] at he2; cases he2
    split at P1
    · exact P1.elim
    · rename_i z xs' hf
      obtain ⟨fc, oc, ndc, hFc, k⟩ := R1.setKid (t' := .lst (xs'.map OT.fz)) he hv hp hts hj
      cases oc with
      | @lst q _ ws fq hq oq =>
        obtain ⟨hd, rfl⟩ := owl_fz' oq
        obtain ⟨f1, f2, f3⟩ := hFc q List.mem_cons_self
        refine ⟨.inl ⟨rfl, ws, .of hq⟩, hs F1 H1 q ws vs xs ds z xs' R1.ext hq f1 hd (hc F1) hf Q fun v' ys qv qy => P1 v' F1 _ (k (.refl F1) (R1.ext.mut f1) (R1.tup.mut fun xs z => by cases z) (fun a ha _ => ⟨upd_ne (fun z => ha (by rw [z]; exact List.mem_cons_self)), id⟩) (.lst upd_same (owl_fz qy)) (List.nodup_cons.mpr ⟨List.not_mem_nil, List.nodup_nil⟩) fun a ha => ?_) (.refl F1) qv⟩
        rw [List.mem_singleton] at ha
        subst ha
        exact ⟨f1, .inl List.mem_cons_self⟩
section
variable {X : Cx} {w : Wd} {o a ix : Expr} {f : FM} {r : V → List V → Hp → VK → Prop} {id : String} {ea : Ev} {i : Nat} {pos apos cpos : Pos} {name : Str} {v : V} {d : D}
theorem ve_mutAt (slot : Slot "list" name id) (hty : typeOf (.builtin id) = pure (.type "method_descriptor")) (hm : MtR X id r) (hs : MutS X.K f r) (hw : w.K = X.K) (ho : PE X o (rdR w (eV i))) (hi : PE X ix (rdR w ea)) (hx : PlainIx ix) (hc : PE X a (tC v)) (hd : Cst X.K v d)
    (hbase : attributeBase (.Subscript o ix pos) name X.env (eval (.Subscript o ix pos) X.env) = eval (.Subscript o ix pos) X.env := by rfl)
    (hfew : ((backTo cpos (starEach [a] X.env)).all (fun x => !x.1) && (backToKw cpos (keywordEach [] X.env)).all (fun x => x.1.isSome)
      && decide (([a] : List Expr).length + ([] : List Keyword).length + (if ([] : List Keyword).isEmpty then 0 else 1) < 30)) = true := by rfl)
    (hline : (apos.endLine == cpos.line) = true := by rfl) (h1 : starEach [a] X.env = (false, eval a X.env) :: starEach [] X.env := by rfl) (hplain : (backTo cpos (starEach [] X.env)).any (·.1) = false := by rfl) :
    PE X (.Call (.Attribute (.Subscript o ix pos) name apos) [a] [] cpos) (rdR w (eMAt f i ea [d])) :=
  pe_mono (pe_bm PySem.F.plainAttrs_list slot hty hm (pe_mono (pe_ix ix_seq ho hi hx) fun _ _ _ q => by rw [← hw]; exact rd_ixAt q) (pa_mono (pa_cons hc pa_nil h1) fun σ H Q (q : tCs [v] σ H Q) => q) hbase hfew hline h1 hplain) fun _ _ _ h => by
    rw [← hw] at hs hd ⊢
    exact rd_mutAt hs (fun F => .cons (hd.dp F) .nil) h
theorem ve_mutAt0 (slot : Slot "list" name id) (hty : typeOf (.builtin id) = pure (.type "method_descriptor")) (hm : MtR X id r) (hs : MutS X.K f r) (hw : w.K = X.K) (ho : PE X o (rdR w (eV i))) (hi : PE X ix (rdR w ea)) (hx : PlainIx ix)
    (hbase : attributeBase (.Subscript o ix pos) name X.env (eval (.Subscript o ix pos) X.env) = eval (.Subscript o ix pos) X.env := by rfl) (hline : (apos.endLine == cpos.line) = true := by rfl) :
    PE X (.Call (.Attribute (.Subscript o ix pos) name apos) [] [] cpos) (rdR w (eMAt f i ea [])) :=
  pe_mono (pe_bm0 PySem.F.plainAttrs_list slot hty hm (pe_mono (pe_ix ix_seq ho hi hx) fun _ _ _ q => by rw [← hw]; exact rd_ixAt q) hbase hline) fun σ H Q h => by
    rw [← hw] at hs ⊢
    have q := rd_mutAt hs (fun F => .nil) h
    obtain ⟨C, F, e, R, P⟩ := q
    refine ⟨C, F, e, R, ?_⟩
    cases h1 : ixAt i ea e with
    | no => rw [h1] at P; exact P
    | ex x e1 => rw [h1] at P; exact P
    | ok r e1 => rw [h1] at P; exact P
end
def catS (i : Nat) (as : Sem1 (List OT)) : St1 := fun e => if isLT e[i]? then (as e).bind fun us e1 => match e1[i]? with
    | some (some (.tr false (.lst ts))) => if ts.length + us.length ≤ sizeLine ∧ us.length ≤ sizeLine then .ok .nx (e1.set i (some (.tr false (.lst (ts ++ us))))) else .no
    | _ => .no
  else .no
theorem Apar.forget {a : Addr} {i : Nat} (h : ∀ (j : Nat) (y : Sv), j ≠ i → e[j]? = some (some y) → y.mu = true → σ[j]? ≠ some (some (.ref a))) (h2 : ∀ j fp, j ≠ i → TrAt K H e σ j fp → a ∉ fp) : Apar K H (e.set i none) σ a := by
  have low : ∀ {j : Nat} {y : Sv}, (e.set i none)[j]? = some (some y) → j ≠ i ∧ e[j]? = some (some y) := fun {j y} h => by
    rcases getset h with ⟨_, z⟩ | ⟨hj, h⟩
    · cases z
    · exact ⟨Ne.symm hj, h⟩
  exact ⟨fun j y hy my => h j y (low hy).1 (low hy).2 my, fun j fp ⟨b, t, v, F', he, hv, o⟩ => h2 j fp (low he).1 ⟨b, t, v, F', (low he).2, hv, o⟩⟩
theorem owl_app : ∀ {ts : List OT} {vs : List V} {fp : List Addr} {us : List OT} {ws : List V} {fq : List Addr}, OwL K F H ts vs fp → OwL K F H us ws fq → OwL K F H (ts ++ us) (vs ++ ws) (fp ++ fq)
  | _, _, _, _, _, _, .nil, h => h
  | _, _, _, _, _, _, .cons o r, h => by
    have := OwL.cons o (owl_app r h)
    simpa using this
theorem rd_catS {w : Wd} {D : Ends} {i : Nat} {as : Sem1 (List OT)} (h : rdS w (catS i as) D σ H) : tOp (rAddU w.K) (rdR w (eV i)) (tLst (rdNs w as)) σ H fun v H' => D.nx (σ.set i (some v)) H' := by
  obtain ⟨C, F, e, R, P⟩ := h
  unfold catS at P
  split at P
  · rename_i h0
    obtain ⟨b0, ts0, h0⟩ := isLT_of h0
    refine ⟨C, F, e, R, ?_⟩
    rw [ev_tr h0]
    intro x F1 H1 R1 E1 q1
    have q1 : σ[i]? = some (some x) := q1
    have P := PostS.mono E1 P
    refine bindS R1 P fun F2 H2 e2 us ws h2 R2 E2 q2 P2 => ?_
    split at P2
    · rename_i ts ht
      split at P2
      · rename_i hl
        obtain ⟨fq, oq, ndq, hFq⟩ := q2
        obtain ⟨u, hu, fp, ow, nd, hF, hb⟩ := R2.sl _ _ ht
        rw [q1] at hu; cases hu
        cases ow with
        | @lst p _ vs fp' hp ol =>
          have T : TrAt w.K H2 e2 σ i (p :: fp') := ⟨false, .lst ts, .ref p, F2, ht, q1, .lst hp ol⟩
          have l1 : ts.length = vs.length := ol.length
          have l2 : us.length = ws.length := oq.length
          refine ⟨by rw [← l2]; exact hl.2, fun q hq => .inr (.inr (.inr ⟨p, q, vs, ws, rfl, rfl, .of (by rw [upd_ne (fun z => by rw [z, hq] at hp; cases hp)]; exact hp), .of upd_same, by rw [← l1, ← l2]; exact hl.1, fun r hr => ?_⟩))⟩
          -- two new objects
          have hr2 : H2 r = none := by
            by_cases z : r = q
            · subst z; rw [upd_same] at hr; cases hr
            · rw [upd_ne z] at hr; exact hr
          obtain ⟨R3, _, _, _⟩ := R2.grow (o := .lst ws) hq
          obtain ⟨R4, hM4, hF4, ap4⟩ := R3.grow (o := .lst (vs ++ ws)) hr
          have nd' := List.nodup_cons.mp nd
          have k3 : ∀ a, H2 a ≠ none → upd (upd H2 q (.lst ws)) r (.lst (vs ++ ws)) a = H2 a := fun a ha => by
            rw [upd_ne (show a ≠ r from fun z => ha (z ▸ hr2)), upd_ne (show a ≠ q from fun z => ha (z ▸ hq))]
          have T4 : TrAt w.K (upd (upd H2 q (.lst ws)) r (.lst (vs ++ ws))) e2 σ i (p :: fp') := by
            refine ⟨false, .lst ts, .ref p, F2, ht, q1, .lst ((k3 p (by rw [hp]; exact fun z => by cases z)).trans hp) (ol.ext (.refl F2) fun a ha => k3 a (ol.some a ha))⟩
          have tn := R4.tn i _ T4
          -- what is new is apart when the name is forgotten
          have apOld : ∀ a ∈ fp', Apar w.K (upd (upd H2 q (.lst ws)) r (.lst (vs ++ ws))) (e2.set i none) σ a := fun a ha => Apar.forget (fun j y hj hy my => tn.1 a (List.mem_cons_of_mem _ ha) j y hy my) fun j fp2 hj hT hq2 => tn.2 j fp2 (Ne.symm hj) hT a (List.mem_cons_of_mem _ ha) hq2
          have lift : ∀ a, Apar w.K H2 e2 σ a → Apar w.K (upd (upd H2 q (.lst ws)) r (.lst (vs ++ ws))) (e2.set i none) σ a := fun a ap => Apar.forget (fun j y hj hy my => ap.1 j y hy my) fun j fp2 hj hT => ap.2 j fp2 (R2.trBack (fun c h1 _ _ _ => k3 c h1) hT)
          have dis : ∀ a ∈ fp', a ∉ fq := fun a ha hq2 => (hFq a hq2).2.2.2 i _ T (List.mem_cons_of_mem _ ha)
          have NA : NewAt w.K C F2 (upd (upd H2 q (.lst ws)) r (.lst (vs ++ ws))) (e2.set i none) σ (.lst (ts ++ us)) (.ref r) := by
            refine ⟨r :: (fp' ++ fq), .lst upd_same (owl_app (ol.ext (.refl F2) fun a ha => k3 a (ol.some a ha)) (oq.ext (.refl F2) fun a ha => k3 a (oq.some a ha))), List.nodup_cons.mpr ⟨fun z => ?_, ?_⟩, fun a ha => ?_⟩
            · rcases List.mem_append.mp z with z | z
              · exact ol.some r z hr2
              · exact oq.some r z hr2
            · rw [List.nodup_append]
              exact ⟨nd'.2, ndq, fun a ha b hb z => dis a ha (z ▸ hb)⟩
            · rcases List.mem_cons.mp ha with rfl | ha
              · exact ⟨hF4, hM4, Apar.forget (fun j y hj hy my => ap4.1 j y hy my) fun j fp2 hj hT => ap4.2 j fp2 hT⟩
              · rcases List.mem_append.mp ha with ha | ha
                · exact ⟨(hF a (List.mem_cons_of_mem _ ha)).1, (hF a (List.mem_cons_of_mem _ ha)).2, apOld a ha⟩
                · exact ⟨(hFq a ha).1, (hFq a ha).2.1, lift a (hFq a ha).2.2⟩
          have il : i < e2.length := (List.getElem?_eq_some_iff.mp ht).1
          have R5 := (R4.forget i).putTr (i := i) (by unfold freeAt; rw [List.getElem?_set_self il]) NA
          rw [List.set_set] at R5
          exact P2 F2 _ _ R5 (.refl F2)
      · exact P2.elim
    · exact P2.elim
  · exact P.elim
section
variable {X : Cx} {w : Wd} {i : Nat} {x : Str} {es : List Expr} {as : List Nv} {pos pos' p2 p3 p4 : Pos} {o : Expr}
theorem vs_cat (hw : w.K = X.K) (hN : X.N.Nodup) (hi : X.N[i]? = some x) (hx : Loc X.env.scope x) (ho : PE X o (rdR w (eV i))) (ha : PA X es (rdNs w (news as)))
    (hs : swapsWith (.BinOp o .Add (.List es p3) p2) (some (.Name x pos')) pos.line X.env = pure false := by rfl) (hf : X.fn x = true ∨ X.env.scope.names.lookup x = some .local := by first | exact .inl rfl | exact .inr rfl | assumption) :
    PS X (.Assign [.Name x pos'] (.BinOp o .Add (.List es p3) p2) pos) (rdS w (catS i (news as))) := ps_mono (ps_set hN hi hx (pe_op op_addU ho (pe_lst ha)) hs hf) fun D σ H h => by
  have := rd_catS h
  rw [hw] at this
  exact this
end
end VI
set_option Elab.async false
set_option linter.all false
set_option maxRecDepth 100000
set_option maxHeartbeats 4000000
namespace VI
open PySem PySem.Spec PyProof.Rows L2
section
variable {e : Env} {i j n : Nat} {d x y : D} {ds xs : List D} {r : Rv} {a b c : Ev} {t u : OT} {ts us : List OT} {p : Nv} {f : FM} {z : Bool} {k : Int}
@[simp] theorem flat_fz : OT.flat (.fz d) = true := by unfold OT.flat; rfl
@[simp] theorem flat_lst : OT.flat (.lst ts) = OT.flatL ts := by rw [OT.flat]
@[simp] theorem flatL_nil : OT.flatL [] = true := by rw [OT.flatL]
@[simp] theorem flatL_cons : OT.flatL (t :: ts) = (t.flat && OT.flatL ts) := by rw [OT.flatL]
@[simp] theorem flatL_map : OT.flatL (ds.map OT.fz) = true := flatL_fz ds
@[simp] theorem d_fz : OT.d (.fz d) = d := by unfold OT.d; rfl
@[simp] theorem d_lst : OT.d (.lst ts) = .list (OT.ds ts) := by rw [OT.d]
@[simp] theorem ds_nil : OT.ds [] = [] := by rw [OT.ds]
@[simp] theorem ds_cons : OT.ds (t :: ts) = t.d :: OT.ds ts := by rw [OT.ds]
@[simp] theorem ds_mapfz : OT.ds (ds.map OT.fz) = ds := ds_fz ds
@[simp] theorem lend1_lst : lend1 (some (.tr z (.lst ts))) = if OT.flatL ts then some (.fz (.list (OT.ds ts))) else none := by
  unfold lend1 Sv.d
  simp only [Option.bind_some, flat_lst, d_lst]
  split <;> rfl
@[simp] theorem isLT_T : isLT (some (some (.tr z (.lst ts)))) = true := rfl
@[simp] theorem kids_T : kids (some (some (.tr z (.lst ts)))) = some ts := rfl
def kid1 : OT → Option (List D)
  | .lst us => allFz us
  | _ => none
@[simp] theorem kid1_lst : kid1 (.lst us) = allFz us := rfl
@[simp] theorem kidL_T : kidL (some (some (.tr z (.lst ts)))) j = (ts[j]?).bind kid1 := by
  unfold kidL
  rw [kids_T]
  simp only
  cases ts[j]? with
  | none => rfl
  | some t => cases t <;> rfl
def setKidO (o : Option (Option Sv)) (e : Env) (i j : Nat) (t : OT) : Env := match o with
  | some (some (.tr b (.lst ts))) => e.set i (some (.tr b (.lst (ts.set j t))))
  | _ => e
@[simp] theorem setKidO_T : setKidO (some (some (.tr z (.lst ts)))) e i j t = e.set i (some (.tr z (.lst (ts.set j t)))) := rfl
@[simp] theorem setKid_O : setKid e i j t = setKidO e[i]? e i j t := rfl
def okIA (o : Option (Option Sv)) (r : Rv) (e : Env) (Q : Po Nat) : Prop := match calmR r, kids o with
  | .fz (.int k), some ts => okO (ixN ts.length k) e Q
  | _, _ => False
@[simp] theorem okIA_T {Q : Po Nat} : okIA (some (some (.tr z (.lst ts)))) (.fz (.int k)) e Q = okO (ixN ts.length k) e Q := rfl
def kIA (i : Nat) (Q : Po Nat) : Po Rv := fun r e => okIA e[i]? r e Q
@[simp] theorem kIA_eq {Q : Po Nat} : kIA i Q r e = okIA e[i]? r e Q := rfl
@[simp] theorem ok_ixAt {Q : Po Nat} : Ok (ixAt i a e) Q = (isLT e[i]? = true ∧ Ok (a e) (kIA i Q)) := by
  unfold ixAt
  rw [ok_ifd, ok_bind, ok_opd]
  congr 2
  funext r e1
  show Ok (match calmR r, kids e1[i]? with | .fz (.int k), some ts => ofO (ixN ts.length k) e1 | _, _ => (.no : Rs Nat)) Q = okIA e1[i]? r e1 Q
  unfold okIA
  split
  · rw [ok_ofO]
  · rfl
def kMA (f : FM) (i : Nat) (ds : List D) (Q : Po Rv) : Po Nat := fun j e => okO (kidL e[i]? j) e fun xs e => okO (f xs ds) e fun q e => Q (.fz q.1) (setKid e i j (.lst (q.2.map OT.fz)))
@[simp] theorem kMA_eq {Q : Po Rv} : kMA f i ds Q j e = okO (kidL e[i]? j) e fun xs e => okO (f xs ds) e fun q e => Q (.fz q.1) (setKid e i j (.lst (q.2.map OT.fz))) := rfl
@[simp] theorem ok_MAt {Q : Po Rv} : Ok (eMAt f i a ds e) Q = Ok (ixAt i a e) (kMA f i ds Q) := by
  unfold eMAt
  rw [ok_bind]
  congr 1
  funext j e1
  show Ok (match kidL e1[i]? j with | none => (.no : Rs Rv) | some xs => match f xs ds with | none => .no | some (z, xs') => .ok (.fz z) (setKid e1 i j (.lst (xs'.map OT.fz)))) Q = okO (kidL e1[i]? j) e1 _
  cases kidL e1[i]? j with
  | none => rfl
  | some xs =>
    show Ok (match f xs ds with | none => (.no : Rs Rv) | some (z, xs') => .ok (.fz z) (setKid e1 i j (.lst (xs'.map OT.fz)))) Q = okO (f xs ds) e1 fun q e => Q (.fz q.1) (setKid e i j (.lst (q.2.map OT.fz)))
    cases f xs ds with
    | none => rfl
    | some q => rfl
def okCat (o : Option (Option Sv)) (i : Nat) (us : List OT) (e : Env) (Q : Po Fl) : Prop := match o with
  | some (some (.tr false (.lst ts))) => (ts.length + us.length ≤ sizeLine ∧ us.length ≤ sizeLine) ∧ Q .nx (e.set i (some (.tr false (.lst (ts ++ us)))))
  | _ => False
@[simp] theorem okCat_T {Q : Po Fl} : okCat (some (some (.tr false (.lst ts)))) i us e Q = ((ts.length + us.length ≤ sizeLine ∧ us.length ≤ sizeLine) ∧ Q .nx (e.set i (some (.tr false (.lst (ts ++ us)))))) := rfl
def kCat (i : Nat) (Q : Po Fl) : Po (List OT) := fun us e => okCat e[i]? i us e Q
@[simp] theorem kCat_eq {Q : Po Fl} : kCat i Q us e = okCat e[i]? i us e Q := rfl
@[simp] theorem ok_cat {q : Sem1 (List OT)} {Q : Po Fl} : Ok (catS i q e) Q = (isLT e[i]? = true ∧ Ok (q e) (kCat i Q)) := by
  unfold catS
  rw [ok_ifd, ok_bind]
  congr 2
  funext us e1
  show Ok (match e1[i]? with | some (some (.tr false (.lst ts))) => if ts.length + us.length ≤ sizeLine ∧ us.length ≤ sizeLine then .ok .nx (e1.set i (some (.tr false (.lst (ts ++ us))))) else .no | _ => (.no : Rs Fl)) Q = okCat e1[i]? i us e1 Q
  unfold okCat
  split
  · rename_i ts ht
    by_cases hl : ts.length + us.length ≤ sizeLine ∧ us.length ≤ sizeLine
    · rw [if_pos hl]; simp [hl, -szE]
    · rw [if_neg hl]; simp [hl, -szE]
  · rfl
end
end VI
namespace VI
open PySem PySem.Spec PyProof.Rows L2
theorem u1 {k : Nat} {A : Around} (hr : Room k A) : A.units + 1 < cLine := Nat.lt_of_le_of_lt (by omega) (u65 hr)
theorem u64 {k : Nat} {A : Around} (hr : Room k A) : A.units + 64 < cLine := Nat.lt_of_le_of_lt (by omega) (u65 hr)
end VI
set_option Elab.async false
set_option linter.all false
set_option maxRecDepth 100000
set_option maxHeartbeats 8000000
namespace G
open PySem PySem.Spec PyProof.Rows L2 VI
def b_law_cells : St1 := (block [(asgS 2 (eB (on1 lstD) (opds [(slE (eV 0) none (some (eV 1)))]))), (forS (enumE (slE (eV 0) (some (eV 1)) (some (eC (.int 63))))) (tgT [(tgV 3), (tgV 4)]) (block [(setS 2 (bin2 modD (eV 3) (eV 1)) (bin2 addD (bin2 ixD (eV 2) (bin2 modD (eV 3) (eV 1))) (bin2 mulD (eV 4) (bin2 addD (eV 3) (eC (.int 2))))))])), (retS (iteV (tst (bin2 neD (eV 2) (eLst (toDs [])))) (eV 2) (eLst (toDs [(eC (.int 0))]))))])
def m_law_cells : List D → Option Ret := fnF b_law_cells 5
def b_law_box : St1 := (block [(asgS 2 (iteV (tst (bin2 ltD (eV 1) (eB (on1 lenD) (opds [(eV 0)])))) (bin2 ixD (eV 0) (eV 1)) (eC (.int 0)))), (retS (eLst (toDs [(bin2 mulD (eB (on1 absD) (opds [(eV 2)])) (eB (on1 intD) (opds [(bin2 geD (eB (on1 absD) (opds [(eV 2)])) (bin2 powD (eC (.int 10)) (eC (.int 18))))]))), (bin2 addD (bin2 addD (bin2 modD (eV 2) (eC (.int 2305843009213693951))) (bin2 mulD (eC (.int 7919)) (eV 1))) (eC (.int 57))), (eC (.int 0))])))])
def m_law_box : List D → Option Ret := fnF b_law_box 3
def b_law_take (self_law_take : List D → List D → Option (Ret × List D)) : St1 := (block [(ifS (tst (bin2 gtD (bin2 ixD (eV 0) (eC (.int 0))) (eC (.int 0)))) (block [(asgS 3 (bin2 modD (bin2 ixD (eV 0) (eC (.int 0))) (eV 1))), (setS 0 (eC (.int 0)) (bin2 divD (bin2 ixD (eV 0) (eC (.int 0))) (eV 1))), (retS (eV 3))]) (block [])), (ifS (tst (bin2 gtD (eV 1) (bin2 powD (eC (.int 10)) (eC (.int 7))))) (block [(retS (bin2 modD (bin2 addD (eI self_law_take 0 (toDs [(bin2 powD (eC (.int 10)) (eC (.int 7)))])) (bin2 mulD (bin2 powD (eC (.int 10)) (eC (.int 7))) (eI self_law_take 0 (toDs [(bin2 addD (bin2 divD (bin2 subD (eV 1) (eC (.int 1))) (bin2 powD (eC (.int 10)) (eC (.int 7)))) (eC (.int 1)))])))) (eV 1)))]) (block [])), (setS 0 (eC (.int 2)) (bin2 addD (bin2 ixD (eV 0) (eC (.int 2))) (eC (.int 1)))), (asgS 2 (bin2 modD (bin2 powD (bin2 addD (bin2 ixD (eV 0) (eC (.int 1))) (bin2 mulD (eC (.int 39373)) (bin2 ixD (eV 0) (eC (.int 2))))) (eC (.int 5))) (eC (.int 2147483647)))), (retS (bin2 modD (bin2 divD (bin2 modD (bin2 addD (bin2 mulD (eV 2) (bin2 addD (bin2 modD (eV 2) (eC (.int 40009))) (eC (.int 7)))) (bin2 mulD (bin2 ixD (eV 0) (eC (.int 2))) (eC (.int 7919)))) (eC (.int 2147483629))) (eC (.int 64))) (eV 1)))])
def r_law_take : Nat → List D → List D → Option (Ret × List D)
  | 0 => fun _ _ => none
  | d + 1 => fnI (b_law_take (r_law_take d)) 4
def m_law_take : List D → List D → Option (Ret × List D) := r_law_take 60
def b_law_of : St1 := (block [(retS (bin2 ixD (eV 1) (eI m_law_take 0 (toDs [(eB (on1 lenD) (opds [(eV 1)]))]))))])
def m_law_of : List D → List D → Option (Ret × List D) := fnI b_law_of 2
def b_law_two_to : St1 := (block [(asgS 1 (eC (.int 1))), (forS (rng1 (eV 0)) (tgV 2) (block [(asgS 1 (bin2 mulD (eV 1) (eC (.int 2))))])), (retS (eV 1))])
def m_law_two_to : List D → Option Ret := fnF b_law_two_to 3
def b_law_random_line : St1 := (block [(parS [4, 5] [(eLst (toDs [])), (eC (.int 1))]), (forS (rng1 (eI m_law_take 0 (toDs [(bin2 addD (eV 1) (eC (.int 1)))]))) (tgV 3) (block [(asgS 5 (eI m_law_of 0 (toDs [(eLst (toDs [(eV 5), (eV 5), (eV 5), (eV 5), (eC (.int 1)), (eC (.int 3)), (eC (.int 5)), (bin2 addD (bin2 powD (eC (.int 10)) (eC (.int 17))) (eC (.int 1)))]))]))), (asgS 6 (iteV (tst (bin2 ltD (eV 5) (eC (.int 9)))) (eI m_law_take 0 (toDs [(bin2 addD (eV 2) (eC (.int 1)))])) (eI m_law_take 0 (toDs [(bin2 addD (eB (on2 min2D) (opds [(eV 2), (eC (.int 70))])) (eC (.int 1)))])))), (exprS (eM fmApp 4 (toDs [(bin2 mulD (eV 5) (eF m_law_two_to (toDs [(eV 6)])))])))])), (retS (eB (on1 tupD) (opds [(eV 4)])))])
def m_law_random_line : List D → List D → Option (Ret × List D) := fnI b_law_random_line 7
def b_law_moves : St1 := (block [(asgS 1 (eLst (toDs []))), (forS (enumE (eV 0)) (tgT [(tgV 2), (tgV 3)]) (block [(ifS (tst (bin2 eqD (slE (eV 0) (some (bin2 addD (eV 2) (eC (.int 1)))) (some (bin2 addD (eV 2) (eC (.int 2))))) (eTup (toDs [(eV 3)])))) (block [(exprS (eM fmApp 1 (toDs [(eTup (toDs [(eTup (toDs [(eC (.str "join")), (eV 2)])), (bin2 addD (bin2 addD (slE (eV 0) none (some (eV 2))) (eTup (toDs [(bin2 mulD (eC (.int 2)) (eV 3))]))) (slE (eV 0) (some (bin2 addD (eV 2) (eC (.int 2)))) none))]))])))]) (block [])), (ifS (tst (bin2 eqD (bin2 modD (eV 3) (eC (.int 2))) (eC (.int 0)))) (block [(exprS (eM fmApp 1 (toDs [(eTup (toDs [(eTup (toDs [(eC (.str "split")), (eV 2)])), (bin2 addD (bin2 addD (slE (eV 0) none (some (eV 2))) (eTup (toDs [(bin2 divD (eV 3) (eC (.int 2))), (bin2 divD (eV 3) (eC (.int 2)))]))) (slE (eV 0) (some (bin2 addD (eV 2) (eC (.int 1)))) none))]))])))]) (block []))])), (retS (eV 1))])
def m_law_moves : List D → Option Ret := fnF b_law_moves 4
def b_joins : St1 := (block [(retS (lcS (rng1 (bin2 subD (eB (on1 lenD) (opds [(eV 0)])) (eC (.int 1)))) (tgV 1) (tst (bin2 eqD (bin2 ixD (eV 0) (eV 1)) (bin2 ixD (eV 0) (bin2 addD (eV 1) (eC (.int 1)))))) (eV 1) [1]))])
def m_joins : List D → Option Ret := fnF b_joins 2
def b_splits : St1 := (block [(retS (lcS (enumE (eV 0)) (tgT [(tgV 1), (tgV 2)]) (tst (bin2 eqD (bin2 modD (eV 2) (eC (.int 2))) (eC (.int 0)))) (eV 1) [1, 2]))])
def m_splits : List D → Option Ret := fnF b_splits 3
def b_law_same (self_law_same : List D → Option Ret) : St1 := (block [(ifS (tst (un1 (isD [isLstB, isTupB]) (eV 1))) (block [(ifS (orT (tst (bin2 neD (un1 (isD [isLstB]) (eV 0)) (un1 (isD [isLstB]) (eV 1)))) (tst (bin2 neD (un1 (isD [isTupB]) (eV 0)) (un1 (isD [isTupB]) (eV 1))))) (block [(retS (eC (.bool false)))]) (block [])), (retS (andV (bin2 eqD (eB (on1 lenD) (opds [(eV 0)])) (eB (on1 lenD) (opds [(eV 1)]))) (eB (on1 allD) (opds [(lcS (zipE (eV 0) (eV 1)) (tgT [(tgV 2), (tgV 3)]) yesT (eF self_law_same (toDs [(eV 2), (eV 3)])) [2, 3])]))))]) (block [])), (ifS (orT (tst (bin2 isND (eV 1) (eC .none))) (tst (un1 (isD [isStrB, isBoolB]) (eV 1)))) (block [(retS (andV (bin2 eqD (eV 0) (eV 1)) (andV (bin2 eqD (un1 (isD [isBoolB]) (eV 0)) (un1 (isD [isBoolB]) (eV 1))) (bin2 eqD (bin2 isND (eV 0) (eC .none)) (bin2 isND (eV 1) (eC .none))))))]) (block [])), (retS (andV (un1 (isD [isIntB]) (eV 0)) (andV (notV (un1 (isD [isBoolB]) (eV 0))) (bin2 eqD (eV 0) (eV 1)))))])
def r_law_same : Nat → List D → Option Ret
  | 0 => fun _ => none
  | d + 1 => fnF (b_law_same (r_law_same d)) 4
def m_law_same : List D → Option Ret := r_law_same 60
def b_joined : St1 := (block [(ifS (notT (tst (chain2 leD ltD (eC (.int 0)) (eV 1) (bin2 subD (eB (on1 lenD) (opds [(eV 0)])) (eC (.int 1)))))) (block [noS]) (block [])), (ifS (tst (bin2 neD (bin2 ixD (eV 0) (eV 1)) (bin2 ixD (eV 0) (bin2 addD (eV 1) (eC (.int 1)))))) (block [noS]) (block [])), (retS (bin2 addD (bin2 addD (eB (on1 tupD) (opds [(slE (eV 0) none (some (eV 1)))])) (eTup (toDs [(bin2 mulD (eC (.int 2)) (bin2 ixD (eV 0) (eV 1)))]))) (eB (on1 tupD) (opds [(slE (eV 0) (some (bin2 addD (eV 1) (eC (.int 2)))) none)]))))])
def m_joined : List D → Option Ret := fnF b_joined 2
def b_halved : St1 := (block [(ifS (notT (tst (chain2 leD ltD (eC (.int 0)) (eV 1) (eB (on1 lenD) (opds [(eV 0)]))))) (block [noS]) (block [])), (ifS (tst (bin2 eqD (bin2 modD (bin2 ixD (eV 0) (eV 1)) (eC (.int 2))) (eC (.int 1)))) (block [noS]) (block [])), (retS (bin2 addD (bin2 addD (eB (on1 tupD) (opds [(slE (eV 0) none (some (eV 1)))])) (bin2 mulD (eTup (toDs [(bin2 divD (bin2 ixD (eV 0) (eV 1)) (eC (.int 2)))])) (eC (.int 2)))) (eB (on1 tupD) (opds [(slE (eV 0) (some (bin2 addD (eV 1) (eC (.int 1)))) none)]))))])
def m_halved : List D → Option Ret := fnF b_halved 2
def b_law_right_v35 : St1 := (block [(asgS 1 (eI m_law_random_line 0 (toDs [(eC (.int 16)), (eI m_law_of 0 (toDs [(eLst (toDs [(eC (.int 1)), (eC (.int 3)), (eC (.int 125))]))]))]))), (ifS (andT (tst (bin2 eqD (eI m_law_take 0 (toDs [(eC (.int 2))])) (eC (.int 0)))) (tst (bin2 neD (eV 1) (eTup (toDs []))))) (block [(asgS 1 (slE (bin2 addD (eV 1) (bin2 mulD (slE (eV 1) (some (un1 negD (eC (.int 1)))) none) (eI m_law_take 0 (toDs [(eC (.int 4))])))) none (some (eC (.int 16)))))]) (block [])), (parS [4, 5, 6] [(eB (on1 reprD) (opds [(eV 1)])), (eB (on1 lstD) (opds [(eV 1)])), (eF m_law_moves (toDs [(eV 1)]))]), (asgS 2 (lcS (srcE (eTup (toDs [(eC (.str "join")), (eC (.str "split"))]))) (tgV 9) yesT (lcS (srcE (eV 6)) (tgT [(tgV 7), (tgV 8)]) (tst (bin2 eqD (bin2 ixD (eV 7) (eC (.int 0))) (eV 9))) (bin2 ixD (eV 7) (eC (.int 1))) [7, 8]) [9])), (asgN 3 (nLst (news [(nv (eF m_joins (toDs [(eV 1)]))), (nv (eF m_splits (toDs [(eV 1)])))]))), (ifS (orT (notT (lentT (tst (eF m_law_same (toDs [(eV 3), (eV 2)]))))) (notT (tst (eF m_law_same (toDs [(eLst (toDs [(eFK m_joins [0] 1 (toDs [(eV 5)])), (eFK m_splits [0] 1 (toDs [(eV 5)]))])), (eV 2)]))))) (block [(retS (eC (.bool false)))]) (block [])), (exprS (eMAt fmApp 3 (eC (.int 0)) [.str "more"])), (exprS (eMAt fmRev 3 (eC (.int 1)) [])), (ifS (notT (tst (eF m_law_same (toDs [(eLst (toDs [(eF m_joins (toDs [(eV 1)])), (eF m_splits (toDs [(eV 1)]))])), (eV 2)])))) (block [(retS (eC (.bool false)))]) (block [])), (forS (srcE (eV 6)) (tgT [(tgV 7), (tgV 8)]) (block [(ifS (tst (bin2 eqD (bin2 ixD (eV 7) (eC (.int 0))) (eC (.str "join")))) (block [(asgS 10 (eLst (toDs [(eF m_joined (toDs [(eV 1), (bin2 ixD (eV 7) (eC (.int 1)))])), (eFK m_joined [1, 0] 2 (toDs [(bin2 ixD (eV 7) (eC (.int 1))), (eV 5)]))])))]) (block [(asgS 10 (eLst (toDs [(eF m_halved (toDs [(eV 1), (bin2 ixD (eV 7) (eC (.int 1)))])), (eFK m_halved [1, 0] 2 (toDs [(bin2 ixD (eV 7) (eC (.int 1))), (eV 5)]))])))])), (ifS (notT (tst (eF m_law_same (toDs [(eV 10), (eLst (toDs [(eV 8), (eV 8)]))])))) (block [(retS (eC (.bool false)))]) (block []))])), (retS (andV (bin2 eqD (eB (on1 reprD) (opds [(eV 1)])) (eV 4)) (bin2 eqD (eB (on1 tupD) (opds [(eV 5)])) (eV 1))))])
def m_law_right_v35 : List D → List D → Option (Ret × List D) := fnI b_law_right_v35 11
def b_law_v36 : St1 := (block [(asgS 1 (eF m_law_cells (toDs [(eV 0), (eC (.int 3))]))), (forS (rng1 (eB (on1 lenD) (opds [(eV 1)]))) (tgV 2) (block [(asgS 3 (eF m_law_box (toDs [(eV 1), (eV 2)]))), (ifS (notT (tst (eB (on1 allD) (opds [(lcS (rng1 (eC (.int 4))) (tgV 4) yesT (eI m_law_right_v35 3 (toDs [])) [4])])))) (block [(retS (eC (.bool false)))]) (block []))])), (retS (eC (.bool true)))])
def m_law_v36 : List D → Option Ret := fnF b_law_v36 5
end G
set_option Elab.async false
set_option linter.all false
set_option maxRecDepth 100000
set_option maxHeartbeats 8000000
namespace G
open PySem PySem.Spec PyProof.Rows L2 VI
def b_as_blocks : St1 := (block [(asgS 1 (eLst (toDs []))), (forS (srcE (eV 0)) (tgT [(tgV 2), (tgV 3)]) (block [(ifS (andT (tst (bin2 gtD (eB (on1 lenD) (opds [(eV 1)])) (eC (.int 0)))) (tst (bin2 eqD (bin2 ixD (bin2 ixD (eV 1) (un1 negD (eC (.int 1)))) (eC (.int 0))) (eV 2)))) (block [(setS 1 (un1 negD (eC (.int 1))) (eTup (toDs [(eV 2), (bin2 addD (bin2 ixD (bin2 ixD (eV 1) (un1 negD (eC (.int 1)))) (eC (.int 1))) (eV 3))])))]) (block [(ifS (tst (bin2 gtD (eV 3) (eC (.int 0)))) (block [(exprS (eM fmApp 1 (toDs [(eTup (toDs [(eV 2), (eV 3)]))])))]) (block []))]))])), (retS (eV 1))])
def m_as_blocks : List D → Option Ret := fnF b_as_blocks 4
def b_units_of : St1 := (block [(retS (bin2 andD (eV 0) (un1 negD (eV 0))))])
def m_units_of : List D → Option Ret := fnF b_units_of 1
def b_odd_of : St1 := (block [(retS (bin2 divD (eV 0) (eF m_units_of (toDs [(eV 0)]))))])
def m_odd_of : List D → Option Ret := fnF b_odd_of 1
def b_odd_word : St1 := (block [(retS (eF m_as_blocks (toDs [(lcS (srcE (eV 0)) (tgV 1) yesT (eTup (toDs [(eF m_odd_of (toDs [(eV 1)])), (eF m_units_of (toDs [(eV 1)]))])) [1])])))])
def m_odd_word : List D → Option Ret := fnF b_odd_word 2
end G
set_option Elab.async false
set_option linter.all false
set_option maxRecDepth 100000
set_option maxHeartbeats 4000000
namespace G
open PySem PySem.Spec PyProof.Rows L2 VI Builtin.Int
theorem mulOk_of {i j : Int} {m n : Nat} (h : intBits i ≤ m) (h' : intBits j ≤ n) (hmn : m + n ≤ 134217728) : mulOk i j = true := decide_eq_true (by omega)
theorem bits_lt {i : Int} {m : Nat} (h : i.natAbs < 2 ^ m) : intBits i ≤ m := intBits_le_iff.mpr h
theorem mulOk_64 {i j : Int} (h : i.natAbs < 2 ^ 64) (h' : j.natAbs < 2 ^ 64) : mulOk i j = true := mulOk_of (bits_lt h) (bits_lt h') (by omega)
theorem divOk_of {j : Int} (h0 : 0 < j) (h : j.natAbs < 2 ^ 9000) : divOk j = true := by
  unfold divOk
  rw [decide_eq_true h0, Bool.true_and]
  refine decide_eq_true ((Nat.log2_lt (by omega)).mpr h)
theorem divOk_64 {j : Int} (h0 : 0 < j) (h : j.natAbs < 2 ^ 64) : divOk j = true := divOk_of h0 (Nat.lt_of_lt_of_le h (Nat.pow_le_pow_right (by omega) (by omega)))
theorem powOk_of {i j : Int} (h0 : 0 ≤ j) (h1 : j ≤ 1000000) (h : i.natAbs < 2 ^ 64) : powOk i j = true := by
  unfold powOk
  rw [decide_eq_true h0, decide_eq_true h1, decide_eq_true h]; rfl
/-- a source of draws; at most n were made -/
def Bx (n : Nat) (b : List D) : Prop := ∃ a s c : Int, b = [.int a, .int s, .int c] ∧ 0 ≤ a ∧ 0 ≤ s ∧ s ≤ 2 ^ 62 ∧ 0 ≤ c ∧ c ≤ n
theorem Bx.mono {n m : Nat} {b : List D} (h : Bx n b) (k : n ≤ m) : Bx m b := by
  obtain ⟨a, s, c, h1, h2, h3, h4, h5, h6⟩ := h
  exact ⟨a, s, c, h1, h2, h3, h4, h5, by omega⟩
/-- a draw: within its span -/
def Drawn (n : Nat) (span : Int) (r : Rv) (b : List D) : Prop := ∃ v : Int, r = .fz (.int v) ∧ 0 ≤ v ∧ v < span ∧ Bx n b
theorem divOk_lt {j : Int} (h : divOk j = true) : 0 < j ∧ j.natAbs.log2 < 9000 := by
  unfold divOk at h
  rw [Bool.and_eq_true] at h
  exact ⟨of_decide_eq_true h.1, of_decide_eq_true h.2⟩
theorem log2_le {i j : Nat} (h0 : i ≠ 0) (h : i ≤ j) : i.log2 ≤ j.log2 := (Nat.le_log2 (by omega)).mpr (Nat.le_trans (Nat.log2_self_le h0) h)
theorem divOk_le {i j : Int} (h0 : 0 < i) (h : i ≤ j) (hj : divOk j = true) : divOk i = true := by
  have h1 := divOk_lt hj
  have h2 := log2_le (i := i.natAbs) (j := j.natAbs) (by omega) (by omega)
  unfold divOk
  rw [decide_eq_true h0, Bool.true_and]
  exact decide_eq_true (by omega)
theorem bits_log {j : Int} {m : Nat} (h : j.natAbs.log2 < m) : intBits j ≤ m := by
  unfold intBits
  split <;> omega
theorem mulOk_div {i j : Int} (hi : i.natAbs < 2 ^ 64) (h0 : 0 ≤ j) {k : Int} (h : j < k) (hk : divOk k = true) : mulOk i j = true := by
  have h1 := divOk_lt hk
  have hj : intBits j ≤ 9000 := by
    by_cases hz : j = 0
    · subst hz; show (0 : Nat) ≤ 9000; omega
    · exact bits_log (Nat.lt_of_le_of_lt (log2_le (i := j.natAbs) (j := k.natAbs) (by omega) (by omega)) h1.2)
  have hi2 : intBits i ≤ 64 := bits_lt hi
  unfold mulOk
  exact decide_eq_true (by omega)
end G
set_option Elab.async false
set_option linter.all false
set_option maxRecDepth 100000
set_option maxHeartbeats 4000000
namespace N
/-- how often a number can be halved -/
def tz (n : Nat) : Nat := if h : n = 0 then 0 else if n % 2 = 0 then tz (n / 2) + 1 else 0
termination_by n
decreasing_by omega
theorem tz_odd {n : Nat} (h : n % 2 = 1) : tz n = 0 := by
  unfold tz
  rw [dif_neg (by omega), if_neg (by omega)]
theorem tz_even {n : Nat} (h0 : n ≠ 0) (h : n % 2 = 0) : tz n = tz (n / 2) + 1 := by
  rw [tz, dif_neg h0, if_pos h]
def un (n : Nat) : Nat := 2 ^ tz n
def od (n : Nat) : Nat := n / un n
theorem un_pos (n : Nat) : 0 < un n := Nat.pow_pos (by omega)
theorem un_odd {n : Nat} (h : n % 2 = 1) : un n = 1 := by unfold un; rw [tz_odd h]
theorem un_even {n : Nat} (h0 : n ≠ 0) (h : n % 2 = 0) : un n = 2 * un (n / 2) := by unfold un; rw [tz_even h0 h, Nat.pow_succ]; omega
theorem un_dvd : ∀ (n : Nat), un n ∣ n := by
  intro n
  induction n using Nat.strongRecOn with
  | ind n ih =>
    by_cases h0 : n = 0
    · subst h0; exact Nat.dvd_zero _
    · by_cases h : n % 2 = 0
      · rw [un_even h0 h]
        obtain ⟨c, hc⟩ := ih (n / 2) (by omega)
        exact ⟨c, by rw [Nat.mul_assoc, ← hc]; omega⟩
      · rw [un_odd (by omega)]; exact Nat.one_dvd _
theorem od_un (n : Nat) : od n * un n = n := Nat.div_mul_cancel (un_dvd n)
theorem od_odd : ∀ {n : Nat}, n ≠ 0 → od n % 2 = 1 := by
  intro n
  induction n using Nat.strongRecOn with
  | ind n ih =>
    intro h0
    by_cases h : n % 2 = 0
    · have h1 := ih (n / 2) (by omega) (by omega)
      unfold od at h1 ⊢
      rw [un_even h0 h, ← Nat.div_div_eq_div_mul]
      exact h1
    · unfold od
      rw [un_odd (by omega), Nat.div_one]; omega
theorem od_pos {n : Nat} (h : n ≠ 0) : 0 < od n := by have := od_odd h; omega
theorem un_le {n : Nat} (h : n ≠ 0) : un n ≤ n := Nat.le_of_dvd (by omega) (un_dvd n)
theorem od_le (n : Nat) : od n ≤ n := Nat.div_le_self _ _
/-- the two parts are told by their product -/
theorem un_of {m k : Nat} (hm : m % 2 = 1) : un (2 ^ k * m) = 2 ^ k ∧ od (2 ^ k * m) = m := by
  have key : un (2 ^ k * m) = 2 ^ k := by
    induction k with
    | zero => rw [Nat.pow_zero, Nat.one_mul, un_odd hm]
    | succ k ih =>
      have e : 2 ^ (k + 1) * m = 2 * (2 ^ k * m) := by rw [Nat.pow_succ, Nat.mul_comm (2 ^ k) 2, Nat.mul_assoc]
      have hp : 0 < 2 ^ k * m := Nat.mul_pos (Nat.pow_pos (by omega)) (by omega)
      rw [e, un_even (by omega) (by omega), show 2 * (2 ^ k * m) / 2 = 2 ^ k * m by omega, ih, Nat.pow_succ]; omega
  refine ⟨key, ?_⟩
  unfold od
  rw [key, Nat.mul_comm, Nat.mul_div_cancel _ (Nat.pow_pos (by omega))]
open PySem in
theorem bitAnd_un {n : Nat} (h : n ≠ 0) : Builtin.bitAnd (n : Int) (-(n : Int)) = ((un n : Nat) : Int) := by
  have h1 := od_odd h
  have h2 := od_un n
  have e : ((n : Nat) : Int) = 2 ^ tz n * (2 * ((od n / 2 : Nat) : Int) + 1) := by
    have h3 : od n = 2 * (od n / 2) + 1 := by omega
    have h4 : n = 2 ^ tz n * (2 * (od n / 2) + 1) := by
      rw [← h3, Nat.mul_comm]; exact h2.symm
    conv => lhs; rw [h4]
    simp
  rw [e, PySem.W.kbt_low]
  unfold un
  simp
theorem pow_dvd {n j : Nat} (h : n ≠ 0) : 2 ^ j ∣ n ↔ j ≤ tz n := by
  constructor
  · intro hd
    by_cases hj : j ≤ tz n
    · exact hj
    · exfalso
      have h1 : 2 ^ (tz n + 1) ∣ n := Nat.dvd_trans (Nat.pow_dvd_pow 2 (by omega)) hd
      obtain ⟨c, hc⟩ := h1
      have h2 := od_un n
      have h3 := od_odd h
      unfold un at h2
      have h4 : 2 ^ tz n * od n = 2 ^ tz n * (2 * c) := by rw [Nat.mul_comm, h2, ← Nat.mul_assoc, ← Nat.pow_succ]; exact hc
      have := Nat.eq_of_mul_eq_mul_left (Nat.pow_pos (by omega)) h4
      omega
  · intro hj
    exact Nat.dvd_trans (Nat.pow_dvd_pow 2 hj) (un_dvd n)
theorem tz_lt {n B : Nat} (h0 : n ≠ 0) (h : n < 2 ^ B) : tz n < B := by
  have h1 : un n < 2 ^ B := Nat.lt_of_le_of_lt (un_le h0) h
  unfold un at h1
  exact (Nat.pow_lt_pow_iff_right (by omega)).mp h1
/-- one more pair behind those found -/
def push (acc : List (Nat × Nat)) (p : Nat × Nat) : List (Nat × Nat) := match acc.getLast? with
  | some q => if q.1 = p.1 then acc.dropLast ++ [(p.1, q.2 + p.2)] else if 0 < p.2 then acc ++ [p] else acc
  | none => if 0 < p.2 then acc ++ [p] else acc
def blk (ps : List (Nat × Nat)) : List (Nat × Nat) := ps.foldl push []
def word (row : List Nat) : List (Nat × Nat) := blk (row.map fun x => (od x, un x))
/-- stones of the common beginning -/
def barN : List (Nat × Nat) → List (Nat × Nat) → Nat
  | p :: a, q :: b => if p.1 ≠ q.1 then 0 else if p.2 ≠ q.2 then p.1 * min p.2 q.2 else p.1 * p.2 + barN a b
  | _, _ => 0
def bar (one other : List Nat) : Option Nat := if word one = word other then none else some (barN (word one) (word other))
end N
set_option Elab.async false
set_option linter.all false
set_option maxRecDepth 100000
set_option maxHeartbeats 4000000
namespace G
open PySem PySem.Spec PyProof.Rows L2 VI Builtin.Int
theorem bitsN {n B : Nat} (h : n < 2 ^ B) : intBits (n : Int) ≤ B := bits_lt (by rw [Int.natAbs_natCast]; exact h)
theorem divOkN {n B : Nat} (h0 : n ≠ 0) (h : n < 2 ^ B) (hB : B ≤ 9000) : divOk (n : Int) = true := divOk_of (by omega) (by rw [Int.natAbs_natCast]; exact Nat.lt_of_lt_of_le h (Nat.pow_le_pow_right (by omega) hB))
theorem mulOkN {m n A B : Nat} (h : m < 2 ^ A) (h' : n < 2 ^ B) (hB : A + B ≤ 100000000) : mulOk (m : Int) (n : Int) = true := mulOk_of (bitsN h) (bitsN h') (by omega)
theorem units_of_ok {n : Nat} (h : n ≠ 0) : m_units_of [.int (n : Int)] = some (.ok (.fz (.int ((N.un n : Nat) : Int)))) := by
  refine fnF_is ?_
  have e : andD (.int (n : Int)) (.int (-(n : Int))) = some (.fz (.int ((N.un n : Nat) : Int))) := by
    rw [← N.bitAnd_un h]; rfl
  simp -implicitDefEqProofs [b_units_of, e]
theorem odd_of_ok {n B : Nat} (h : n ≠ 0) (hb : n < 2 ^ B) (hB : B ≤ 9000) : m_odd_of [.int (n : Int)] = some (.ok (.fz (.int ((N.od n : Nat) : Int)))) := by
  refine fnF_is ?_
  have hd : divOk ((N.un n : Nat) : Int) = true := divOkN (by have := N.un_pos n; omega) (Nat.lt_of_le_of_lt (N.un_le h) hb) hB
  simp -implicitDefEqProofs [b_odd_of, units_of_ok h, hd]
  rfl
end G
set_option Elab.async false
set_option linter.all false
set_option maxRecDepth 100000
set_option maxHeartbeats 4000000
namespace N
theorem push_nil (p : Nat × Nat) : push [] p = if 0 < p.2 then [p] else [] := rfl
theorem push_last (l : List (Nat × Nat)) (q p : Nat × Nat) : push (l ++ [q]) p = if q.1 = p.1 then l ++ [(p.1, q.2 + p.2)] else if 0 < p.2 then l ++ [q] ++ [p] else l ++ [q] := by
  unfold push
  rw [List.getLast?_append]
  simp
theorem blk_len : ∀ (ps acc : List (Nat × Nat)), (ps.foldl push acc).length ≤ acc.length + ps.length
  | [], acc => by simp
  | p :: ps, acc => by
    have h := blk_len ps (push acc p)
    have h2 : (push acc p).length ≤ acc.length + 1 := by
      rcases List.eq_nil_or_concat acc with rfl | ⟨l, q, rfl⟩
      · rw [push_nil]; split <;> simp
      · rw [List.concat_eq_append, push_last]
        split
        · simp
        · split <;> simp
    simp only [List.foldl_cons, List.length_cons]; omega
theorem barN_cons (p q : Nat × Nat) (a b : List (Nat × Nat)) : barN (p :: a) (q :: b) = if p.1 ≠ q.1 then 0 else if p.2 ≠ q.2 then p.1 * min p.2 q.2 else p.1 * p.2 + barN a b := rfl
theorem barN_nil (a : List (Nat × Nat)) : barN a [] = 0 := by cases a <;> rfl
def sum2 (l : List (Nat × Nat)) : Nat := (l.map (·.2)).sum
theorem sum2_append (a b : List (Nat × Nat)) : sum2 (a ++ b) = sum2 a + sum2 b := by unfold sum2; rw [List.map_append, List.sum_append]
theorem push_cases (acc : List (Nat × Nat)) (p : Nat × Nat) : (∃ l q, acc = l ++ [q] ∧ q.1 = p.1 ∧ push acc p = l ++ [(p.1, q.2 + p.2)]) ∨ push acc p = acc ++ [p] ∨ (p.2 = 0 ∧ push acc p = acc) := by
  rcases List.eq_nil_or_concat acc with rfl | ⟨l, q, rfl⟩
  · rw [push_nil]
    by_cases h : 0 < p.2
    · rw [if_pos h]; exact .inr (.inl rfl)
    · rw [if_neg h]; exact .inr (.inr ⟨by omega, rfl⟩)
  · rw [List.concat_eq_append, push_last]
    by_cases hq : q.1 = p.1
    · rw [if_pos hq]; exact .inl ⟨l, q, rfl, hq, rfl⟩
    · rw [if_neg hq]
      by_cases h : 0 < p.2
      · rw [if_pos h]; exact .inr (.inl rfl)
      · rw [if_neg h]; exact .inr (.inr ⟨by omega, rfl⟩)
theorem push_sum (acc : List (Nat × Nat)) (p : Nat × Nat) : sum2 (push acc p) = sum2 acc + p.2 := by
  rcases push_cases acc p with ⟨l, q, rfl, h, e⟩ | e | ⟨h, e⟩
  · rw [e, sum2_append, sum2_append]; simp [sum2]; omega
  · rw [e, sum2_append]; simp [sum2]
  · rw [e, h]; omega
theorem blk_sum : ∀ (ps acc : List (Nat × Nat)), sum2 (ps.foldl push acc) = sum2 acc + sum2 ps
  | [], acc => by simp [sum2]
  | p :: ps, acc => by
    rw [List.foldl_cons, blk_sum ps, push_sum]
    simp [sum2]; omega
theorem blk_fst : ∀ (ps acc : List (Nat × Nat)) (P : Nat → Prop), (∀ p ∈ acc, P p.1) → (∀ p ∈ ps, P p.1) → ∀ p ∈ ps.foldl push acc, P p.1
  | [], acc, P, h, _ => h
  | p :: ps, acc, P, h, h2 => by
    rw [List.foldl_cons]
    refine blk_fst ps _ P ?_ (fun q hq => h2 q (List.mem_cons_of_mem _ hq))
    have hp := h2 p List.mem_cons_self
    rcases push_cases acc p with ⟨l, q, rfl, hq, e⟩ | e | ⟨_, e⟩
    · rw [e]
      intro x hx
      rcases List.mem_append.mp hx with hx | hx
      · exact h x (List.mem_append_left _ hx)
      · rw [List.mem_singleton.mp hx]; exact hp
    · rw [e]
      intro x hx
      rcases List.mem_append.mp hx with hx | hx
      · exact h x hx
      · rw [List.mem_singleton.mp hx]; exact hp
    · rw [e]; exact h
theorem mem_sum2 {l : List (Nat × Nat)} {p : Nat × Nat} (h : p ∈ l) : p.2 ≤ sum2 l := by
  induction l with
  | nil => cases h
  | cons q l ih =>
    have e : sum2 (q :: l) = q.2 + sum2 l := by simp [sum2]
    rcases List.mem_cons.mp h with rfl | h
    · omega
    · have := ih h; omega
theorem sum_un {B : Nat} : ∀ {r : List Nat}, (∀ x ∈ r, x ≠ 0) → (∀ x ∈ r, x < 2 ^ B) → sum2 (r.map fun x => (od x, un x)) ≤ r.length * 2 ^ B
  | [], _, _ => by simp [sum2]
  | x :: r, h, h2 => by
    have ih := sum_un (r := r) (fun y hy => h y (List.mem_cons_of_mem _ hy)) (fun y hy => h2 y (List.mem_cons_of_mem _ hy))
    have h3 := un_le (h x List.mem_cons_self)
    have h4 := h2 x List.mem_cons_self
    have e : sum2 ((x :: r).map fun x => (od x, un x)) = un x + sum2 (r.map fun x => (od x, un x)) := by simp [sum2]
    rw [e, List.length_cons, Nat.add_mul]; omega
theorem word_small {B : Nat} {r : List Nat} (h : ∀ x ∈ r, x ≠ 0) (h2 : ∀ x ∈ r, x < 2 ^ B) (hl : r.length ≤ 1000000) : ∀ p ∈ word r, p.1 < 2 ^ B ∧ p.2 < 2 ^ (B + 20) := by
  intro p hp
  refine ⟨blk_fst _ [] (fun s => s < 2 ^ B) (by simp) ?_ p hp, ?_⟩
  · intro q hq
    obtain ⟨x, hx, rfl⟩ := List.mem_map.mp hq
    exact Nat.lt_of_le_of_lt (od_le x) (h2 x hx)
  · have h3 := mem_sum2 hp
    have h4 : sum2 (word r) = 0 + sum2 (r.map fun x => (od x, un x)) := blk_sum _ []
    have h5 := sum_un h h2
    have h6 : r.length * 2 ^ B ≤ 1000000 * 2 ^ B := Nat.mul_le_mul_right _ hl
    have h7 : 0 < 2 ^ B := Nat.pow_pos (by omega)
    rw [Nat.pow_add]
    omega
end N
namespace G
open PySem PySem.Spec PyProof.Rows L2 VI Builtin.Int
theorem nil_or_last {α : Type} (l : List α) : l = [] ∨ ∃ k x, l = k ++ [x] := by
  rcases List.eq_nil_or_concat l with h | ⟨k, x, h⟩
  · exact .inl h
  · exact .inr ⟨k, x, by rw [h, List.concat_eq_append]⟩
theorem takeS {α : Type} {l : List α} {i : Nat} (h : i < l.length) : l.take (i + 1) = l.take i ++ [l[i]] := by
  rw [List.take_succ, List.getElem?_eq_getElem h]; rfl
theorem szl {k : Nat} (h : k ≤ 16000000) : k ≤ sizeLine := by rw [sizeLine_eq]; omega
theorem szlt {k : Nat} (h : k < 16000000) : k < sizeLine := by rw [sizeLine_eq]; omega
theorem as_blocks_ok (ps : List (Nat × Nat)) (hl : ps.length ≤ 1000000) : m_as_blocks [.list (ps.map nP)] = some (.ok (.fresh ((N.blk ps).map nP))) := by
  refine fnF_is ?_
  simp -implicitDefEqProofs [b_as_blocks]
  refine for_okN (fun i e => ∃ w2 w3, e = [some (.fz (.list (ps.map nP))), some (.own (((ps.take i).foldl N.push []).map nP)), w2, w3] ∧ Fr w2 ∧ Fr w3) ⟨none, none, by simp, by simp, by simp⟩ ?_ ?_
  · rintro i d e hd ⟨w2, w3, rfl, h2, h3⟩
    have hi : i < ps.length := by
      have := (List.getElem?_eq_some_iff.mp hd).1
      simpa using this
    have hd : nP ps[i] = d := by rw [getP hi] at hd; exact Option.some.inj hd
    subst hd
    have hlen := N.blk_len (ps.take i) []
    rw [List.length_take] at hlen
    rw [takeS hi, List.foldl_append]
    simp only [List.foldl_cons, List.foldl_nil]
    generalize (ps.take i).foldl N.push [] = acc at hlen ⊢
    generalize ps[i] = p
    obtain ⟨s, m⟩ := p
    have hs : acc.length < 16777216 := by simp at hlen; omega
    refine ⟨_, tgT2_fr rfl h2 rfl h3, ?_⟩
    rcases nil_or_last acc with rfl | ⟨l, ⟨s', m'⟩, rfl⟩
    · rw [N.push_nil]
      by_cases hm : 0 < m
      · simp -implicitDefEqProofs [hm]
        exact ⟨_, _, ⟨rfl, rfl⟩, by simp, by simp⟩
      · simp -implicitDefEqProofs [hm]
        exact ⟨_, _, ⟨rfl, rfl⟩, by simp, by simp⟩
    · rw [N.push_last]
      have ha := atLast (l := l.map nP) (x := nP (s', m'))
      by_cases hss : s' = s
      · subst hss
        simp -implicitDefEqProofs [ha]
        rw [ixLast]
        have e := setLast (l := l.map nP) (x := nP (s', m')) (y := PyData.tuple [PyData.int s', PyData.int (m' + m)])
        rw [List.length_map] at e
        refine ⟨_, _, ⟨?_, rfl, rfl⟩, by simp, by simp⟩
        rw [e]
        simp [nP]
      · have : ¬ ((s' : Int) = (s : Int)) := by omega
        by_cases hm : 0 < m
        · simp -implicitDefEqProofs [hm, ha, hss, this]
          rw [if_pos (by simp at hs; omega)]
          exact ⟨_, _, ⟨rfl, rfl, rfl⟩, by simp, by simp⟩
        · simp -implicitDefEqProofs [hm, ha, hss, this]
          exact ⟨_, _, ⟨rfl, rfl⟩, by simp, by simp⟩
  · rintro e ⟨w2, w3, rfl, h2, h3⟩
    simp -implicitDefEqProofs
    rfl
end G
set_option Elab.async false
set_option linter.all false
set_option maxRecDepth 100000
set_option maxHeartbeats 4000000
namespace G
open PySem PySem.Spec PyProof.Rows L2 VI Builtin.Int
/-- a row of heaps of few bits -/
structure Rw (B L : Nat) (r : List Nat) : Prop where
  pos : ∀ x ∈ r, x ≠ 0
  lt : ∀ x ∈ r, x < 2 ^ B
  len : r.length ≤ L
theorem Rw.mono {B B' L L' : Nat} {r : List Nat} (h : Rw B L r) (hB : B ≤ B') (hL : L ≤ L') : Rw B' L' r := ⟨h.pos, fun x hx => Nat.lt_of_lt_of_le (h.lt x hx) (Nat.pow_le_pow_right (by omega) hB), Nat.le_trans h.len hL⟩
/-- a row as a tuple or as a list -/
def RowD (r : List Nat) (d : D) : Prop := d = .tuple (r.map nI) ∨ d = .list (r.map nI)
theorem odd_word_ok {B : Nat} {r : List Nat} {d : D} (hr : Rw B 1000000 r) (hB : B ≤ 9000) (hd : RowD r d) : m_odd_word [d] = some (.ok (.fresh ((N.word r).map nP))) := by
  refine fnF_is ?_
  have key : ∀ w1 : D, kLc (tgV 1) yesT (eTup (toDs [(eF m_odd_of (toDs [(eV 1)])), (eF m_units_of (toDs [(eV 1)]))])) [1] (kFrz (kDs1 [] (kFn m_as_blocks (kRet (endF fun x => x = .fresh ((N.word r).map nP)))))) ⟨r.map nI, []⟩ [some (.fz w1), none] := by
    intro w1
    refine lcM_ok (fun d => match d with | .int i => nP (N.od i.toNat, N.un i.toNat) | d => d) (by simp; have := hr.len; omega) (by simp [tgV]) ?_ ?_
    · intro d hd
      obtain ⟨x, hx, rfl⟩ := List.mem_map.mp hd
      refine ⟨_, tgV_fr rfl (by simp), ?_⟩
      simp -implicitDefEqProofs [units_of_ok (hr.pos x hx), odd_of_ok (hr.pos x hx) (hr.lt x hx) hB]
    · have e : (r.map nI).map (fun d => match d with | .int i => nP (N.od i.toNat, N.un i.toNat) | d => d) = (r.map fun x => (N.od x, N.un x)).map nP := by
        rw [List.map_map, List.map_map]; rfl
      rw [show ({ items := r.map nI, lend := [] } : Src).items = r.map nI from rfl, e]
      have h := as_blocks_ok (r.map fun x => (N.od x, N.un x)) (by rw [List.length_map]; exact hr.len)
      simp -implicitDefEqProofs only [kFrz_fresh, kDs1_eq, ok_toDs_nil, kDs2_eq, kFn_eq, h, okFn_ok, kRet_fresh, endF_ret]
      rfl
  rcases hd with rfl | rfl
  · simp -implicitDefEqProofs [b_odd_word]
    exact key _
  · simp -implicitDefEqProofs [b_odd_word]
    exact key _
end G
set_option Elab.async false
set_option linter.all false
set_option maxRecDepth 100000
set_option maxHeartbeats 4000000
namespace N
theorem nil_or_last' {α : Type} (l : List α) : l = [] ∨ ∃ k x, l = k ++ [x] := by
  rcases List.eq_nil_or_concat l with h | ⟨k, x, h⟩
  · exact .inl h
  · exact .inr ⟨k, x, by rw [h, List.concat_eq_append]⟩
/-- the odd heaps of a row -/
def flat (r : List Nat) : List Nat := r.flatMap fun x => List.replicate (un x) (od x)
def unblk (w : List (Nat × Nat)) : List Nat := w.flatMap fun p => List.replicate p.2 p.1
theorem unblk_append (a b : List (Nat × Nat)) : unblk (a ++ b) = unblk a ++ unblk b := List.flatMap_append
theorem unblk_one (p : Nat × Nat) : unblk [p] = List.replicate p.2 p.1 := by simp [unblk]
theorem flat_append (a b : List Nat) : flat (a ++ b) = flat a ++ flat b := List.flatMap_append
theorem flat_cons (x : Nat) (b : List Nat) : flat (x :: b) = List.replicate (un x) (od x) ++ flat b := List.flatMap_cons
theorem flat_nil : flat [] = [] := rfl
theorem unblk_push (acc : List (Nat × Nat)) (p : Nat × Nat) : unblk (push acc p) = unblk acc ++ List.replicate p.2 p.1 := by
  rcases push_cases acc p with ⟨l, q, rfl, h, e⟩ | e | ⟨h, e⟩
  · rw [e, unblk_append, unblk_append, unblk_one, unblk_one, List.append_assoc]
    congr 1
    rw [h, List.replicate_append_replicate]
  · rw [e, unblk_append, unblk_one]
  · rw [e, h]; simp
theorem unblk_fold : ∀ (ps acc : List (Nat × Nat)), unblk (ps.foldl push acc) = unblk acc ++ unblk ps
  | [], acc => by simp [unblk]
  | p :: ps, acc => by
    rw [List.foldl_cons, unblk_fold ps, unblk_push, List.append_assoc]
    congr 1
theorem unblk_blk (ps : List (Nat × Nat)) : unblk (blk ps) = unblk ps := by unfold blk; rw [unblk_fold]; rfl
theorem unblk_word (r : List Nat) : unblk (word r) = flat r := by
  unfold word
  rw [unblk_blk]
  unfold unblk flat
  rw [List.flatMap_map]
/-- blocks put together -/
def Norm : List (Nat × Nat) → Prop
  | [] => True
  | [p] => 0 < p.2
  | p :: q :: l => 0 < p.2 ∧ p.1 ≠ q.1 ∧ Norm (q :: l)
theorem norm_snoc : ∀ {l : List (Nat × Nat)} {q p : Nat × Nat}, Norm (l ++ [q]) → 0 < p.2 → q.1 ≠ p.1 → Norm (l ++ [q] ++ [p])
  | [], q, p, h, h1, h2 => ⟨h, h2, h1⟩
  | [a], q, p, h, h1, h2 => ⟨h.1, h.2.1, h.2.2, h2, h1⟩
  | a :: b :: l, q, p, h, h1, h2 => ⟨h.1, h.2.1, norm_snoc (l := b :: l) h.2.2 h1 h2⟩
theorem norm_last : ∀ {l : List (Nat × Nat)} {q p : Nat × Nat}, Norm (l ++ [q]) → q.1 = p.1 → 0 < p.2 → Norm (l ++ [p])
  | [], q, p, h, h1, h2 => h2
  | [a], q, p, h, h1, h2 => ⟨h.1, h1 ▸ h.2.1, h2⟩
  | a :: b :: l, q, p, h, h1, h2 => ⟨h.1, h.2.1, norm_last (l := b :: l) h.2.2 h1 h2⟩
theorem norm_pos : ∀ {l : List (Nat × Nat)} {p : Nat × Nat}, Norm l → p ∈ l → 0 < p.2
  | [q], p, h, hp => by rw [List.mem_singleton.mp hp]; exact h
  | a :: b :: l, p, h, hp => by
    rcases List.mem_cons.mp hp with rfl | hp
    · exact h.1
    · exact norm_pos h.2.2 hp
theorem norm_push {acc : List (Nat × Nat)} (h : Norm acc) (p : Nat × Nat) : Norm (push acc p) := by
  rcases nil_or_last' acc with rfl | ⟨l, q, rfl⟩
  · rw [push_nil]
    by_cases h : 0 < p.2
    · rw [if_pos h]; exact h
    · rw [if_neg h]; exact True.intro
  · rw [push_last]
    by_cases hq : q.1 = p.1
    · rw [if_pos hq]
      refine norm_last h hq ?_
      have := norm_pos h (List.mem_append_right _ (List.mem_singleton.mpr rfl))
      simp; omega
    · rw [if_neg hq]
      by_cases h0 : 0 < p.2
      · rw [if_pos h0]; exact norm_snoc h h0 hq
      · rw [if_neg h0]; exact h
theorem norm_fold : ∀ (ps : List (Nat × Nat)) {acc : List (Nat × Nat)}, Norm acc → Norm (ps.foldl push acc)
  | [], acc, h => h
  | p :: ps, acc, h => norm_fold ps (norm_push h p)
theorem norm_blk (ps : List (Nat × Nat)) : Norm (blk ps) := norm_fold ps True.intro
theorem norm_tail {p : Nat × Nat} {l : List (Nat × Nat)} (h : Norm (p :: l)) : Norm l := by
  cases l with
  | nil => exact True.intro
  | cons q l => exact h.2.2
theorem norm_head {p : Nat × Nat} {l : List (Nat × Nat)} (h : Norm (p :: l)) : 0 < p.2 := norm_pos h List.mem_cons_self
/-- the first run -/
theorem run_len {p : Nat × Nat} {l : List (Nat × Nat)} (h : Norm (p :: l)) : ((unblk (p :: l)).takeWhile (· == p.1)).length = p.2 := by
  have e : unblk (p :: l) = List.replicate p.2 p.1 ++ unblk l := List.flatMap_cons
  rw [e]
  have h2 : (unblk l).takeWhile (· == p.1) = [] := by
    cases l with
    | nil => rfl
    | cons q l =>
      have hq := norm_head (norm_tail h)
      have e : unblk (q :: l) = List.replicate q.2 q.1 ++ unblk l := List.flatMap_cons
      obtain ⟨m, hm⟩ : ∃ m, q.2 = m + 1 := ⟨q.2 - 1, by omega⟩
      have hne : (q.1 == p.1) = false := by
        have := h.2.1
        simp; omega
      rw [e, hm, List.replicate_succ, List.cons_append, List.takeWhile_cons, hne]; rfl
  rw [List.takeWhile_append_of_pos (by intro x hx; simp [List.mem_replicate] at hx; simp [hx.2]), h2]
  simp
theorem norm_eq : ∀ {w v : List (Nat × Nat)}, Norm w → Norm v → unblk w = unblk v → w = v
  | [], [], _, _, _ => rfl
  | [], q :: v, _, h, e => by
    have hq := norm_head h
    have e2 : unblk (q :: v) = List.replicate q.2 q.1 ++ unblk v := List.flatMap_cons
    obtain ⟨m, hm⟩ : ∃ m, q.2 = m + 1 := ⟨q.2 - 1, by omega⟩
    rw [e2, hm, List.replicate_succ] at e
    cases e
  | q :: v, [], h, _, e => by
    have hq := norm_head h
    have e2 : unblk (q :: v) = List.replicate q.2 q.1 ++ unblk v := List.flatMap_cons
    obtain ⟨m, hm⟩ : ∃ m, q.2 = m + 1 := ⟨q.2 - 1, by omega⟩
    rw [e2, hm, List.replicate_succ] at e
    cases e
  | p :: w, q :: v, h, h', e => by
    have e1 : unblk (p :: w) = List.replicate p.2 p.1 ++ unblk w := List.flatMap_cons
    have e2 : unblk (q :: v) = List.replicate q.2 q.1 ++ unblk v := List.flatMap_cons
    have hp := norm_head h
    have hq := norm_head h'
    have hf : p.1 = q.1 := by
      obtain ⟨m, hm⟩ : ∃ m, p.2 = m + 1 := ⟨p.2 - 1, by omega⟩
      obtain ⟨n, hn⟩ : ∃ m, q.2 = m + 1 := ⟨q.2 - 1, by omega⟩
      have e3 := e
      rw [e1, e2, hm, hn, List.replicate_succ, List.replicate_succ] at e3
      exact (List.cons.inj e3).1
    have hs : p.2 = q.2 := by
      have h1 := run_len h
      have h2 := run_len h'
      rw [← hf, ← e, h1] at h2
      exact h2
    have hpq : p = q := Prod.ext hf hs
    subst hpq
    rw [e1, e2] at e
    rw [norm_eq (norm_tail h) (norm_tail h') (List.append_cancel_left e)]
theorem norm_word (r : List Nat) : Norm (word r) := norm_blk _
/-- the words tell the odd heaps -/
theorem word_iff {r s : List Nat} : word r = word s ↔ flat r = flat s := by
  constructor
  · intro h; rw [← unblk_word, ← unblk_word, h]
  · intro h; exact norm_eq (norm_word r) (norm_word s) (by rw [unblk_word, unblk_word, h])
theorem blk_norm {w : List (Nat × Nat)} (h : Norm w) : blk w = w := norm_eq (norm_blk w) h (unblk_blk w)
end N
set_option Elab.async false
set_option linter.all false
set_option maxRecDepth 100000
set_option maxHeartbeats 4000000
namespace N
/-- steps at a place: (join?, place), the row then -/
def mvAt (r : List Nat) (i x : Nat) : List ((Bool × Nat) × List Nat) :=
  (if r[i + 1]? = some x then [((true, i), r.take i ++ [2 * x] ++ r.drop (i + 2))] else []) ++
  (if x % 2 = 0 then [((false, i), r.take i ++ [x / 2, x / 2] ++ r.drop (i + 1))] else [])
def mvs (r : List Nat) : List ((Bool × Nat) × List Nat) := (List.range r.length).flatMap fun i => mvAt r i (r.getD i 0)
end N
set_option Elab.async false
set_option linter.all false
set_option maxRecDepth 100000
set_option maxHeartbeats 4000000
namespace N
theorem flat_one (x : Nat) : flat [x] = List.replicate (un x) (od x) := by rw [flat_cons, flat_nil, List.append_nil]
theorem dbl {x : Nat} (h : x ≠ 0) : un (2 * x) = 2 * un x ∧ od (2 * x) = od x := by
  have h1 := un_even (n := 2 * x) (by omega) (by omega)
  rw [show 2 * x / 2 = x by omega] at h1
  refine ⟨h1, ?_⟩
  unfold od
  rw [h1, Nat.mul_div_mul_left _ _ (by omega)]
theorem hlv {x : Nat} (h : x ≠ 0) (he : x % 2 = 0) : un x = 2 * un (x / 2) ∧ od x = od (x / 2) := by
  have := dbl (x := x / 2) (by omega)
  rw [show 2 * (x / 2) = x by omega] at this
  exact this
theorem flat_join {x : Nat} (h : x ≠ 0) : flat [2 * x] = flat [x, x] := by
  rw [flat_one, flat_cons, flat_one, (dbl h).1, (dbl h).2, List.replicate_append_replicate]
  congr 1; omega
theorem flat_split {x : Nat} (h : x ≠ 0) (he : x % 2 = 0) : flat [x / 2, x / 2] = flat [x] := by
  have := flat_join (x := x / 2) (by omega)
  rw [show 2 * (x / 2) = x by omega] at this
  exact this.symm
/-- a step: what it makes of a row -/
theorem mvs_mem {r : List Nat} {m : (Bool × Nat) × List Nat} : m ∈ mvs r ↔ ∃ i x, r[i]? = some x ∧ m ∈ mvAt r i x := by
  unfold mvs
  rw [List.mem_flatMap]
  constructor
  · rintro ⟨i, hi, hm⟩
    rw [List.mem_range] at hi
    refine ⟨i, r[i], List.getElem?_eq_getElem hi, ?_⟩
    rw [List.getD_eq_getElem?_getD, List.getElem?_eq_getElem hi] at hm
    exact hm
  · rintro ⟨i, x, hx, hm⟩
    have hi := (List.getElem?_eq_some_iff.mp hx).1
    refine ⟨i, List.mem_range.mpr hi, ?_⟩
    rw [List.getD_eq_getElem?_getD, hx]
    exact hm
theorem mv_cases {r : List Nat} {m : (Bool × Nat) × List Nat} (h : m ∈ mvs r) : (∃ i x, r = r.take i ++ [x, x] ++ r.drop (i + 2) ∧ i + 1 < r.length ∧ r[i]? = some x ∧ m = ((true, i), r.take i ++ [2 * x] ++ r.drop (i + 2))) ∨
    (∃ i x, r = r.take i ++ [x] ++ r.drop (i + 1) ∧ i < r.length ∧ r[i]? = some x ∧ x % 2 = 0 ∧ m = ((false, i), r.take i ++ [x / 2, x / 2] ++ r.drop (i + 1))) := by
  obtain ⟨i, x, hx, hm⟩ := mvs_mem.mp h
  have hi := (List.getElem?_eq_some_iff.mp hx).1
  have hx2 := (List.getElem?_eq_some_iff.mp hx).2
  have e1 : r = r.take i ++ [x] ++ r.drop (i + 1) := by
    conv => lhs; rw [← List.take_append_drop i r]
    rw [List.drop_eq_getElem_cons hi, hx2, List.append_assoc]; rfl
  unfold mvAt at hm
  rcases List.mem_append.mp hm with hm | hm
  · by_cases hj : r[i + 1]? = some x
    · rw [if_pos hj] at hm
      have hi2 := (List.getElem?_eq_some_iff.mp hj).1
      have hx3 := (List.getElem?_eq_some_iff.mp hj).2
      refine .inl ⟨i, x, ?_, hi2, hx, List.mem_singleton.mp hm⟩
      conv => lhs; rw [e1]
      rw [List.drop_eq_getElem_cons hi2, hx3]; simp
    · rw [if_neg hj] at hm; cases hm
  · by_cases he : x % 2 = 0
    · rw [if_pos he] at hm
      exact .inr ⟨i, x, e1, hi, hx, he, List.mem_singleton.mp hm⟩
    · rw [if_neg he] at hm; cases hm
theorem mv_flat {r : List Nat} (hp : ∀ x ∈ r, x ≠ 0) {m : (Bool × Nat) × List Nat} (h : m ∈ mvs r) : flat m.2 = flat r := by
  rcases mv_cases h with ⟨i, x, e, hi, hx, rfl⟩ | ⟨i, x, e, hi, hx, he, rfl⟩
  · have h0 := hp x (List.mem_of_getElem? hx)
    conv => rhs; rw [e]
    simp only [flat_append, flat_join h0]
  · have h0 := hp x (List.mem_of_getElem? hx)
    conv => rhs; rw [e]
    simp only [flat_append, flat_split h0 he]
theorem mv_len {r : List Nat} {m : (Bool × Nat) × List Nat} (h : m ∈ mvs r) : (m.1.1 = true ∧ m.2.length + 1 = r.length) ∨ (m.1.1 = false ∧ m.2.length = r.length + 1) := by
  rcases mv_cases h with ⟨i, x, e, hi, hx, rfl⟩ | ⟨i, x, e, hi, hx, he, rfl⟩
  · refine .inl ⟨rfl, ?_⟩
    simp only [List.length_append, List.length_take, List.length_drop, List.length_cons, List.length_nil]; omega
  · refine .inr ⟨rfl, ?_⟩
    simp only [List.length_append, List.length_take, List.length_drop, List.length_cons, List.length_nil]; omega
theorem mv_mem {r : List Nat} {m : (Bool × Nat) × List Nat} (h : m ∈ mvs r) (P : Nat → Prop) (hr : ∀ x ∈ r, P x ∧ P (2 * x) ∧ (x % 2 = 0 → P (x / 2))) : ∀ x ∈ m.2, P x := by
  intro y hy
  rcases mv_cases h with ⟨i, x, e, hi, hx, rfl⟩ | ⟨i, x, e, hi, hx, he, rfl⟩
  · have h0 := hr x (List.mem_of_getElem? hx)
    simp only [List.mem_append, List.mem_singleton] at hy
    rcases hy with (hy | rfl) | hy
    · exact (hr y (List.mem_of_mem_take hy)).1
    · exact h0.2.1
    · exact (hr y (List.mem_of_mem_drop hy)).1
  · have h0 := hr x (List.mem_of_getElem? hx)
    simp only [List.mem_append, List.mem_cons, List.not_mem_nil, or_false] at hy
    rcases hy with (hy | rfl | rfl) | hy
    · exact (hr y (List.mem_of_mem_take hy)).1
    · exact h0.2.2 he
    · exact h0.2.2 he
    · exact (hr y (List.mem_of_mem_drop hy)).1
/-- a way of steps -/
inductive Path : List (Bool × Nat) → List Nat → List Nat → Prop
  | nil (r : List Nat) : Path [] r r
  | snoc {ds : List (Bool × Nat)} {r s : List Nat} {m : (Bool × Nat) × List Nat} : Path ds r s → m ∈ mvs s → Path (ds ++ [m.1]) r m.2
theorem Path.pos {ds : List (Bool × Nat)} {r s : List Nat} (h : Path ds r s) (hp : ∀ x ∈ r, x ≠ 0) : ∀ x ∈ s, x ≠ 0 := by
  induction h with
  | nil r => exact hp
  | snoc _ hm ih => exact mv_mem hm (· ≠ 0) fun x hx => ⟨ih hp x hx, by have := ih hp x hx; omega, fun _ => by have := ih hp x hx; omega⟩
theorem Path.lt {ds : List (Bool × Nat)} {r s : List Nat} (h : Path ds r s) {B : Nat} (hp : ∀ x ∈ r, x < 2 ^ B) : ∀ x ∈ s, x < 2 ^ (B + ds.length) := by
  induction h with
  | nil r => exact hp
  | snoc _ hm ih =>
    rw [List.length_append, List.length_singleton, ← Nat.add_assoc, Nat.pow_succ]
    exact mv_mem hm (· < _) fun x hx => ⟨by have := ih hp x hx; omega, by have := ih hp x hx; omega, fun _ => by have := ih hp x hx; omega⟩
theorem Path.flat {ds : List (Bool × Nat)} {r s : List Nat} (h : Path ds r s) (hp : ∀ x ∈ r, x ≠ 0) : N.flat s = N.flat r := by
  induction h with
  | nil r => rfl
  | snoc h hm ih => rw [mv_flat (h.pos hp) hm, ih hp]
end N
set_option Elab.async false
set_option linter.all false
set_option maxRecDepth 100000
set_option maxHeartbeats 4000000
namespace G
open PySem PySem.Spec PyProof.Rows L2 VI Builtin.Int
def dD (d : Bool × Nat) : D := .tuple [.str (if d.1 then "join" else "split"), .int (d.2 : Int)]
end G
set_option Elab.async false
set_option linter.all false
set_option maxRecDepth 100000
set_option maxHeartbeats 4000000
namespace N
def spl (r : List Nat) : List Nat := (List.range r.length).filter fun i => decide (r.getD i 0 % 2 = 0)
def joi (r : List Nat) : List Nat := (List.range (r.length - 1)).filter fun i => decide (r.getD i 0 = r.getD (i + 1) 0)
end N
namespace G
open PySem PySem.Spec PyProof.Rows L2 VI Builtin.Int
theorem enum_nat {r : List Nat} : enumD (r.map nI) = (List.range r.length).map fun i : Nat => PyData.tuple [.int (i : Int), .int ((r.getD i 0 : Nat) : Int)] := by
  apply List.ext_getElem?
  intro i
  by_cases hi : i < r.length
  · rw [enumD_get (getN hi), List.getElem?_map, List.getElem?_range hi]; simp [List.getD_eq_getElem?_getD, hi]
  · rw [List.getElem?_eq_none (by rw [enumD_len]; simp; omega), List.getElem?_eq_none (by simp; omega)]
theorem mem_spl {r : List Nat} {i : Nat} : i ∈ N.spl r ↔ ∃ h : i < r.length, r[i] % 2 = 0 := by
  unfold N.spl
  simp only [List.mem_filter, List.mem_range, decide_eq_true_eq, List.getD_eq_getElem?_getD]
  constructor
  · rintro ⟨h, e⟩
    rw [List.getElem?_eq_getElem h] at e
    exact ⟨h, e⟩
  · rintro ⟨h, e⟩
    rw [List.getElem?_eq_getElem h]
    exact ⟨h, e⟩
theorem mem_joi {r : List Nat} {i : Nat} : i ∈ N.joi r ↔ ∃ h : i + 1 < r.length, r[i] = r[i + 1] := by
  unfold N.joi
  simp only [List.mem_filter, List.mem_range, decide_eq_true_eq, List.getD_eq_getElem?_getD]
  constructor
  · rintro ⟨h, e⟩
    rw [List.getElem?_eq_getElem (by omega), List.getElem?_eq_getElem (by omega)] at e
    exact ⟨by omega, e⟩
  · rintro ⟨h, e⟩
    rw [List.getElem?_eq_getElem (by omega), List.getElem?_eq_getElem (by omega)]
    exact ⟨by omega, e⟩
end G
set_option Elab.async false
set_option linter.all false
set_option maxRecDepth 100000
set_option maxHeartbeats 4000000
namespace G
open PySem PySem.Spec PyProof.Rows L2 VI Builtin.Int
theorem splits_ok {r : List Nat} (hl : r.length ≤ 1000000) : m_splits [.tuple (r.map nI)] = some (.ok (.fresh ((N.spl r).map nI))) := by
  refine fnF_is ?_
  have hd2 : divOk 2 = true := by decide
  simp -implicitDefEqProofs [b_splits]
  refine lcF_ok (fun d => match d with | .tuple [_, .int x] => decide (x % 2 = 0) | _ => false) (fun d => match d with | .tuple [i, _] => i | d => d) (by simp [enumD_len]; omega) (by simp [tgT, tgV]) ?_ ?_
  · intro d hd
    have hd : d ∈ enumD (r.map nI) := hd
    rw [enum_nat] at hd
    obtain ⟨i, hi, rfl⟩ := List.mem_map.mp hd
    generalize r.getD i 0 = x
    by_cases h : (x : Int) % 2 = 0
    · simp -implicitDefEqProofs [hd2, h]
    · simp -implicitDefEqProofs [hd2, h]
  · have e : ((enumD (r.map nI)).filter (fun d => match d with | .tuple [_, .int x] => decide (x % 2 = 0) | _ => false)).map (fun d => match d with | .tuple [i, _] => i | d => d) = (N.spl r).map nI := by
      rw [enum_nat, List.filter_map, List.map_map]
      unfold N.spl
      congr 1
      apply List.filter_congr
      intro i _
      simp only [Function.comp]
      exact decide_eq_decide.mpr (by omega)
    rw [show ({ items := enumD (r.map nI), lend := [] } : Src).items = enumD (r.map nI) from rfl, e]
    simp -implicitDefEqProofs
end G
set_option Elab.async false
set_option linter.all false
set_option maxRecDepth 100000
set_option maxHeartbeats 4000000
namespace G
open PySem PySem.Spec PyProof.Rows L2 VI Builtin.Int
theorem joins_ok {r : List Nat} (hl : r.length ≤ 1000000) : m_joins [.tuple (r.map nI)] = some (.ok (.fresh ((N.joi r).map nI))) := by
  refine fnF_is ?_
  have hR : VI.inR ((r.length : Int) - 1) = true := by
    unfold VI.inR
    rw [decide_eq_true (by omega), decide_eq_true (by omega)]; rfl
  simp -implicitDefEqProofs [b_joins, hR]
  refine lcF_ok (fun d => match d with | .int i => decide (r.getD i.toNat 0 = r.getD (i.toNat + 1) 0) | _ => false) id (by simp; omega) (by simp [tgV]) ?_ ?_
  · intro d hd
    obtain ⟨i, hi, rfl⟩ := List.mem_map.mp hd
    have hi : i < r.length - 1 := by simpa using hi
    have g1 : atI (r.map nI) (i : Int) = some (nI (r.getD i 0)) := by
      unfold atI
      rw [List.length_map, ixN_nat (show i < r.length by omega)]
      show (r.map nI)[i]? = _
      rw [getN (show i < r.length by omega), List.getD_eq_getElem?_getD, List.getElem?_eq_getElem (show i < r.length by omega)]; rfl
    have g2 : atI (r.map nI) ((i : Int) + 1) = some (nI (r.getD (i + 1) 0)) := by
      unfold atI
      rw [List.length_map, show ((i : Int) + 1) = ((i + 1 : Nat) : Int) by omega, ixN_nat (show i + 1 < r.length by omega)]
      show (r.map nI)[i + 1]? = _
      rw [getN (show i + 1 < r.length by omega), List.getD_eq_getElem?_getD, List.getElem?_eq_getElem (show i + 1 < r.length by omega)]; rfl
    generalize hx : r.getD i 0 = x at *
    generalize hy : r.getD (i + 1) 0 = y at *
    by_cases h : x = y
    · simp -implicitDefEqProofs [g1, g2, h]
      rw [← List.getD_eq_getElem?_getD, ← List.getD_eq_getElem?_getD, hx, hy]; omega
    · simp -implicitDefEqProofs [g1, g2, h]
      rw [← List.getD_eq_getElem?_getD, ← List.getD_eq_getElem?_getD, hx, hy]; omega
  · have e : ((intsOf 0 (r.length - 1)).filter (fun d => match d with | .int i => decide (r.getD i.toNat 0 = r.getD (i.toNat + 1) 0) | _ => false)).map id = (N.joi r).map nI := by
      unfold intsOf N.joi
      rw [List.map_id, List.filter_map]
      have : (fun i : Nat => PyData.int (0 + (i : Int))) = nI := by funext i; rw [Int.zero_add]
      rw [this]
      congr 1
    rw [show ({ items := intsOf 0 (r.length - 1), lend := [] } : Src).items = intsOf 0 (r.length - 1) from rfl, e]
    simp -implicitDefEqProofs
end G
set_option Elab.async false
set_option linter.all false
set_option maxRecDepth 100000
set_option maxHeartbeats 4000000
namespace N
/-- sums -/
def sumR (f : Nat → Nat) : Nat → Nat
  | 0 => 0
  | n + 1 => sumR f n + f n
theorem sumR_add (f : Nat → Nat) (a : Nat) : ∀ b, sumR f (a + b) = sumR f a + sumR (fun i => f (a + i)) b
  | 0 => by simp [sumR]
  | b + 1 => by
    show sumR f (a + b) + f (a + b) = sumR f a + (sumR (fun i => f (a + i)) b + f (a + b))
    rw [sumR_add f a b]; omega
theorem sumR_congr {f g : Nat → Nat} : ∀ {n : Nat}, (∀ i, i < n → f i = g i) → sumR f n = sumR g n
  | 0, _ => rfl
  | n + 1, h => by
    show sumR f n + f n = sumR g n + g n
    rw [sumR_congr (fun i hi => h i (by omega)), h n (by omega)]
theorem sumR_plus (f g : Nat → Nat) : ∀ n, sumR (fun i => f i + g i) n = sumR f n + sumR g n
  | 0 => rfl
  | n + 1 => by
    show sumR (fun i => f i + g i) n + (f n + g n) = (sumR f n + f n) + (sumR g n + g n)
    rw [sumR_plus f g n]; omega
theorem sumR_le {f g : Nat → Nat} : ∀ {n : Nat}, (∀ i, i < n → f i ≤ g i) → sumR f n ≤ sumR g n
  | 0, _ => Nat.le_refl _
  | n + 1, h => Nat.add_le_add (sumR_le fun i hi => h i (by omega)) (h n (by omega))
theorem sumR_zero : ∀ n, sumR (fun _ => 0) n = 0
  | 0 => rfl
  | n + 1 => by show sumR (fun _ => 0) n + 0 = 0; rw [sumR_zero n]
theorem sumR_eq_zero {f : Nat → Nat} : ∀ {n : Nat}, sumR f n = 0 → ∀ i, i < n → f i = 0
  | n + 1, h, i, hi => by
    have h : sumR f n + f n = 0 := h
    by_cases e : i = n
    · subst e; omega
    · exact sumR_eq_zero (n := n) (by omega) i (by omega)
theorem sumR_one {f : Nat → Nat} {a : Nat} : ∀ {n : Nat}, a < n → (∀ i, i < n → i ≠ a → f i = 0) → sumR f n = f a
  | n + 1, ha, h => by
    show sumR f n + f n = f a
    by_cases e : a = n
    · subst e
      rw [sumR_congr (g := fun _ => 0) (fun i hi => h i (by omega) (by omega)), sumR_zero]; omega
    · rw [sumR_one (n := n) (by omega) (fun i hi hn => h i (by omega) hn), h n (by omega) (Ne.symm e)]; omega
/-- how many k of 1 .. N -/
def kc (N : Nat) (g : Nat → Bool) : Nat := sumR (fun i => if g (i + 1) then 1 else 0) N
theorem kc_congr {N : Nat} {g h : Nat → Bool} (e : ∀ k, 1 ≤ k → k ≤ N → g k = h k) : kc N g = kc N h := sumR_congr fun i hi => by rw [e (i + 1) (by omega) (by omega)]
theorem kc_none {N : Nat} {g : Nat → Bool} (e : ∀ k, 1 ≤ k → k ≤ N → g k = false) : kc N g = 0 := by
  rw [kc_congr (h := fun _ => false) e]
  exact sumR_zero N
/-- halves of 2 ^ b units: how many begin at each -/
def gk (b i : Nat) : Nat := kc b fun k => decide (i % 2 ^ k = 0)
theorem gk_succ (b i : Nat) : gk (b + 1) i = gk b i + if i % 2 ^ (b + 1) = 0 then 1 else 0 := by
  unfold gk kc
  show sumR _ b + _ = _
  congr 1
  simp
theorem gk_add (b i : Nat) : gk b (i + 2 ^ b) = gk b i := by
  unfold gk
  refine kc_congr fun k h1 h2 => ?_
  have hd : 2 ^ b = 2 ^ k * 2 ^ (b - k) := by rw [← Nat.pow_add]; congr 1; omega
  rw [hd, Nat.add_mul_mod_self_left]
theorem sum_gk : ∀ b : Nat, sumR (gk b) (2 ^ b) + 1 = 2 ^ b
  | 0 => by simp [sumR, gk, kc]
  | b + 1 => by
    have ih := sum_gk b
    have e : 2 ^ (b + 1) = 2 ^ b + 2 ^ b := by rw [Nat.pow_succ]; omega
    have h1 : sumR (gk b) (2 ^ b + 2 ^ b) = sumR (gk b) (2 ^ b) + sumR (gk b) (2 ^ b) := by
      rw [sumR_add]
      congr 1
      refine sumR_congr fun i _ => ?_
      rw [Nat.add_comm, gk_add]
    have h2 : sumR (fun i => if i % 2 ^ (b + 1) = 0 then 1 else 0) (2 ^ b + 2 ^ b) = 1 := by
      rw [sumR_one (a := 0) (by have : 0 < 2 ^ b := Nat.pow_pos (by omega); omega)]
      · simp
      · intro i hi hn
        rw [if_neg]
        rw [e, Nat.mod_eq_of_lt hi]; exact hn
    have h3 : sumR (gk (b + 1)) (2 ^ b + 2 ^ b) = sumR (gk b) (2 ^ b + 2 ^ b) + 1 := by
      rw [sumR_congr (g := fun i => gk b i + if i % 2 ^ (b + 1) = 0 then 1 else 0) (fun i _ => gk_succ b i), sumR_plus, h2]
    rw [e, h3, h1]; omega
theorem gk_mul (b i c : Nat) : gk b (i + c * 2 ^ b) = gk b i := by
  induction c with
  | zero => simp
  | succ c ih => rw [Nat.add_mul, Nat.one_mul, ← Nat.add_assoc, gk_add, ih]
theorem sum_gk_mul (b c : Nat) : sumR (gk b) (c * 2 ^ b) + c = c * 2 ^ b := by
  induction c with
  | zero => simp [sumR]
  | succ c ih =>
    have h := sum_gk b
    rw [Nat.add_mul, Nat.one_mul, sumR_add]
    have : sumR (fun i => gk b (c * 2 ^ b + i)) (2 ^ b) = sumR (gk b) (2 ^ b) := sumR_congr fun i _ => by rw [Nat.add_comm, gk_mul]
    rw [this]; omega
/-- a part of the row begins at unit w, of 2 ^ k units -/
def pt : List Nat → Nat → Nat → Bool
  | [], _, _ => false
  | x :: r, w, k => if w < un x then decide (k ≤ tz x) && decide (w % 2 ^ k = 0) else pt r (w - un x) k
/-- units of a row -/
def nu (r : List Nat) : Nat := (r.map un).sum
theorem nu_cons (x : Nat) (r : List Nat) : nu (x :: r) = un x + nu r := by simp [nu]
theorem nu_append (r s : List Nat) : nu (r ++ s) = nu r + nu s := by simp [nu]
theorem nu_flat (r : List Nat) : (flat r).length = nu r := by
  induction r with
  | nil => rfl
  | cons x r ih => rw [flat_cons, List.length_append, List.length_replicate, ih, nu_cons]
theorem pt_append : ∀ (r s : List Nat) (w k : Nat), pt (r ++ s) w k = if w < nu r then pt r w k else pt s (w - nu r) k
  | [], s, w, k => by simp [nu]
  | x :: r, s, w, k => by
    rw [List.cons_append, nu_cons]
    show (if w < un x then _ else pt (r ++ s) (w - un x) k) = if w < un x + nu r then (if w < un x then _ else pt r (w - un x) k) else _
    by_cases h : w < un x
    · rw [if_pos h, if_pos (by omega), if_pos h]
    · rw [if_neg h, if_neg h, pt_append r s]
      by_cases h2 : w < un x + nu r
      · rw [if_pos h2, if_pos (by omega)]
      · rw [if_neg h2, if_neg (by omega)]
        congr 1; omega
/-- how many parts -/
def pn (N : Nat) (r : List Nat) : Nat := sumR (fun w => kc N (pt r w)) (nu r)
theorem kc_heap {N K w : Nat} (h : K ≤ N) : kc N (fun k => decide (k ≤ K) && decide (w % 2 ^ k = 0)) = gk K w := by
  have e : N = K + (N - K) := by omega
  unfold kc
  rw [e, sumR_add]
  have h1 : sumR (fun i => if (decide (K + i + 1 ≤ K) && decide (w % 2 ^ (K + i + 1) = 0)) = true then 1 else 0) (N - K) = 0 := by
    rw [sumR_congr (g := fun _ => 0) (fun i _ => by simp; omega)]
    exact sumR_zero _
  rw [h1, Nat.add_zero]
  unfold gk kc
  refine sumR_congr fun i hi => ?_
  simp [show i + 1 ≤ K by omega]
theorem tz_le_un (x : Nat) : tz x < un x := by unfold un; exact Nat.lt_two_pow_self
theorem un_eq (x : Nat) : un x = 2 ^ tz x := rfl
theorem pn_eq : ∀ {r : List Nat} {N : Nat}, (∀ x ∈ r, tz x ≤ N) → pn N r + r.length = nu r
  | [], N, _ => rfl
  | x :: r, N, h => by
    have ih := pn_eq (r := r) (fun y hy => h y (List.mem_cons_of_mem _ hy))
    unfold pn at ih ⊢
    rw [nu_cons, sumR_add]
    have h1 : sumR (fun w => kc N (pt (x :: r) w)) (un x) = sumR (gk (tz x)) (2 ^ tz x) := by
      rw [un_eq]
      refine sumR_congr fun w hw => ?_
      rw [← kc_heap (h x List.mem_cons_self)]
      refine kc_congr fun k _ _ => ?_
      show (if w < un x then _ else _) = _
      rw [if_pos (by rw [un_eq]; exact hw)]
    have h2 : sumR (fun i => kc N (pt (x :: r) (un x + i))) (nu r) = sumR (fun w => kc N (pt r w)) (nu r) := by
      refine sumR_congr fun w _ => kc_congr fun k _ _ => ?_
      show (if un x + w < un x then _ else pt r (un x + w - un x) k) = _
      rw [if_neg (by omega)]; congr 1; omega
    have h3 := sum_gk (tz x)
    have h4 := un_eq x
    rw [h1, h2, List.length_cons]; omega
/-- common parts, differing parts -/
def cm (N : Nat) (r s : List Nat) : Nat := sumR (fun w => kc N fun k => pt r w k && pt s w k) (nu r)
def df (N : Nat) (r s : List Nat) : Nat := sumR (fun w => kc N fun k => pt r w k != pt s w k) (nu r)
theorem df_cm {N : Nat} {r s : List Nat} (h : nu r = nu s) : df N r s + 2 * cm N r s = pn N r + pn N s := by
  unfold df cm pn
  rw [← h]
  rw [Nat.two_mul, ← sumR_plus, ← sumR_plus, ← sumR_plus]
  refine sumR_congr fun w _ => ?_
  unfold kc
  rw [← sumR_plus, ← sumR_plus, ← sumR_plus]
  refine sumR_congr fun i _ => ?_
  cases h1 : pt r w (i + 1) <;> cases h2 : pt s w (i + 1) <;> simp [h1, h2]
theorem df_symm {N : Nat} {r s : List Nat} (h : nu r = nu s) : df N r s = df N s r := by
  unfold df
  rw [h]
  refine sumR_congr fun w _ => kc_congr fun k _ _ => ?_
  cases pt r w k <;> cases pt s w k <;> rfl
theorem df_self {N : Nat} (r : List Nat) : df N r r = 0 := by
  unfold df
  rw [sumR_congr (g := fun _ => 0) (fun w _ => kc_none fun k _ _ => by simp)]
  exact sumR_zero _
theorem df_tri {N : Nat} {r s t : List Nat} (h : nu r = nu s) : df N r t ≤ df N r s + df N s t := by
  unfold df
  rw [← h, ← sumR_plus]
  refine sumR_le fun w _ => ?_
  unfold kc
  rw [← sumR_plus]
  refine sumR_le fun i _ => ?_
  cases h1 : pt r w (i + 1) <;> cases h2 : pt s w (i + 1) <;> cases h3 : pt t w (i + 1) <;> simp [h1, h2, h3]
end N
set_option Elab.async false
set_option linter.all false
set_option maxRecDepth 100000
set_option maxHeartbeats 4000000
namespace N
/-- heaps by their first stones -/
def hps (A : Nat) : List Nat → List (Nat × Nat)
  | [] => []
  | x :: r => (A, x) :: hps (A + x) r
theorem hps_len : ∀ (A : Nat) (r : List Nat), (hps A r).length = r.length
  | _, [] => rfl
  | A, x :: r => by rw [hps, List.length_cons, hps_len, List.length_cons]
/-- overlaps, from left to right -/
def ov : List (Nat × Nat) → List (Nat × Nat) → List ((Nat × Nat) × (Nat × Nat) × Nat)
  | h :: a, g :: b => (h, g, min (h.1 + h.2) (g.1 + g.2) - max h.1 g.1) ::
      (if h.1 + h.2 = g.1 + g.2 then ov a b else if h.1 + h.2 < g.1 + g.2 then ov a (g :: b) else ov (h :: a) b)
  | [], _ => []
  | _, [] => []
termination_by a b => a.length + b.length
decreasing_by all_goals simp_wf; all_goals omega
theorem ov_cons (h g : Nat × Nat) (a b : List (Nat × Nat)) : ov (h :: a) (g :: b) = (h, g, min (h.1 + h.2) (g.1 + g.2) - max h.1 g.1) ::
    (if h.1 + h.2 = g.1 + g.2 then ov a b else if h.1 + h.2 < g.1 + g.2 then ov a (g :: b) else ov (h :: a) b) := by rw [ov]
/-- size of the blocks that both have -/
def bsz (h g : Nat × Nat) : Nat :=
  if od h.2 ≠ od g.2 ∨ ((h.1 : Int) - (g.1 : Int)) % (od h.2 : Int) ≠ 0 then 0
  else od h.2 * (if h.1 = g.1 then min (un h.2) (un g.2) else min (min (un h.2) (un g.2)) (un (((h.1 : Int) - (g.1 : Int)) / (od h.2 : Int)).natAbs))
/-- the exponent of common blocks: heaps of 2^K, 2^L units that begin d units apart -/
def be (K L d : Nat) : Nat := if d = 0 then min K L else min (min K L) (tz d)
theorem pow_min (a b : Nat) : 2 ^ min a b = min (2 ^ a) (2 ^ b) := by
  by_cases h : a ≤ b
  · rw [Nat.min_eq_left h, Nat.min_eq_left (Nat.pow_le_pow_right (by omega) h)]
  · rw [Nat.min_eq_right (by omega), Nat.min_eq_right (Nat.pow_le_pow_right (by omega) (by omega))]
/-- where the odd heaps are the same: blocks by units; i, j units into the two heaps, one of both 0 -/
theorem bsz_eq {x y A B i j : Nat} (hx : x ≠ 0) (hy : y ≠ 0) (ho : od x = od y) (hAB : A + od x * i = B + od x * j) : bsz (A, x) (B, y) = od x * 2 ^ be (tz x) (tz y) (if i ≤ j then j - i else i - j) := by
  have hm : 0 < od x := od_pos hx
  have e : (A : Int) - (B : Int) = (od x : Int) * ((j : Int) - (i : Int)) := by
    have : ((A + od x * i : Nat) : Int) = ((B + od x * j : Nat) : Int) := by rw [hAB]
    simp only [Int.natCast_add, Int.natCast_mul] at this
    rw [Int.mul_sub]; omega
  unfold bsz
  simp only
  rw [e]
  have h1 : ¬ (od x ≠ od y ∨ (od x : Int) * ((j : Int) - (i : Int)) % (od x : Int) ≠ 0) := by
    rw [Int.mul_emod_right]; simp [ho]
  rw [if_neg h1]
  congr 1
  have hdiv : (od x : Int) * ((j : Int) - (i : Int)) / (od x : Int) = (j : Int) - (i : Int) := Int.mul_ediv_cancel_left _ (by omega)
  rw [hdiv]
  have hd : ((j : Int) - (i : Int)).natAbs = if i ≤ j then j - i else i - j := by split <;> omega
  rw [hd]
  generalize hdd : (if i ≤ j then j - i else i - j) = d
  have hA : A = B ↔ d = 0 := by
    constructor
    · intro h
      subst h
      have : od x * i = od x * j := by omega
      have := Nat.eq_of_mul_eq_mul_left hm this
      rw [← hdd]; split <;> omega
    · intro h
      have : i = j := by rw [← hdd] at h; split at h <;> omega
      subst this; omega
  unfold be
  by_cases h0 : d = 0
  · rw [if_pos (hA.mpr h0), if_pos h0, pow_min]; rfl
  · rw [if_neg (fun z => h0 (hA.mp z)), if_neg h0, pow_min, pow_min]; rfl
theorem be_le1 (K L d : Nat) : be K L d ≤ K := by unfold be; split <;> omega
theorem be_le2 (K L d : Nat) : be K L d ≤ L := by unfold be; split <;> omega
theorem be_dvd (K L d : Nat) : 2 ^ be K L d ∣ d := by
  unfold be
  split
  · rename_i h; rw [h]; exact Nat.dvd_zero _
  · rename_i h; exact Nat.dvd_trans (Nat.pow_dvd_pow 2 (by omega)) ((pow_dvd h).mpr (Nat.le_refl _))
theorem be_max {K L d k : Nat} (h1 : k ≤ K) (h2 : k ≤ L) (h3 : 2 ^ k ∣ d) : k ≤ be K L d := by
  unfold be
  split
  · omega
  · rename_i h
    have := (pow_dvd h).mp h3
    omega
end N
set_option Elab.async false
set_option linter.all false
set_option maxRecDepth 100000
set_option maxHeartbeats 4000000
namespace N
abbrev OvT := (Nat × Nat) × (Nat × Nat) × Nat
/-- the row of the common blocks -/
def mt (O : List OvT) : List Nat := O.flatMap fun t => List.replicate (t.2.2 / bsz t.1 t.2.1) (bsz t.1 t.2.1)
theorem mt_cons (t : OvT) (O : List OvT) : mt (t :: O) = List.replicate (t.2.2 / bsz t.1 t.2.1) (bsz t.1 t.2.1) ++ mt O := List.flatMap_cons
theorem flat_rep (c m b : Nat) (hm : m % 2 = 1) : flat (List.replicate c (m * 2 ^ b)) = List.replicate (c * 2 ^ b) m := by
  have h := un_of (k := b) hm
  rw [Nat.mul_comm] at h
  induction c with
  | zero => simp [flat]
  | succ c ih =>
    rw [List.replicate_succ, flat_cons, ih, h.1, h.2, List.replicate_append_replicate]
    congr 1; rw [Nat.add_mul, Nat.one_mul]; omega
theorem pt_rep {m b : Nat} (hm : m % 2 = 1) (k : Nat) : ∀ (c w : Nat), w < c * 2 ^ b → pt (List.replicate c (m * 2 ^ b)) w k = (decide (k ≤ b) && decide (w % 2 ^ k = 0))
  | 0, w, h => by omega
  | c + 1, w, h => by
    have hu := un_of (k := b) hm
    rw [Nat.mul_comm] at hu
    have htz : tz (m * 2 ^ b) = b := by
      have := hu.1
      rw [un_eq] at this
      exact (Nat.pow_right_inj (by omega)).mp this
    rw [List.replicate_succ]
    show (if w < un (m * 2 ^ b) then _ else pt (List.replicate c (m * 2 ^ b)) (w - un (m * 2 ^ b)) k) = _
    rw [hu.1, htz]
    by_cases hw : w < 2 ^ b
    · rw [if_pos hw]
    · rw [if_neg hw, pt_rep hm k c (w - 2 ^ b) (by rw [Nat.add_mul] at h; omega)]
      by_cases hk : k ≤ b
      · congr 2
        have hd : 2 ^ b = 2 ^ k * 2 ^ (b - k) := by rw [← Nat.pow_add]; congr 1; omega
        have : w = (w - 2 ^ b) + 2 ^ k * 2 ^ (b - k) := by omega
        conv => rhs; rw [this, Nat.add_mul_mod_self_left]
      · simp [hk]
theorem drop_flat {x i : Nat} {r : List Nat} (h : i < un x) : (flat (x :: r)).drop i = List.replicate (un x - i) (od x) ++ flat r := by
  rw [flat_cons, List.drop_append_of_le_length (by rw [List.length_replicate]; omega), List.drop_replicate]
theorem rep_split {α : Type} {a b : List α} {m n : Nat} {x : α} (h : m ≤ n) (e : List.replicate m x ++ a = List.replicate n x ++ b) : a = List.replicate (n - m) x ++ b := by
  have : List.replicate n x = List.replicate m x ++ List.replicate (n - m) x := by rw [List.replicate_append_replicate]; congr 1; omega
  rw [this, List.append_assoc] at e
  exact List.append_cancel_left e
theorem pt_in {x i w k : Nat} {r : List Nat} (h : i + w < un x) : pt (x :: r) (i + w) k = (decide (k ≤ tz x) && decide ((i + w) % 2 ^ k = 0)) := by
  show (if i + w < un x then _ else _) = _
  rw [if_pos h]
theorem pt_out {x w k : Nat} {r : List Nat} (h : un x ≤ w) : pt (x :: r) w k = pt r (w - un x) k := by
  show (if w < un x then _ else _) = _
  rw [if_neg (by omega)]
theorem both {K L i j w k : Nat} (h0 : i = 0 ∨ j = 0) : ((decide (k ≤ K) && decide ((i + w) % 2 ^ k = 0)) && (decide (k ≤ L) && decide ((j + w) % 2 ^ k = 0))) = (decide (k ≤ be K L (if i ≤ j then j - i else i - j)) && decide (w % 2 ^ k = 0)) := by
  generalize hd : (if i ≤ j then j - i else i - j) = d
  have hmod : ∀ n : Nat, n % 2 ^ k = 0 ↔ 2 ^ k ∣ n := fun n => (Nat.dvd_iff_mod_eq_zero ..).symm
  rw [Bool.eq_iff_iff]
  simp only [Bool.and_eq_true, decide_eq_true_eq, hmod]
  constructor
  · rintro ⟨⟨h1, h2⟩, h3, h4⟩
    have hw : 2 ^ k ∣ w := by rcases h0 with rfl | rfl <;> simpa using (by assumption : 2 ^ k ∣ 0 + w)
    have hdd : 2 ^ k ∣ d := by
      rw [← hd]
      rcases h0 with h0 | h0
      · subst h0
        rw [if_pos (Nat.zero_le _), Nat.sub_zero]
        exact (Nat.dvd_add_left hw).mp h4
      · subst h0
        have := (Nat.dvd_add_left hw).mp h2
        split
        · rename_i h; rw [show i = 0 by omega]; exact Nat.dvd_zero _
        · rw [Nat.sub_zero]; exact this
    exact ⟨be_max h1 h3 hdd, hw⟩
  · rintro ⟨h1, h2⟩
    have g1 := Nat.le_trans h1 (be_le1 K L d)
    have g2 := Nat.le_trans h1 (be_le2 K L d)
    have hdd : 2 ^ k ∣ d := Nat.dvd_trans (Nat.pow_dvd_pow 2 h1) (be_dvd K L d)
    have hij : 2 ^ k ∣ i ∧ 2 ^ k ∣ j := by
      rcases h0 with h0 | h0
      · subst h0
        rw [if_pos (Nat.zero_le _), Nat.sub_zero] at hd
        rw [hd]; exact ⟨Nat.dvd_zero _, hdd⟩
      · subst h0
        refine ⟨?_, Nat.dvd_zero _⟩
        split at hd
        · rename_i h; rw [show i = 0 by omega]; exact Nat.dvd_zero _
        · rw [Nat.sub_zero] at hd; rw [hd]; exact hdd
    exact ⟨⟨g1, Nat.dvd_add hij.1 h2⟩, g2, Nat.dvd_add hij.2 h2⟩
/-- how two rows stand ahead of a turn -/
def OvSt (r s : List Nat) (A B i j : Nat) : Prop := (r = [] ∧ s = [] ∧ i = 0 ∧ j = 0) ∨
  ∃ x r' y s', r = x :: r' ∧ s = y :: s' ∧ i < un x ∧ j < un y ∧ A + od x * i = B + od y * j ∧ (flat r).drop i = (flat s).drop j
def OvOk (t : OvT) : Prop := 0 < t.2.2 ∧ 0 < bsz t.1 t.2.1 ∧ bsz t.1 t.2.1 ∣ t.2.2 ∧ max t.1.1 t.2.1.1 ≤ min (t.1.1 + t.1.2) (t.2.1.1 + t.2.1.2)
theorem meet_main : ∀ (f : Nat) (r s : List Nat) (A B i j : Nat), r.length + s.length ≤ f → (∀ x ∈ r, x ≠ 0) → (∀ x ∈ s, x ≠ 0) → (i = 0 ∨ j = 0) → OvSt r s A B i j →
    (∀ t ∈ ov (hps A r) (hps B s), OvOk t) ∧ flat (mt (ov (hps A r) (hps B s))) = (flat r).drop i ∧
    ∀ w k, 1 ≤ k → w < nu r - i → pt (mt (ov (hps A r) (hps B s))) w k = (pt r (i + w) k && pt s (j + w) k) := by
  intro f
  induction f with
  | zero =>
    intro r s A B i j hf hr hs h0 st
    rcases st with ⟨rfl, rfl, rfl, rfl⟩ | ⟨x, r', y, s', rfl, rfl, _⟩
    · refine ⟨by simp [hps, ov], by simp [hps, ov, mt, flat], ?_⟩
      intro w k _ hw
      simp [nu] at hw
    · simp at hf
  | succ f ih =>
    intro r s A B i j hf hr hs h0 st
    rcases st with ⟨rfl, rfl, rfl, rfl⟩ | ⟨x, r', y, s', rfl, rfl, hi, hj, hpos, hfl⟩
    · refine ⟨by simp [hps, ov], by simp [hps, ov, mt, flat], ?_⟩
      intro w k _ hw
      simp [nu] at hw
    have hx := hr x List.mem_cons_self
    have hy := hs y List.mem_cons_self
    have hr' : ∀ z ∈ r', z ≠ 0 := fun z hz => hr z (List.mem_cons_of_mem _ hz)
    have hs' : ∀ z ∈ s', z ≠ 0 := fun z hz => hs z (List.mem_cons_of_mem _ hz)
    rw [drop_flat hi, drop_flat hj] at hfl
    have ho : od x = od y := by
      obtain ⟨p, hp⟩ : ∃ p, un x - i = p + 1 := ⟨un x - i - 1, by omega⟩
      obtain ⟨q, hq⟩ : ∃ q, un y - j = q + 1 := ⟨un y - j - 1, by omega⟩
      rw [hp, hq, List.replicate_succ, List.replicate_succ] at hfl
      exact (List.cons.inj hfl).1
    have hmo := od_odd hx
    have hm : 0 < od x := od_pos hx
    have ex := od_un x
    have ey := od_un y
    rw [← ho] at hfl ey hpos
    have hb := bsz_eq hx hy ho hpos
    generalize hbe : be (tz x) (tz y) (if i ≤ j then j - i else i - j) = b at hb
    have hbp : 0 < 2 ^ b := Nat.pow_pos (by omega)
    have hbx : b ≤ tz x := hbe ▸ be_le1 _ _ _
    have hby : b ≤ tz y := hbe ▸ be_le2 _ _ _
    have hbd : 2 ^ b ∣ (if i ≤ j then j - i else i - j) := hbe ▸ be_dvd _ _ _
    have hbi : 2 ^ b ∣ i ∧ 2 ^ b ∣ j := by
      rcases h0 with h0 | h0
      · subst h0
        rw [if_pos (Nat.zero_le _), Nat.sub_zero] at hbd
        exact ⟨Nat.dvd_zero _, hbd⟩
      · subst h0
        refine ⟨?_, Nat.dvd_zero _⟩
        split at hbd
        · rename_i h; rw [show i = 0 by omega]; exact Nat.dvd_zero _
        · rw [Nat.sub_zero] at hbd; exact hbd
    have hbux : 2 ^ b ∣ un x := Nat.pow_dvd_pow 2 hbx
    have hbuy : 2 ^ b ∣ un y := Nat.pow_dvd_pow 2 hby
    have ax : A + x = (A + od x * i) + od x * (un x - i) := by
      rw [Nat.mul_sub]
      have : od x * i ≤ od x * un x := Nat.mul_le_mul_left _ (by omega)
      omega
    have ay : B + y = (B + od x * j) + od x * (un y - j) := by
      rw [Nat.mul_sub]
      have : od x * j ≤ od x * un y := Nat.mul_le_mul_left _ (by omega)
      omega
    have hmax : max A B = A + od x * i := by
      rcases h0 with h0 | h0
      · subst h0
        have : od x * 0 = 0 := Nat.mul_zero _
        omega
      · subst h0
        have : od x * 0 = 0 := Nat.mul_zero _
        omega
    have hO : ov (hps A (x :: r')) (hps B (y :: s')) = ((A, x), (B, y), min (A + x) (B + y) - max A B) ::
      (if A + x = B + y then ov (hps (A + x) r') (hps (B + y) s') else if A + x < B + y then ov (hps (A + x) r') (hps B (y :: s')) else ov (hps A (x :: r')) (hps (B + y) s')) := by
      show ov ((A, x) :: hps (A + x) r') ((B, y) :: hps (B + y) s') = _
      rw [ov_cons]; rfl
    have cmp : ∀ p q : Nat, od x * p < od x * q ↔ p < q := fun p q => Nat.mul_lt_mul_left hm
    -- the units that both share now
    generalize he : min (un x - i) (un y - j) = e
    have he0 : 0 < e := by omega
    have hsh : min (A + x) (B + y) - max A B = od x * e := by
      rw [hmax, ax, ay, ← hpos, ← he]
      rcases Nat.le_total (un x - i) (un y - j) with h | h
      · rw [Nat.min_eq_left h, Nat.min_eq_left (Nat.add_le_add_left (Nat.mul_le_mul_left _ h) _)]; omega
      · rw [Nat.min_eq_right h, Nat.min_eq_right (Nat.add_le_add_left (Nat.mul_le_mul_left _ h) _)]; omega
    have hbe2 : 2 ^ b ∣ e := by
      rw [← he]
      rcases Nat.le_total (un x - i) (un y - j) with h | h
      · rw [Nat.min_eq_left h]; exact Nat.dvd_sub hbux hbi.1
      · rw [Nat.min_eq_right h]; exact Nat.dvd_sub hbuy hbi.2
    obtain ⟨c, hc⟩ := hbe2
    have hcnt : (od x * e) / (od x * 2 ^ b) = c := by
      rw [hc, Nat.mul_div_mul_left _ _ hm, Nat.mul_div_cancel_left _ hbp]
    have hce : c * 2 ^ b = e := by rw [hc, Nat.mul_comm]
    rw [hO, mt_cons]
    simp only [hsh, hb, hcnt]
    have okt : OvOk ((A, x), (B, y), od x * e) := by
      refine ⟨Nat.mul_pos hm he0, by rw [show bsz (A, x) (B, y) = od x * 2 ^ b from hb]; exact Nat.mul_pos hm hbp, ?_, ?_⟩
      · rw [show bsz (A, x) (B, y) = od x * 2 ^ b from hb]
        exact Nat.mul_dvd_mul_left _ ⟨c, hc⟩
      · have : 0 < od x * e := Nat.mul_pos hm he0
        show max A B ≤ min (A + x) (B + y)
        omega
    -- what the rest gives
    have rest : ∀ (r2 s2 : List Nat) (A2 B2 i2 j2 : Nat), r2.length + s2.length ≤ f → (∀ x ∈ r2, x ≠ 0) → (∀ x ∈ s2, x ≠ 0) → (i2 = 0 ∨ j2 = 0) → OvSt r2 s2 A2 B2 i2 j2 → (flat (x :: r')).drop i = List.replicate e (od x) ++ (flat r2).drop i2 → nu (x :: r') - i = e + (nu r2 - i2) →
        (∀ w k, e ≤ w → pt (x :: r') (i + w) k = pt r2 (i2 + (w - e)) k) → (∀ w k, e ≤ w → pt (y :: s') (j + w) k = pt s2 (j2 + (w - e)) k) →
        (∀ t ∈ ((A, x), (B, y), od x * e) :: ov (hps A2 r2) (hps B2 s2), OvOk t) ∧ flat (List.replicate c (od x * 2 ^ b) ++ mt (ov (hps A2 r2) (hps B2 s2))) = (flat (x :: r')).drop i ∧
        ∀ w k, 1 ≤ k → w < nu (x :: r') - i → pt (List.replicate c (od x * 2 ^ b) ++ mt (ov (hps A2 r2) (hps B2 s2))) w k = (pt (x :: r') (i + w) k && pt (y :: s') (j + w) k) := by
      intro r2 s2 A2 B2 i2 j2 g1 g2 g3 g4 g5 g6 g7 g8 g9
      obtain ⟨k1, k2, k3⟩ := ih r2 s2 A2 B2 i2 j2 g1 g2 g3 g4 g5
      refine ⟨?_, ?_, ?_⟩
      · intro t ht
        rcases List.mem_cons.mp ht with rfl | ht
        · exact okt
        · exact k1 t ht
      · rw [flat_append, k2, flat_rep c _ b hmo, hce, g6]
      · intro w k hk hw
        have hnu : nu (List.replicate c (od x * 2 ^ b)) = e := by rw [← nu_flat, flat_rep c _ b hmo, List.length_replicate, hce]
        rw [pt_append, hnu]
        by_cases hwe : w < e
        · rw [if_pos hwe, pt_rep hmo k c w (by rw [hce]; exact hwe), pt_in (by omega), pt_in (by omega), both h0, hbe]
        · rw [if_neg hwe, k3 (w - e) k hk (by omega), g8 w k (by omega), g9 w k (by omega)]
    by_cases h1 : A + x = B + y
    · rw [if_pos h1]
      have hee : un x - i = un y - j := by
        rw [ax, ay, ← hpos] at h1
        exact Nat.eq_of_mul_eq_mul_left hm (by omega)
      have e1 : e = un x - i := by omega
      refine rest r' s' (A + x) (B + y) 0 0 (by simp at hf; omega) hr' hs' (.inl rfl) ?_ ?_ ?_ ?_ ?_
      · have hfl2 : flat r' = flat s' := by rw [hee] at hfl; exact List.append_cancel_left hfl
        cases r' with
        | nil =>
          cases s' with
          | nil => exact .inl ⟨rfl, rfl, rfl, rfl⟩
          | cons y2 s2 =>
            rw [flat_nil, flat_cons] at hfl2
            obtain ⟨p, hp⟩ : ∃ p, un y2 = p + 1 := ⟨un y2 - 1, by have := un_pos y2; omega⟩
            rw [hp, List.replicate_succ] at hfl2; cases hfl2
        | cons x2 r2 =>
          cases s' with
          | nil =>
            rw [flat_nil, flat_cons] at hfl2
            obtain ⟨p, hp⟩ : ∃ p, un x2 = p + 1 := ⟨un x2 - 1, by have := un_pos x2; omega⟩
            rw [hp, List.replicate_succ] at hfl2; cases hfl2
          | cons y2 s2 => exact .inr ⟨x2, r2, y2, s2, rfl, rfl, un_pos _, un_pos _, by rw [Nat.mul_zero, Nat.mul_zero]; omega, by rw [hfl2]⟩
      · rw [drop_flat hi, List.drop_zero, e1]
      · rw [nu_cons]; omega
      · intro w k hw
        rw [pt_out (by omega)]; congr 1; omega
      · intro w k hw
        rw [pt_out (by omega)]; congr 1; omega
    rw [if_neg h1]
    by_cases h2 : A + x < B + y
    · rw [if_pos h2]
      have hee : un x - i < un y - j := by
        rw [ax, ay, ← hpos] at h2
        exact (cmp _ _).mp (by omega)
      have e1 : e = un x - i := by omega
      have hfl2 : flat r' = List.replicate (un y - j - (un x - i)) (od x) ++ flat s' := rep_split (by omega) hfl
      refine rest r' (y :: s') (A + x) B 0 (j + e) (by simp at hf ⊢; omega) hr' hs (.inl rfl) ?_ ?_ ?_ ?_ ?_
      · cases r' with
        | nil =>
          rw [flat_nil] at hfl2
          obtain ⟨p, hp⟩ : ∃ p, un y - j - (un x - i) = p + 1 := ⟨un y - j - (un x - i) - 1, by omega⟩
          rw [hp, List.replicate_succ] at hfl2; cases hfl2
        | cons x2 r2 =>
          refine .inr ⟨x2, r2, y, s', rfl, rfl, un_pos _, by omega, ?_, ?_⟩
          · rw [Nat.mul_zero, ← ho, Nat.mul_add, e1]; omega
          · rw [List.drop_zero, hfl2, drop_flat (by omega), ← ho]; congr 2; omega
      · rw [drop_flat hi, List.drop_zero, e1]
      · rw [nu_cons]; omega
      · intro w k hw
        rw [pt_out (by omega)]; congr 1; omega
      · intro w k hw
        congr 1; omega
    · rw [if_neg h2]
      have hee : un y - j < un x - i := by
        rw [ax, ay, ← hpos] at h1 h2
        refine (cmp _ _).mp ?_
        omega
      have e1 : e = un y - j := by omega
      have hfl2 : flat s' = List.replicate (un x - i - (un y - j)) (od x) ++ flat r' := rep_split (by omega) hfl.symm
      refine rest (x :: r') s' A (B + y) (i + e) 0 (by simp at hf ⊢; omega) hr hs' (.inr rfl) ?_ ?_ ?_ ?_ ?_
      · cases s' with
        | nil =>
          rw [flat_nil] at hfl2
          obtain ⟨p, hp⟩ : ∃ p, un x - i - (un y - j) = p + 1 := ⟨un x - i - (un y - j) - 1, by omega⟩
          rw [hp, List.replicate_succ] at hfl2; cases hfl2
        | cons y2 s2 =>
          refine .inr ⟨x, r', y2, s2, rfl, rfl, by omega, un_pos _, ?_, ?_⟩
          · rw [Nat.mul_zero, Nat.mul_add, e1]; omega
          · rw [List.drop_zero, hfl2, drop_flat (by omega)]; congr 2; omega
      · rw [drop_flat hi, drop_flat (by omega), ← List.append_assoc, List.replicate_append_replicate]
        congr 2; omega
      · rw [nu_cons]; omega
      · intro w k hw
        congr 1; omega
      · intro w k hw
        rw [pt_out (by omega)]; congr 1; omega
end N
set_option Elab.async false
set_option linter.all false
set_option maxRecDepth 100000
set_option maxHeartbeats 4000000
namespace N
theorem tz_dbl {x : Nat} (h : x ≠ 0) : tz (2 * x) = tz x + 1 := by
  rw [tz_even (by omega) (by omega)]
  congr 1; congr 1; omega
theorem pt_lt : ∀ {r : List Nat} {w k : Nat}, pt r w k = true → w < nu r
  | [], w, k, h => by simp [pt] at h
  | x :: r, w, k, h => by
    rw [nu_cons]
    have h : (if w < un x then decide (k ≤ tz x) && decide (w % 2 ^ k = 0) else pt r (w - un x) k) = true := h
    by_cases hw : w < un x
    · omega
    · rw [if_neg hw] at h
      have := pt_lt h
      omega
theorem pt_le : ∀ {r : List Nat} {w k : Nat}, pt r w k = true → ∃ x ∈ r, k ≤ tz x
  | [], w, k, h => by simp [pt] at h
  | x :: r, w, k, h => by
    have h : (if w < un x then decide (k ≤ tz x) && decide (w % 2 ^ k = 0) else pt r (w - un x) k) = true := h
    by_cases hw : w < un x
    · rw [if_pos hw] at h
      simp at h
      exact ⟨x, List.mem_cons_self, h.1⟩
    · rw [if_neg hw] at h
      obtain ⟨y, hy, hk⟩ := pt_le h
      exact ⟨y, List.mem_cons_of_mem _ hy, hk⟩
theorem pt_zero {r : List Nat} {w : Nat} (h : w < nu r) : pt r w 0 = true := by
  induction r generalizing w with
  | nil => simp [nu] at h
  | cons x r ih =>
    show (if w < un x then _ else _) = true
    split
    · simp [Nat.mod_one]
    · rw [nu_cons] at h
      exact ih (by omega)
/-- the heap that a unit lies in -/
theorem at_unit : ∀ {r : List Nat} {w : Nat}, w < nu r → ∃ a x b, r = a ++ x :: b ∧ nu a ≤ w ∧ w < nu a + un x
  | [], w, h => by simp [nu] at h
  | x :: r, w, h => by
    rw [nu_cons] at h
    by_cases hw : w < un x
    · exact ⟨[], x, r, rfl, by simp [nu], by simpa [nu] using hw⟩
    · obtain ⟨a, y, b, e, h1, h2⟩ := at_unit (r := r) (w := w - un x) (by omega)
      refine ⟨x :: a, y, b, by rw [e]; rfl, ?_, ?_⟩ <;> rw [nu_cons] <;> omega
theorem pt_at {a b : List Nat} {x w k : Nat} (h1 : nu a ≤ w) (h2 : w < nu a + un x) : pt (a ++ x :: b) w k = (decide (k ≤ tz x) && decide ((w - nu a) % 2 ^ k = 0)) := by
  rw [pt_append, if_neg (by omega)]
  show (if w - nu a < un x then _ else _) = _
  rw [if_pos (by omega)]
theorem mod_pow {w k : Nat} (h : w < 2 ^ k) : w % 2 ^ k = 0 ↔ w = 0 := by rw [Nat.mod_eq_of_lt h]
theorem mod_step {w k : Nat} (h1 : w % 2 ^ k = 0) (h2 : w % 2 ^ (k + 1) ≠ 0) : 2 ^ k ≤ w ∧ (w - 2 ^ k) % 2 ^ (k + 1) = 0 := by
  obtain ⟨c, hc⟩ := Nat.dvd_of_mod_eq_zero h1
  have hp : 0 < 2 ^ k := Nat.pow_pos (by omega)
  have hc1 : c % 2 = 1 := by
    rcases Nat.mod_two_eq_zero_or_one c with h | h
    · exfalso; apply h2
      rw [hc, Nat.pow_succ, show c = 2 * (c / 2) by omega, ← Nat.mul_assoc]
      exact Nat.mul_mod_right _ _
    · exact h
  have hce : c = 2 * (c / 2) + 1 := by omega
  have hw : w = 2 ^ k * (2 * (c / 2)) + 2 ^ k := by rw [hc]; conv => lhs; rw [hce]
                                                    rw [Nat.mul_add, Nat.mul_one]
  refine ⟨by omega, ?_⟩
  rw [show w - 2 ^ k = 2 ^ k * (2 * (c / 2)) by omega, Nat.pow_succ, ← Nat.mul_assoc]
  exact Nat.mul_mod_right _ _
/-- a part's halves are parts -/
theorem pt_half {r : List Nat} {w k : Nat} (h : pt r w (k + 1) = true) : pt r w k = true ∧ pt r (w + 2 ^ k) k = true := by
  obtain ⟨a, x, b, e, h1, h2⟩ := at_unit (pt_lt h)
  subst e
  rw [pt_at h1 h2] at h
  simp only [Bool.and_eq_true, decide_eq_true_eq] at h
  obtain ⟨hk, hm⟩ := h
  have hp : 2 ^ (k + 1) = 2 ^ k * 2 := Nat.pow_succ ..
  have hm' : (w - nu a) % 2 ^ k = 0 := Nat.mod_eq_zero_of_dvd (Nat.dvd_trans ⟨2, hp⟩ (Nat.dvd_of_mod_eq_zero hm))
  have hd : 2 ^ (k + 1) ∣ un x := Nat.pow_dvd_pow 2 hk
  have hlt : w - nu a + 2 ^ (k + 1) ≤ un x := by
    obtain ⟨c, hc⟩ := Nat.dvd_of_mod_eq_zero hm
    obtain ⟨d, hd⟩ := hd
    have h3 : 2 ^ (k + 1) * c < 2 ^ (k + 1) * d := by omega
    have h4 : c < d := Nat.lt_of_mul_lt_mul_left h3
    have : 2 ^ (k + 1) * (c + 1) ≤ 2 ^ (k + 1) * d := Nat.mul_le_mul_left _ h4
    rw [Nat.mul_add, Nat.mul_one] at this
    omega
  have hpk : 0 < 2 ^ k := Nat.pow_pos (by omega)
  refine ⟨?_, ?_⟩
  · rw [pt_at h1 h2]; simp [hm']; omega
  · rw [pt_at (by omega) (by omega)]
    have : (w + 2 ^ k - nu a) % 2 ^ k = 0 := by
      rw [show w + 2 ^ k - nu a = (w - nu a) + 2 ^ k by omega, Nat.add_mod_right]; exact hm'
    simp [this]; omega
/-- a part of 2 ^ k units ends within its heap -/
theorem pt_end {a b : List Nat} {x w k : Nat} (h1 : nu a ≤ w) (h2 : w < nu a + un x) (h : pt (a ++ x :: b) w k = true) : w + 2 ^ k ≤ nu a + un x := by
  rw [pt_at h1 h2] at h
  simp only [Bool.and_eq_true, decide_eq_true_eq] at h
  obtain ⟨hk, hm⟩ := h
  obtain ⟨c, hc⟩ := Nat.dvd_of_mod_eq_zero hm
  obtain ⟨d, hd⟩ : 2 ^ k ∣ un x := Nat.pow_dvd_pow 2 hk
  have h4 : c < d := Nat.lt_of_mul_lt_mul_left (a := 2 ^ k) (by omega)
  have : 2 ^ k * (c + 1) ≤ 2 ^ k * d := Nat.mul_le_mul_left _ h4
  rw [Nat.mul_add, Nat.mul_one] at this
  omega
/-- parts of the same size do not cross -/
theorem pt_lam {r : List Nat} {w v k : Nat} (h : pt r w k = true) (g : pt r v k = true) (h1 : w ≤ v) (h2 : v < w + 2 ^ k) : w = v := by
  obtain ⟨a, x, b, e, k1, k2⟩ := at_unit (pt_lt h)
  subst e
  have he := pt_end k1 k2 h
  rw [pt_at k1 k2] at h
  rw [pt_at (w := v) (by omega) (by omega)] at g
  simp only [Bool.and_eq_true, decide_eq_true_eq] at h g
  obtain ⟨c, hc⟩ := Nat.dvd_of_mod_eq_zero h.2
  obtain ⟨d, hd⟩ := Nat.dvd_of_mod_eq_zero g.2
  have hpk : 0 < 2 ^ k := Nat.pow_pos (by omega)
  have h6 : 2 ^ k * c ≤ 2 ^ k * d := by omega
  have l1 : c ≤ d := Nat.le_of_mul_le_mul_left h6 hpk
  have l2 : d < c + 1 := by
    have h5 : 2 ^ k * d < 2 ^ k * (c + 1) := by rw [Nat.mul_succ]; omega
    exact Nat.lt_of_mul_lt_mul_left h5
  have : c = d := by omega
  subst this
  omega
theorem flat_od {a b : List Nat} {x w : Nat} (h1 : nu a ≤ w) (h2 : w < nu a + un x) : (flat (a ++ x :: b))[w]? = some (od x) := by
  rw [flat_append, List.getElem?_append_right (by rw [nu_flat]; exact h1), nu_flat, flat_cons, List.getElem?_append_left (by rw [List.length_replicate]; omega), List.getElem?_replicate, if_pos (by omega)]
theorem nu_eq {r t : List Nat} (h : flat r = flat t) : nu r = nu t := by rw [← nu_flat, ← nu_flat, h]
/-- odd heaps and parts make the row -/
theorem row_eq : ∀ {r t : List Nat}, flat r = flat t → (∀ w k, 1 ≤ k → pt r w k = pt t w k) → r = t
  | [], [], _, _ => rfl
  | [], y :: t, h, _ => by
    have h1 := nu_eq h
    have h2 := un_pos y
    rw [nu_cons] at h1
    simp [nu] at h1; omega
  | x :: r, [], h, _ => by
    have h1 := nu_eq h
    have h2 := un_pos x
    rw [nu_cons] at h1
    simp [nu] at h1; omega
  | x :: r, y :: t, h, hp => by
    have o1 := flat_od (a := []) (b := r) (x := x) (w := 0) (by simp [nu]) (by simpa [nu] using un_pos x)
    have o2 := flat_od (a := []) (b := t) (x := y) (w := 0) (by simp [nu]) (by simpa [nu] using un_pos y)
    rw [List.nil_append] at o1 o2
    rw [h, o2] at o1
    have ho : od y = od x := Option.some.inj o1
    have e1 : ∀ k, 1 ≤ k → (decide (k ≤ tz x) = decide (k ≤ tz y)) := by
      intro k hk
      have := hp 0 k hk
      have h1 : pt (x :: r) 0 k = decide (k ≤ tz x) := by
        show (if 0 < un x then _ else _) = _
        rw [if_pos (un_pos x)]; simp
      have h2 : pt (y :: t) 0 k = decide (k ≤ tz y) := by
        show (if 0 < un y then _ else _) = _
        rw [if_pos (un_pos y)]; simp
      rw [h1, h2] at this
      exact this
    have ht : tz x = tz y := by
      by_cases g : tz x < tz y
      · have := e1 (tz y) (by omega)
        simp at this; omega
      · by_cases g2 : tz y < tz x
        · have := e1 (tz x) (by omega)
          simp at this; omega
        · omega
    have hxy : x = y := by
      have a1 := od_un x
      have a2 := od_un y
      rw [ho, un_eq, ← ht, ← un_eq, a1] at a2
      exact a2
    subst hxy
    rw [flat_cons, flat_cons] at h
    have h' := List.append_cancel_left h
    rw [row_eq h' (fun w k hk => by
      have := hp (un x + w) k hk
      rw [pt_out (by omega), pt_out (by omega), Nat.add_sub_cancel_left] at this
      exact this)]
theorem od_ne {x : Nat} : x ≠ 0 ↔ 0 < od x := by
  refine ⟨fun h => od_pos h, fun h e => ?_⟩
  subst e
  simp [od] at h
theorem flat_ne {r : List Nat} : (∀ x ∈ r, x ≠ 0) ↔ ∀ m ∈ flat r, 0 < m := by
  constructor
  · intro h m hm
    unfold flat at hm
    obtain ⟨x, hx, hm⟩ := List.mem_flatMap.mp hm
    rw [(List.mem_replicate.mp hm).2]
    exact od_pos (h x hx)
  · intro h x hx
    rw [od_ne]
    apply h
    unfold flat
    exact List.mem_flatMap.mpr ⟨x, hx, List.mem_replicate.mpr ⟨by have := un_pos x; omega, rfl⟩⟩
theorem bound (r : List Nat) : ∃ N, ∀ x ∈ r, tz x ≤ N := by
  induction r with
  | nil => exact ⟨0, by simp⟩
  | cons y r ih =>
    obtain ⟨N, h⟩ := ih
    refine ⟨N + tz y, fun x hx => ?_⟩
    rcases List.mem_cons.mp hx with rfl | hx
    · omega
    · have := h x hx; omega
/-- the row of the meeting -/
def mr (r s : List Nat) : List Nat := mt (ov (hps 0 r) (hps 0 s))
theorem ovst {r s : List Nat} (h : flat r = flat s) : OvSt r s 0 0 0 0 := by
  cases r with
  | nil =>
    cases s with
    | nil => exact .inl ⟨rfl, rfl, rfl, rfl⟩
    | cons y s => have h1 := nu_eq h; have h2 := un_pos y; rw [nu_cons] at h1; simp [nu] at h1; omega
  | cons x r =>
    cases s with
    | nil => have h1 := nu_eq h; have h2 := un_pos x; rw [nu_cons] at h1; simp [nu] at h1; omega
    | cons y s => exact .inr ⟨x, r, y, s, rfl, rfl, un_pos _, un_pos _, by simp, by rw [h]⟩
theorem mr_ok {r s : List Nat} (hr : ∀ x ∈ r, x ≠ 0) (hs : ∀ x ∈ s, x ≠ 0) (h : flat r = flat s) : (∀ t ∈ ov (hps 0 r) (hps 0 s), OvOk t) ∧ flat (mr r s) = flat r ∧ ∀ w k, 1 ≤ k → pt (mr r s) w k = (pt r w k && pt s w k) := by
  obtain ⟨h1, h2, h3⟩ := meet_main _ r s 0 0 0 0 (Nat.le_refl _) hr hs (.inl rfl) (ovst h)
  have h2 : flat (mr r s) = flat r := h2
  refine ⟨h1, h2, fun w k hk => ?_⟩
  by_cases hw : w < nu r
  · have := h3 w k hk (by omega)
    rw [Nat.zero_add] at this
    exact this
  · have n1 : pt (mr r s) w k = false := by
      cases e : pt (mr r s) w k with
      | false => rfl
      | true => have := pt_lt e; rw [nu_eq h2] at this; omega
    have n2 : pt r w k = false := by
      cases e : pt r w k with
      | false => rfl
      | true => have := pt_lt e; omega
    rw [n1, n2]; rfl
theorem mr_uniq {r s m : List Nat} (hr : ∀ x ∈ r, x ≠ 0) (hs : ∀ x ∈ s, x ≠ 0) (h : flat r = flat s) (hm : flat m = flat r) (hp : ∀ w k, 1 ≤ k → pt m w k = (pt r w k && pt s w k)) : mr r s = m := by
  obtain ⟨_, h2, h3⟩ := mr_ok hr hs h
  exact row_eq (h2.trans hm.symm) fun w k hk => by rw [h3 w k hk, hp w k hk]
theorem mr_symm {r s : List Nat} (hr : ∀ x ∈ r, x ≠ 0) (hs : ∀ x ∈ s, x ≠ 0) (h : flat r = flat s) : mr r s = mr s r := by
  obtain ⟨_, h2, h3⟩ := mr_ok hs hr h.symm
  exact mr_uniq hr hs h (h2.trans h.symm) fun w k hk => by rw [h3 w k hk, Bool.and_comm]
theorem mr_self {r : List Nat} (hr : ∀ x ∈ r, x ≠ 0) : mr r r = r := mr_uniq hr hr rfl rfl fun w k _ => by rw [Bool.and_self]
/-- the distance -/
theorem df_mr {N : Nat} {r s : List Nat} (hr : ∀ x ∈ r, x ≠ 0) (hs : ∀ x ∈ s, x ≠ 0) (h : flat r = flat s) (br : ∀ x ∈ r, tz x ≤ N) (bs : ∀ x ∈ s, tz x ≤ N) : df N r s + r.length + s.length = 2 * (mr r s).length ∧ cm N r s + (mr r s).length = nu r := by
  obtain ⟨_, h2, h3⟩ := mr_ok hr hs h
  have hbm : ∀ x ∈ mr r s, tz x ≤ N := by
    intro x hx
    by_cases h0 : tz x = 0
    · omega
    obtain ⟨a, b, e⟩ := List.append_of_mem hx
    have hp : pt (mr r s) (nu a) (tz x) = true := by
      rw [e, pt_at (Nat.le_refl _) (by have := un_pos x; omega)]; simp
    rw [h3 _ _ (by omega)] at hp
    simp only [Bool.and_eq_true] at hp
    obtain ⟨y, hy, hk⟩ := pt_le hp.1
    have := br y hy; omega
  have e1 := df_cm (N := N) (nu_eq h)
  have e2 := pn_eq br
  have e3 := pn_eq bs
  have e4 := pn_eq hbm
  have e5 : pn N (mr r s) = cm N r s := by
    unfold pn cm
    rw [nu_eq h2]
    exact sumR_congr fun w _ => kc_congr fun k hk _ => h3 w k hk
  have n1 := nu_eq h
  have n2 := nu_eq h2
  omega
theorem sumR_bump {f g : Nat → Nat} {a : Nat} : ∀ {n : Nat}, a < n → (∀ i, i < n → i ≠ a → f i = g i) → f a = g a + 1 → sumR f n = sumR g n + 1
  | n + 1, ha, h, hb => by
    show sumR f n + f n = sumR g n + g n + 1
    by_cases e : a = n
    · subst e
      rw [sumR_congr (fun i hi => h i (by omega) (by omega))]; omega
    · rw [sumR_bump (n := n) (by omega) (fun i hi hn => h i (by omega) hn) hb, h n (by omega) (Ne.symm e)]; omega
/-- two tables that differ at one place -/
theorem tab_bump {N n W K : Nat} {p q : Nat → Nat → Bool} (hW : W < n) (h1 : 1 ≤ K) (h2 : K ≤ N) (h : ∀ w k, ¬ (w = W ∧ k = K) → p w k = q w k) (hp : p W K = true) (hq : q W K = false) : sumR (fun w => kc N (p w)) n = sumR (fun w => kc N (q w)) n + 1 := by
  refine sumR_bump hW (fun w _ hw => kc_congr fun k _ _ => h w k (fun z => hw z.1)) ?_
  refine sumR_bump (a := K - 1) (by omega) (fun i _ hi => by rw [h W (i + 1) (fun z => hi (by omega))]) ?_
  rw [show K - 1 + 1 = K by omega, hp, hq]; rfl
/-- a step: one part more -/
structure Bump (r r' : List Nat) (W K : Nat) : Prop where
  fl : flat r' = flat r
  lt : W < nu r
  one : 1 ≤ K
  off : pt r W K = false
  on : pt r' W K = true
  same : ∀ w k, ¬ (w = W ∧ k = K) → pt r' w k = pt r w k
theorem df_bump {N W K : Nat} {s r r' : List Nat} (b : Bump r r' W K) (hN : K ≤ N) (hs : nu s = nu r) : (pt s W K = true → df N s r = df N s r' + 1) ∧ (pt s W K = false → df N s r' = df N s r + 1) := by
  have hl : W < nu s := by rw [hs]; exact b.lt
  refine ⟨fun h => ?_, fun h => ?_⟩
  · unfold df
    exact tab_bump hl b.one hN (fun w k hn => by rw [b.same w k hn]) (by rw [h, b.off]; rfl) (by rw [h, b.on]; rfl)
  · unfold df
    exact tab_bump hl b.one hN (fun w k hn => by rw [b.same w k hn]) (by rw [h, b.on]; rfl) (by rw [h, b.off]; rfl)
theorem bump_join {a b : List Nat} {x : Nat} (h : x ≠ 0) : Bump (a ++ x :: x :: b) (a ++ 2 * x :: b) (nu a) (tz x + 1) := by
  have hu := (dbl h).1
  have ht := tz_dbl h
  have hp := un_pos x
  have hpw : 2 ^ (tz x + 1) = 2 * un x := by rw [Nat.pow_succ, un_eq]; omega
  refine ⟨?_, ?_, by omega, ?_, ?_, ?_⟩
  · have := flat_join h
    rw [flat_append, flat_append, show 2 * x :: b = [2 * x] ++ b from rfl, show x :: x :: b = [x, x] ++ b from rfl, flat_append, flat_append [x, x], this]
  · rw [nu_append, nu_cons]; omega
  · rw [pt_at (Nat.le_refl _) (by omega)]; simp
  · rw [pt_at (Nat.le_refl _) (by omega)]; simp [ht]
  · intro w k hn
    rw [pt_append, pt_append]
    by_cases hw : w < nu a
    · rw [if_pos hw, if_pos hw]
    rw [if_neg hw, if_neg hw]
    generalize hv : w - nu a = v
    have hn' : ¬ (v = 0 ∧ k = tz x + 1) := fun z => hn ⟨by omega, z.2⟩
    by_cases h1 : v < un x
    · rw [show pt (2 * x :: b) v k = (decide (k ≤ tz (2 * x)) && decide (v % 2 ^ k = 0)) from if_pos (by omega), show pt (x :: x :: b) v k = (decide (k ≤ tz x) && decide (v % 2 ^ k = 0)) from if_pos h1, ht]
      by_cases hk : k = tz x + 1
      · have : ¬ v % 2 ^ k = 0 := by
          rw [hk, hpw, Nat.mod_eq_of_lt (by omega)]
          intro z; exact hn' ⟨z, hk⟩
        simp [this]
      · congr 1
        exact decide_eq_decide.mpr (by omega)
    · rw [pt_out (r := x :: b) (by omega)]
      by_cases h2 : v < 2 * un x
      · rw [show pt (2 * x :: b) v k = (decide (k ≤ tz (2 * x)) && decide (v % 2 ^ k = 0)) from if_pos (by omega), show pt (x :: b) (v - un x) k = (decide (k ≤ tz x) && decide ((v - un x) % 2 ^ k = 0)) from if_pos (by omega), ht]
        by_cases hk : k = tz x + 1
        · have : ¬ v % 2 ^ k = 0 := by
            rw [hk, hpw, Nat.mod_eq_of_lt (by omega)]; omega
          have h3 : ¬ k ≤ tz x := by omega
          rw [decide_eq_false this, decide_eq_false h3, Bool.and_false, Bool.false_and]
        · by_cases hk2 : k ≤ tz x
          · have hd : 2 ^ k ∣ un x := Nat.pow_dvd_pow 2 hk2
            obtain ⟨c, hc⟩ := hd
            have : v % 2 ^ k = (v - un x) % 2 ^ k := by
              conv => lhs; rw [show v = (v - un x) + 2 ^ k * c by omega, Nat.add_mul_mod_self_left]
            rw [this]
            congr 1
            exact decide_eq_decide.mpr (by omega)
          · simp [hk2, show ¬ k ≤ tz x + 1 by omega]
      · rw [pt_out (by omega), pt_out (by omega)]
        congr 1; omega
end N
set_option Elab.async false
set_option linter.all false
set_option maxRecDepth 100000
set_option maxHeartbeats 4000000
namespace N
theorem pt_sub {t : List Nat} {W K w k : Nat} (h : pt t W K = true) (hk : k ≤ K) (h1 : W ≤ w) (h2 : w < W + 2 ^ K) (hm : (w - W) % 2 ^ k = 0) : pt t w k = true := by
  obtain ⟨c, y, d, e, k1, k2⟩ := at_unit (pt_lt h)
  subst e
  have he := pt_end k1 k2 h
  rw [pt_at k1 k2] at h
  simp only [Bool.and_eq_true, decide_eq_true_eq] at h
  rw [pt_at (w := w) (by omega) (by omega)]
  have h3 : 2 ^ k ∣ W - nu c := Nat.dvd_trans (Nat.pow_dvd_pow 2 hk) (Nat.dvd_of_mod_eq_zero h.2)
  have h4 : 2 ^ k ∣ w - W := Nat.dvd_of_mod_eq_zero hm
  have h5 : 2 ^ k ∣ w - nu c := by
    rw [show w - nu c = (w - W) + (W - nu c) by omega]
    exact Nat.dvd_add h4 h3
  rw [Nat.mod_eq_zero_of_dvd h5, decide_eq_true (show k ≤ tz y by omega)]; rfl
theorem near_none {r t : List Nat} (hr : ∀ x ∈ r, x ≠ 0) (h : flat r = flat t) (h1 : ∀ a x b, r = a ++ x :: b → x % 2 = 0 → pt t (nu a) (tz x) = true) (h2 : ∀ a x b, r = a ++ x :: x :: b → pt t (nu a) (tz x + 1) = false) : r = t := by
  have hnu := nu_eq h
  have sub : ∀ w k, pt r w k = true → pt t w k = true := by
    intro w k hp
    have hw := pt_lt hp
    obtain ⟨a, x, b, e, k1, k2⟩ := at_unit hw
    by_cases h0 : tz x = 0
    · rw [e, pt_at k1 k2, h0] at hp
      simp only [Bool.and_eq_true, decide_eq_true_eq] at hp
      rw [show k = 0 by omega]
      exact pt_zero (by omega)
    · have hx : x ≠ 0 := hr x (by rw [e]; exact List.mem_append_right _ List.mem_cons_self)
      have hev : x % 2 = 0 := by
        rcases Nat.mod_two_eq_zero_or_one x with z | z
        · exact z
        · exact absurd (tz_odd z) h0
      have ht := h1 a x b e hev
      rw [e, pt_at k1 k2] at hp
      simp only [Bool.and_eq_true, decide_eq_true_eq] at hp
      exact pt_sub ht hp.1 k1 (by rw [← un_eq]; exact k2) hp.2
  have sup : ∀ k w, pt t w k = true → pt r w k = true := by
    intro k
    induction k with
    | zero => intro w hp; exact pt_zero (by rw [hnu]; exact pt_lt hp)
    | succ k ih =>
      intro w hp
      obtain ⟨p1, p2⟩ := pt_half hp
      have q1 := ih _ p1
      have q2 := ih _ p2
      cases hc : pt r w (k + 1) with
      | true => rfl
      | false =>
        exfalso
        have hpk : 0 < 2 ^ k := Nat.pow_pos (by omega)
        have hpk1 : 2 ^ (k + 1) = 2 ^ k + 2 ^ k := by rw [Nat.pow_succ]; omega
        obtain ⟨a, x, b, e, k1, k2⟩ := at_unit (pt_lt q1)
        rw [e, pt_at k1 k2] at q1 hc
        simp only [Bool.and_eq_true, decide_eq_true_eq] at q1
        by_cases hk : k + 1 ≤ tz x
        · rw [decide_eq_true hk, Bool.true_and, decide_eq_false_iff_not] at hc
          obtain ⟨m1, m2⟩ := mod_step q1.2 hc
          have g : pt r (w - 2 ^ k) (k + 1) = true := by
            rw [e, pt_at (by omega) (by omega), decide_eq_true hk, show w - 2 ^ k - nu a = w - nu a - 2 ^ k by omega, m2]; rfl
          have := pt_lam (sub _ _ g) hp (by omega) (by omega)
          omega
        · have htz : tz x = k := by omega
          have hu : un x = 2 ^ k := by rw [un_eq, htz]
          have hw : w = nu a := by
            have := q1.2
            rw [Nat.mod_eq_of_lt (by omega)] at this
            omega
          have hlt := pt_lt q2
          cases b with
          | nil =>
            rw [e, nu_append, nu_cons] at hlt
            simp [nu] at hlt k1 hw hu
            omega
          | cons y b' =>
            have e' : r = (a ++ [x]) ++ y :: b' := by rw [e]; simp
            have na : nu (a ++ [x]) = w + 2 ^ k := by rw [nu_append, nu_cons]; simp [nu] at hu hw ⊢; omega
            have huy := un_pos y
            have z2 : pt r (w + 2 ^ k) k = decide (k ≤ tz y) := by
              rw [e', pt_at (by omega) (by omega), na, Nat.sub_self, Nat.zero_mod]; simp
            rw [q2] at z2
            have hky : k ≤ tz y := by simpa using z2.symm
            by_cases hk2 : k + 1 ≤ tz y
            · have g : pt r (w + 2 ^ k) (k + 1) = true := by
                rw [e', pt_at (by omega) (by omega), na, Nat.sub_self, Nat.zero_mod, decide_eq_true hk2]; rfl
              have := pt_lam hp (sub _ _ g) (by omega) (by omega)
              omega
            · have hty : tz y = k := by omega
              obtain ⟨c, z, d, et, j1, j2⟩ := at_unit (pt_lt hp)
              have hend := pt_end (a := c) (b := d) (x := z) (w := w) (k := k + 1) j1 j2 (by rw [← et]; exact hp)
              have f1 := flat_od (a := c) (b := d) (x := z) (w := w) j1 j2
              have f2 := flat_od (a := c) (b := d) (x := z) (w := w + 2 ^ k) (by omega) (by omega)
              have f3 := flat_od (a := a) (b := y :: b') (x := x) (w := w) (by omega) k2
              have f4 := flat_od (a := a ++ [x]) (b := b') (x := y) (w := w + 2 ^ k) (by omega) (by omega)
              rw [← et, ← h] at f1 f2
              rw [← e] at f3
              rw [← e'] at f4
              rw [f1] at f3
              rw [f2] at f4
              have o1 := Option.some.inj f3
              have o2 := Option.some.inj f4
              have hxy : x = y := by
                have a1 := od_un x
                have a2 := od_un y
                rw [un_eq, htz, ← o1] at a1
                rw [un_eq, hty, ← o2] at a2
                omega
              subst hxy
              have := h2 a x b' e
              rw [htz, ← hw, hp] at this
              cases this
  refine row_eq h fun w k _ => ?_
  cases h3 : pt r w k with
  | true => exact (sub _ _ h3).symm
  | false =>
    cases h4 : pt t w k with
    | false => rfl
    | true => rw [sup _ _ h4] at h3; cases h3
end N
set_option Elab.async false
set_option linter.all false
set_option maxRecDepth 100000
set_option maxHeartbeats 4000000
namespace N
def ds (r s : List Nat) : Int := 2 * ((mr r s).length : Int) - (r.length : Int) - (s.length : Int)
/-- rows with the same odd heaps -/
structure Fam (f : List Nat) (r : List Nat) : Prop where
  pos : ∀ x ∈ r, x ≠ 0
  fl : flat r = f
theorem bound3 (r s t : List Nat) : ∃ N, (∀ x ∈ r, tz x ≤ N) ∧ (∀ x ∈ s, tz x ≤ N) ∧ (∀ x ∈ t, tz x ≤ N) := by
  obtain ⟨N, h⟩ := bound (r ++ (s ++ t))
  exact ⟨N, fun x hx => h x (List.mem_append_left _ hx), fun x hx => h x (List.mem_append_right _ (List.mem_append_left _ hx)), fun x hx => h x (List.mem_append_right _ (List.mem_append_right _ hx))⟩
theorem ds_df {N : Nat} {f r s : List Nat} (hr : Fam f r) (hs : Fam f s) (br : ∀ x ∈ r, tz x ≤ N) (bs : ∀ x ∈ s, tz x ≤ N) : ds r s = (df N r s : Int) := by
  have := (df_mr hr.pos hs.pos (hr.fl.trans hs.fl.symm) br bs).1
  unfold ds; omega
theorem ds_symm {f r s : List Nat} (hr : Fam f r) (hs : Fam f s) : ds s r = ds r s := by
  unfold ds
  rw [mr_symm hs.pos hr.pos (hs.fl.trans hr.fl.symm)]; omega
theorem ds_self {f r : List Nat} (hr : Fam f r) : ds r r = 0 := by
  unfold ds
  rw [mr_self hr.pos]; omega
theorem ds_nonneg {f r s : List Nat} (hr : Fam f r) (hs : Fam f s) : 0 ≤ ds r s := by
  obtain ⟨N, b1, b2, _⟩ := bound3 r s []
  rw [ds_df hr hs b1 b2]; omega
theorem ds_tri {f r s t : List Nat} (hr : Fam f r) (hs : Fam f s) (ht : Fam f t) : ds r t ≤ ds r s + ds s t := by
  obtain ⟨N, b1, b2, b3⟩ := bound3 r s t
  rw [ds_df hr ht b1 b3, ds_df hr hs b1 b2, ds_df hs ht b2 b3]
  have := df_tri (N := N) (t := t) (nu_eq (hr.fl.trans hs.fl.symm))
  omega
theorem ds_lt {f r s : List Nat} (hr : Fam f r) (hs : Fam f s) : ds r s ≤ 2 * (f.length : Int) := by
  have h2 := (mr_ok hr.pos hs.pos (hr.fl.trans hs.fl.symm)).2.1
  have h3 : (mr r s).length ≤ f.length := by
    rw [← hr.fl, ← h2, nu_flat]
    clear h2
    generalize mr r s = m
    induction m with
    | nil => simp
    | cons x m ih => rw [nu_cons, List.length_cons]; have := un_pos x; omega
  unfold ds; omega
theorem ds_bump {f s r r' : List Nat} {W K : Nat} (hs : Fam f s) (hr : Fam f r) (hr' : Fam f r') (b : Bump r r' W K) : (pt s W K = true → ds s r = ds s r' + 1) ∧ (pt s W K = false → ds s r' = ds s r + 1) := by
  obtain ⟨N, b1, b2, b3⟩ := bound3 s r r'
  obtain ⟨y, hy, hk⟩ := pt_le b.on
  have hKN : K ≤ N := Nat.le_trans hk (b3 y hy)
  have := df_bump b hKN (nu_eq (hs.fl.trans hr.fl.symm))
  rw [ds_df hs hr b1 b2, ds_df hs hr' b1 b3]
  exact ⟨fun h => by have := this.1 h; omega, fun h => by have := this.2 h; omega⟩
theorem ds_bump1 {f r r' : List Nat} {W K : Nat} (hr : Fam f r) (hr' : Fam f r') (b : Bump r r' W K) : ds r' r = 1 := by
  have := (ds_bump hr hr hr' b).2 b.off
  rw [ds_self hr] at this
  rw [ds_symm hr hr', this]; rfl
theorem join_eq {r : List Nat} {i x : Nat} (e : r = r.take i ++ [x, x] ++ r.drop (i + 2)) (hx : x ≠ 0) : Bump r (r.take i ++ [2 * x] ++ r.drop (i + 2)) (nu (r.take i)) (tz x + 1) := by
  have b := bump_join (a := r.take i) (b := r.drop (i + 2)) hx
  have e1 : r.take i ++ x :: x :: r.drop (i + 2) = r := by
    conv => rhs; rw [e]
    simp
  rw [e1] at b
  simpa using b
theorem split_eq {r : List Nat} {i x : Nat} (e : r = r.take i ++ [x] ++ r.drop (i + 1)) (hx : x ≠ 0) (he : x % 2 = 0) : Bump (r.take i ++ [x / 2, x / 2] ++ r.drop (i + 1)) r (nu (r.take i)) (tz x) := by
  have b := bump_join (a := r.take i) (b := r.drop (i + 1)) (x := x / 2) (by omega)
  have e0 : 2 * (x / 2) = x := by omega
  rw [e0] at b
  have e1 : r.take i ++ x :: r.drop (i + 1) = r := by
    conv => rhs; rw [e]
    simp
  rw [e1] at b
  rw [tz_even hx he]
  simpa using b
/-- the rows that a step joins, in one of the two orders -/
theorem mv_bump {r : List Nat} (hp : ∀ x ∈ r, x ≠ 0) {m : (Bool × Nat) × List Nat} (h : m ∈ mvs r) : ∃ W K, Bump r m.2 W K ∨ Bump m.2 r W K := by
  rcases mv_cases h with ⟨i, x, e, h1, h2, rfl⟩ | ⟨i, x, e, h1, h2, h3, rfl⟩
  · exact ⟨_, _, .inl (join_eq e (hp x (List.mem_of_getElem? h2)))⟩
  · exact ⟨_, _, .inr (split_eq e (hp x (List.mem_of_getElem? h2)) h3)⟩
theorem Fam.mv {f r : List Nat} (h : Fam f r) {m : (Bool × Nat) × List Nat} (hm : m ∈ mvs r) : Fam f m.2 := by
  have e := mv_flat h.pos hm
  exact ⟨flat_ne.mpr (by rw [e]; exact flat_ne.mp h.pos), e.trans h.fl⟩
theorem ds_mv {f r s : List Nat} (hs : Fam f s) (hr : Fam f r) {m : (Bool × Nat) × List Nat} (hm : m ∈ mvs r) : (ds s m.2 = ds s r + 1 ∨ ds s m.2 = ds s r - 1) ∧ ds m.2 r = 1 := by
  have hm2 := hr.mv hm
  obtain ⟨W, K, b | b⟩ := mv_bump hr.pos hm
  · refine ⟨?_, ds_bump1 hr hm2 b⟩
    have := ds_bump hs hr hm2 b
    cases hc : pt s W K with
    | true => have := this.1 hc; omega
    | false => have := this.2 hc; omega
  · refine ⟨?_, by rw [ds_symm hr hm2]; exact ds_bump1 hm2 hr b⟩
    have := ds_bump hs hm2 hr b
    cases hc : pt s W K with
    | true => have := this.1 hc; omega
    | false => have := this.2 hc; omega
theorem near_split {f r t a b : List Nat} {i x : Nat} (hr : Fam f r) (ht : Fam f t) (h : r = a ++ x :: b) (hi : a.length = i) (he : x % 2 = 0) (hp : pt t (nu a) (tz x) = false) : ∃ m ∈ mvs r, m.1 = (false, i) ∧ ds m.2 t = ds r t - 1 := by
  have hx : r[i]? = some x := by rw [h, ← hi]; simp
  have htk : r.take i = a := by rw [h, ← hi]; simp
  have hdr : r.drop (i + 1) = b := by rw [h, ← hi]; simp
  have hx0 : x ≠ 0 := hr.pos x (by rw [h]; exact List.mem_append_right _ List.mem_cons_self)
  have hm : ((false, i), r.take i ++ [x / 2, x / 2] ++ r.drop (i + 1)) ∈ mvs r := mvs_mem.mpr ⟨i, x, hx, List.mem_append_right _ (by rw [if_pos he]; exact List.mem_singleton.mpr rfl)⟩
  refine ⟨_, hm, rfl, ?_⟩
  have hm2 := hr.mv hm
  have bb := split_eq (r := r) (i := i) (x := x) (by rw [htk, hdr, h]; simp) hx0 he
  rw [htk] at bb
  have := (ds_bump ht hm2 hr (by rw [htk]; exact bb)).2 hp
  rw [ds_symm ht hm2, ds_symm ht hr]; omega
theorem near_join {f r t a b : List Nat} {i x : Nat} (hr : Fam f r) (ht : Fam f t) (h : r = a ++ x :: x :: b) (hi : a.length = i) (hp : pt t (nu a) (tz x + 1) = true) : ∃ m ∈ mvs r, m.1 = (true, i) ∧ ds m.2 t = ds r t - 1 := by
  have hx : r[i]? = some x := by rw [h, ← hi]; simp
  have hx1 : r[i + 1]? = some x := by rw [h, ← hi, List.getElem?_append_right (by omega)]; simp
  have htk : r.take i = a := by rw [h, ← hi]; simp
  have hdr : r.drop (i + 2) = b := by rw [h, ← hi]; simp
  have hx0 : x ≠ 0 := hr.pos x (by rw [h]; exact List.mem_append_right _ List.mem_cons_self)
  have hm : ((true, i), r.take i ++ [2 * x] ++ r.drop (i + 2)) ∈ mvs r := mvs_mem.mpr ⟨i, x, hx, List.mem_append_left _ (by rw [if_pos hx1]; exact List.mem_singleton.mpr rfl)⟩
  refine ⟨_, hm, rfl, ?_⟩
  have hm2 := hr.mv hm
  have bb := join_eq (r := r) (i := i) (x := x) (by rw [htk, hdr, h]; simp) hx0
  rw [htk] at bb
  have := (ds_bump ht hr hm2 (by rw [htk]; exact bb)).1 hp
  rw [ds_symm ht hm2, ds_symm ht hr]; omega
end N
set_option Elab.async false
set_option linter.all false
set_option maxRecDepth 100000
set_option maxHeartbeats 4000000
namespace G
open PySem PySem.Spec PyProof.Rows L2 VI Builtin.Int
theorem atNat {r : List Nat} {i x : Nat} (h : r[i]? = some x) : atI (r.map nI) (i : Int) = some (nI x) := by
  obtain ⟨hi, rfl⟩ := List.getElem?_eq_some_iff.mp h
  unfold atI
  rw [List.length_map, ixN_nat hi]
  exact getN hi
end G
namespace N
/-- steps, one after another -/
inductive Way : List Nat → List (Bool × Nat) → List Nat → Prop
  | nil (r : List Nat) : Way r [] r
  | cons {r s : List Nat} {m : (Bool × Nat) × List Nat} {ds : List (Bool × Nat)} (h : m ∈ mvs r) (t : Way m.2 ds s) : Way r (m.1 :: ds) s
theorem mv_lt {r : List Nat} {m : (Bool × Nat) × List Nat} (h : m ∈ mvs r) {B : Nat} (hl : ∀ x ∈ r, x < 2 ^ B) : ∀ x ∈ m.2, x < 2 ^ (B + 1) := by
  have e : 2 ^ (B + 1) = 2 ^ B * 2 := Nat.pow_succ ..
  rcases mv_cases h with ⟨i, x, e1, h1, h2, rfl⟩ | ⟨i, x, e1, h1, h2, h3, rfl⟩
  · have hx := hl x (List.mem_of_getElem? h2)
    intro y hy
    rcases List.mem_append.mp hy with hy | hy
    · rcases List.mem_append.mp hy with hy | hy
      · have := hl y (List.mem_of_mem_take hy); omega
      · rw [List.mem_singleton.mp hy]; omega
    · have := hl y (List.mem_of_mem_drop hy); omega
  · have hx := hl x (List.mem_of_getElem? h2)
    intro y hy
    rcases List.mem_append.mp hy with hy | hy
    · rcases List.mem_append.mp hy with hy | hy
      · have := hl y (List.mem_of_mem_take hy); omega
      · have : y = x / 2 := by simpa using hy
        omega
    · have := hl y (List.mem_of_mem_drop hy); omega
end N
namespace G
open PySem PySem.Spec PyProof.Rows L2 VI Builtin.Int
theorem Rw.mv {B L : Nat} {r : List Nat} (hr : Rw B L r) {m : (Bool × Nat) × List Nat} (h : m ∈ N.mvs r) : Rw (B + 1) (L + 1) m.2 := by
  have hf : N.Fam (N.flat r) r := ⟨hr.pos, rfl⟩
  refine ⟨(hf.mv h).pos, N.mv_lt h hr.lt, ?_⟩
  have := hr.len
  rcases N.mv_len h with ⟨_, h2⟩ | ⟨_, h2⟩ <;> omega
theorem sj : (Str.ofString "split" == Str.ofString "join") = false := by decide +kernel
theorem js : (Str.ofString "join" == Str.ofString "split") = false := by decide +kernel
end G
set_option Elab.async false
set_option linter.all false
set_option maxRecDepth 100000
set_option maxHeartbeats 4000000
namespace G
open PySem PySem.Spec PyProof.Rows L2 VI Builtin.Int
theorem halved_ok {B : Nat} {r : List Nat} {i x : Nat} (hr : Rw B 100000 r) (hB : B ≤ 9000) (h1 : r[i]? = some x) (h2 : x % 2 = 0) : m_halved [.tuple (r.map nI), .int (i : Int)] = some (.ok (.fz (.tuple ((r.take i ++ [x / 2, x / 2] ++ r.drop (i + 1)).map nI)))) := by
  refine fnF_is ?_
  have hi := (List.getElem?_eq_some_iff.mp h1).1
  have g1 := atNat h1
  have hd2 : divOk 2 = true := by decide
  have h2' : (x : Int) % 2 = 0 := by omega
  have hl := hr.len
  have hm : mulD (.tuple [.int ((x : Int) / 2)]) (.int 2) = some (.fz (.tuple [.int ((x : Int) / 2), .int ((x : Int) / 2)])) := mulD_rep (.int ((x : Int) / 2)) (k := 2) (by omega)
  simp -implicitDefEqProofs [b_halved, g1, hd2, h2', hi, hm]
  omega
end G
set_option Elab.async false
set_option linter.all false
set_option maxRecDepth 100000
set_option maxHeartbeats 4000000
namespace G
open PySem PySem.Spec PyProof.Rows L2 VI Builtin.Int
theorem joined_ok {B : Nat} {r : List Nat} {i x : Nat} (hr : Rw B 100000 r) (hB : B ≤ 9000) (h1 : r[i]? = some x) (h2 : r[i + 1]? = some x) : m_joined [.tuple (r.map nI), .int (i : Int)] = some (.ok (.fz (.tuple ((r.take i ++ [2 * x] ++ r.drop (i + 2)).map nI)))) := by
  refine fnF_is ?_
  have hi := (List.getElem?_eq_some_iff.mp h2).1
  have g1 := atNat h1
  have g2 := atNat h2
  rw [show (((i + 1 : Nat)) : Int) = (i : Int) + 1 by omega] at g2
  have hx := hr.lt x (List.mem_of_getElem? h1)
  have hm2 : mulOk 2 (x : Int) = true := mulOkN (m := 2) (A := 2) (by omega) hx (by omega)
  have hl := hr.len
  have hc : (i : Int) < (r.length : Int) - 1 := by omega
  have hs1 : (List.take i r).length ≤ 100000 := by rw [List.length_take]; omega
  have hs2 : (List.drop (i + 2) r).length ≤ 100000 := by rw [List.length_drop]; omega
  simp -implicitDefEqProofs [b_joined, g1, g2, hm2, hc]
  omega
end G
set_option Elab.async false
set_option linter.all false
set_option maxRecDepth 100000
set_option maxHeartbeats 4000000
namespace G
open PySem PySem.Spec PyProof.Rows L2 VI Builtin.Int
def mvD (m : (Bool × Nat) × List Nat) : D := .tuple [.tuple [.str (if m.1.1 then "join" else "split"), .int (m.1.2 : Int)], .tuple (m.2.map nI)]
theorem getElem_opt {l : List Nat} {i x : Nat} : ((l.drop i).take 1 = [x]) ↔ l[i]? = some x := by
  by_cases h : i < l.length
  · rw [List.drop_eq_getElem_cons h, List.take_succ_cons, List.take_zero, List.getElem?_eq_getElem h]
    simp
  · rw [List.drop_of_length_le (by omega), List.getElem?_eq_none (by omega)]
    simp
theorem mvD_join {row : List Nat} {i x : Nat} : PyData.tuple [PyData.tuple [PyData.str (Str.ofString "join"), PyData.int (i : Int)], PyData.tuple (List.take i (List.map nI row) ++ PyData.int (2 * (x : Int)) :: List.drop (i + 2) (List.map nI row))] = mvD ((true, i), List.take i row ++ 2 * x :: List.drop (i + 2) row) := by
  simp [mvD, List.map_take, List.map_drop]
theorem mvD_split {row : List Nat} {i x : Nat} : PyData.tuple [PyData.tuple [PyData.str (Str.ofString "split"), PyData.int (i : Int)], PyData.tuple (List.take i (List.map nI row) ++ PyData.int ((x : Int) / 2) :: PyData.int ((x : Int) / 2) :: List.drop (i + 1) (List.map nI row))] = mvD ((false, i), List.take i row ++ x / 2 :: x / 2 :: List.drop (i + 1) row) := by
  simp [mvD, List.map_take, List.map_drop]
end G
set_option Elab.async false
set_option linter.all false
set_option maxRecDepth 100000
set_option maxHeartbeats 4000000
namespace G
open PySem PySem.Spec PyProof.Rows L2 VI Builtin.Int
theorem moves_ok {B : Nat} {row : List Nat} (hr : Rw B 100000 row) (hB : B ≤ 9000) : m_law_moves [.tuple (row.map nI)] = some (.ok (.fresh ((N.mvs row).map mvD))) := by
  refine fnF_is ?_
  simp -implicitDefEqProofs [b_law_moves]
  refine for_okN (fun i e => ∃ w2 w3, e = [some (.fz (.tuple (row.map nI))), some (.own ((((List.range i).flatMap fun i => N.mvAt row i (row.getD i 0))).map mvD)), w2, w3] ∧ Fr w2 ∧ Fr w3 ∧ ((List.range i).flatMap fun i => N.mvAt row i (row.getD i 0)).length ≤ 2 * i) ⟨none, none, by simp, by simp, by simp, by simp⟩ ?_ ?_
  · rintro i x e hx ⟨w2, w3, rfl, h2, h3, hl⟩
    have hi : i < row.length := by
      have := (List.getElem?_eq_some_iff.mp hx).1
      simpa [enumD_len] using this
    have hx2 := Option.some.inj (hx.symm.trans (enumD_get (getN hi)))
    subst hx2
    have hx0 := hr.pos _ (List.getElem_mem hi)
    have hxB := hr.lt _ (List.getElem_mem hi)
    have hL := hr.len
    rw [List.range_succ, List.flatMap_append]
    have e1 : row.getD i 0 = row[i] := by rw [List.getD_eq_getElem?_getD, List.getElem?_eq_getElem hi]; rfl
    generalize (List.range i).flatMap (fun i => N.mvAt row i (row.getD i 0)) = acc at *
    simp only [List.flatMap_cons, List.flatMap_nil, List.append_nil, e1]
    have hm2 : mulOk 2 (row[i] : Int) = true := mulOkN (m := 2) (A := 2) (by omega) hxB (by omega)
    have hd2 : divOk 2 = true := by decide
    have hs : acc.length + 1 < 16777216 := by omega
    have hs0 : acc.length < 16777216 := by omega
    have hsl1 : (List.take i row).length ≤ 100000 := by rw [List.length_take]; omega
    have hsl2 : (List.drop (i + 2) row).length ≤ 100000 := by rw [List.length_drop]; omega
    have hsl3 : (List.drop (i + 1) row).length ≤ 100000 := by rw [List.length_drop]; omega
    have hq := eqD_rowT (a := (row.drop (i + 1)).take 1) (b := [row[i]])
    simp only [List.map_take, List.map_drop, List.map_cons, List.map_nil, getElem_opt] at hq
    generalize row[i] = x at *
    unfold N.mvAt
    by_cases hj : row[i + 1]? = some x <;> by_cases he : x % 2 = 0
    · have he' : (x : Int) % 2 = 0 := by omega
      simp -implicitDefEqProofs [putP_fr h2, putP_fr h3, hq, hj, he, he', hm2, hd2, hs, hs0]
      exact ⟨by omega, by omega, by omega, by omega, _, _, ⟨⟨mvD_join, mvD_split⟩, rfl, rfl⟩, by simp, by simp, by omega⟩
    · have he' : ¬ (x : Int) % 2 = 0 := by omega
      simp -implicitDefEqProofs [putP_fr h2, putP_fr h3, hq, hj, he, he', hm2, hd2, hs, hs0]
      exact ⟨by omega, by omega, _, _, ⟨mvD_join, rfl, rfl⟩, by simp, by simp, by omega⟩
    · have he' : (x : Int) % 2 = 0 := by omega
      simp -implicitDefEqProofs [putP_fr h2, putP_fr h3, hq, hj, he, he', hm2, hd2, hs, hs0]
      exact ⟨by omega, by omega, _, _, ⟨mvD_split, rfl, rfl⟩, by simp, by simp, by omega⟩
    · have he' : ¬ (x : Int) % 2 = 0 := by omega
      simp -implicitDefEqProofs [putP_fr h2, putP_fr h3, hq, hj, he, he', hm2, hd2, hs, hs0]
      exact ⟨_, _, ⟨rfl, rfl⟩, by simp, by simp, by omega⟩
  · rintro e ⟨w2, w3, rfl, h2, h3, hl⟩
    simp -implicitDefEqProofs [enumD_len]
    simp [N.mvs]
end G
set_option Elab.async false
set_option linter.all false
set_option maxRecDepth 100000
set_option maxHeartbeats 4000000
namespace G
open PySem PySem.Spec PyProof.Rows L2 VI Builtin.Int
theorem splits_okL {r : List Nat} (hl : r.length ≤ 1000000) : m_splits [.list (r.map nI)] = some (.ok (.fresh ((N.spl r).map nI))) := by
  have h := splits_ok hl
  refine fnF_is ?_
  simp -implicitDefEqProofs [b_splits]
  refine lcF_ok (fun d => match d with | .tuple [_, .int x] => decide (x % 2 = 0) | _ => false) (fun d => match d with | .tuple [i, _] => i | d => d) (by simp [enumD_len]; omega) (by simp [tgT, tgV]) ?_ ?_
  · intro d hd
    have hd : d ∈ enumD (r.map nI) := hd
    rw [enum_nat] at hd
    obtain ⟨i, hi, rfl⟩ := List.mem_map.mp hd
    generalize r.getD i 0 = x
    by_cases hx : (x : Int) % 2 = 0
    · simp -implicitDefEqProofs [hx]
    · simp -implicitDefEqProofs [hx]
  · have e : ((enumD (r.map nI)).filter (fun d => match d with | .tuple [_, .int x] => decide (x % 2 = 0) | _ => false)).map (fun d => match d with | .tuple [i, _] => i | d => d) = (N.spl r).map nI := by
      rw [enum_nat, List.filter_map, List.map_map]
      unfold N.spl
      have e1 : ∀ i : Nat, ((fun d : D => match d with | .tuple [_, .int x] => decide (x % 2 = 0) | _ => false) ∘ fun i : Nat => PyData.tuple [.int (i : Int), .int ((r.getD i 0 : Nat) : Int)]) i = decide (r.getD i 0 % 2 = 0) := fun i => by
        show decide (((r.getD i 0 : Nat) : Int) % 2 = 0) = _
        exact decide_eq_decide.mpr (by omega)
      rw [List.filter_congr (fun i _ => e1 i)]
      rfl
    rw [show ({ items := enumD (r.map nI), lend := [] } : Src).items = enumD (r.map nI) from rfl, e]
    simp -implicitDefEqProofs
theorem joins_okL {r : List Nat} (hl : r.length ≤ 1000000) : m_joins [.list (r.map nI)] = some (.ok (.fresh ((N.joi r).map nI))) := by
  refine fnF_is ?_
  have hR : VI.inR ((r.length : Int) - 1) = true := by
    unfold VI.inR
    rw [decide_eq_true (by omega), decide_eq_true (by omega)]; rfl
  simp -implicitDefEqProofs [b_joins, hR]
  refine lcF_ok (fun d => match d with | .int i => decide (r.getD i.toNat 0 = r.getD (i.toNat + 1) 0) | _ => false) id (by simp; omega) (by simp [tgV]) ?_ ?_
  · intro d hd
    obtain ⟨i, hi, rfl⟩ := List.mem_map.mp hd
    have hi : i < r.length - 1 := by simpa using hi
    have g1 : atI (r.map nI) (i : Int) = some (nI (r.getD i 0)) := by
      unfold atI
      rw [List.length_map, ixN_nat (show i < r.length by omega)]
      show (r.map nI)[i]? = _
      rw [getN (show i < r.length by omega), List.getD_eq_getElem?_getD, List.getElem?_eq_getElem (show i < r.length by omega)]; rfl
    have g2 : atI (r.map nI) ((i : Int) + 1) = some (nI (r.getD (i + 1) 0)) := by
      unfold atI
      rw [List.length_map, show ((i : Int) + 1) = ((i + 1 : Nat) : Int) by omega, ixN_nat (show i + 1 < r.length by omega)]
      show (r.map nI)[i + 1]? = _
      rw [getN (show i + 1 < r.length by omega), List.getD_eq_getElem?_getD, List.getElem?_eq_getElem (show i + 1 < r.length by omega)]; rfl
    generalize hx : r.getD i 0 = x at *
    generalize hy : r.getD (i + 1) 0 = y at *
    by_cases h : x = y
    · simp -implicitDefEqProofs [g1, g2, h]
      rw [← List.getD_eq_getElem?_getD, ← List.getD_eq_getElem?_getD, hx, hy]; omega
    · simp -implicitDefEqProofs [g1, g2, h]
      rw [← List.getD_eq_getElem?_getD, ← List.getD_eq_getElem?_getD, hx, hy]; omega
  · have e : ((intsOf 0 (r.length - 1)).filter (fun d => match d with | .int i => decide (r.getD i.toNat 0 = r.getD (i.toNat + 1) 0) | _ => false)).map id = (N.joi r).map nI := by
      unfold intsOf N.joi
      rw [List.map_id, List.filter_map]
      have : (fun i : Nat => PyData.int (0 + (i : Int))) = nI := by funext i; rw [Int.zero_add]
      rw [this]
      congr 1
    rw [show ({ items := intsOf 0 (r.length - 1), lend := [] } : Src).items = intsOf 0 (r.length - 1) from rfl, e]
    simp -implicitDefEqProofs
theorem joined_okL {B : Nat} {r : List Nat} {i x : Nat} (hr : Rw B 100000 r) (hB : B ≤ 9000) (h1 : r[i]? = some x) (h2 : r[i + 1]? = some x) : m_joined [.list (r.map nI), .int (i : Int)] = some (.ok (.fz (.tuple ((r.take i ++ [2 * x] ++ r.drop (i + 2)).map nI)))) := by
  refine fnF_is ?_
  have hi := (List.getElem?_eq_some_iff.mp h2).1
  have g1 := atNat h1
  have g2 := atNat h2
  rw [show (((i + 1 : Nat)) : Int) = (i : Int) + 1 by omega] at g2
  have hx := hr.lt x (List.mem_of_getElem? h1)
  have hm2 : mulOk 2 (x : Int) = true := mulOkN (m := 2) (A := 2) (by omega) hx (by omega)
  have hl := hr.len
  have hc : (i : Int) < (r.length : Int) - 1 := by omega
  have hs1 : (List.take i r).length ≤ 100000 := by rw [List.length_take]; omega
  have hs2 : (List.drop (i + 2) r).length ≤ 100000 := by rw [List.length_drop]; omega
  simp -implicitDefEqProofs [b_joined, g1, g2, hm2, hc]
  omega
theorem halved_okL {B : Nat} {r : List Nat} {i x : Nat} (hr : Rw B 100000 r) (hB : B ≤ 9000) (h1 : r[i]? = some x) (h2 : x % 2 = 0) : m_halved [.list (r.map nI), .int (i : Int)] = some (.ok (.fz (.tuple ((r.take i ++ [x / 2, x / 2] ++ r.drop (i + 1)).map nI)))) := by
  refine fnF_is ?_
  have hi := (List.getElem?_eq_some_iff.mp h1).1
  have g1 := atNat h1
  have hd2 : divOk 2 = true := by decide
  have h2' : (x : Int) % 2 = 0 := by omega
  have hl := hr.len
  have hm : mulD (.tuple [.int ((x : Int) / 2)]) (.int 2) = some (.fz (.tuple [.int ((x : Int) / 2), .int ((x : Int) / 2)])) := mulD_rep (.int ((x : Int) / 2)) (k := 2) (by omega)
  simp -implicitDefEqProofs [b_halved, g1, hd2, h2', hi, hm]
  omega
end G
set_option Elab.async false
set_option linter.all false
set_option maxRecDepth 100000
namespace VI
open PySem PySem.Spec
@[simp] theorem flatL_mapc {α : Type} {f : α → D} {xs : List α} : OT.flatL (List.map (OT.fz ∘ f) xs) = true := by
  rw [← List.map_map]; exact flatL_fz _
@[simp] theorem ds_mapc {α : Type} {f : α → D} {xs : List α} : OT.ds (List.map (OT.fz ∘ f) xs) = xs.map f := by
  rw [← List.map_map]; exact ds_fz _
@[simp] theorem ds_app {xs ys : List OT} : OT.ds (xs ++ ys) = OT.ds xs ++ OT.ds ys := by
  induction xs with
  | nil => rw [OT.ds]; rfl
  | cons x xs ih => rw [List.cons_append, OT.ds, OT.ds, ih]; rfl
@[simp] theorem flatL_app {xs ys : List OT} : OT.flatL (xs ++ ys) = (OT.flatL xs && OT.flatL ys) := by
  induction xs with
  | nil => rw [OT.flatL]; rfl
  | cons x xs ih => rw [List.cons_append, OT.flatL, OT.flatL, ih, Bool.and_assoc]
@[simp] theorem allFz_mapc {α : Type} {f : α → D} {xs : List α} : allFz (List.map (OT.fz ∘ f) xs) = some (xs.map f) := by
  rw [← List.map_map]; exact allFz_map _
@[simp] theorem allFz_mapa {ds es : List D} : allFz (ds.map OT.fz ++ es.map OT.fz) = some (ds ++ es) := by
  rw [← List.map_append]; exact allFz_map _
@[simp] theorem allFz_mapca {α : Type} {f : α → D} {xs : List α} {d : D} : allFz (List.map (OT.fz ∘ f) xs ++ [OT.fz d]) = some (xs.map f ++ [d]) := by
  have := allFz_map (xs.map f ++ [d])
  rw [List.map_append, List.map_map] at this
  exact this
end VI
set_option Elab.async false
set_option linter.all false
set_option maxRecDepth 100000
set_option maxHeartbeats 4000000
namespace G
open PySem PySem.Spec PyProof.Rows L2 VI Builtin.Int
theorem take_small (d n : Nat) {b : List D} {span : Int} (hb : Bx n b) (hn : n ≤ 2 ^ 40) (h0 : 0 < span) (h1 : span ≤ 10 ^ 7) : OkI (r_law_take (d + 1) b [.int span]) (Drawn (n + 1) span) := by
  obtain ⟨a, s, c, rfl, ha, hs, hs2, hc, hc2⟩ := hb
  have hd : divOk span = true := divOk_64 h0 (by omega)
  refine fnI_of ?_
  by_cases hz : 0 < a
  · simp [b_law_take, atI, ixN, hz, h0, hd]
    exact ⟨_, rfl, Int.emod_nonneg _ (by omega), Int.emod_lt_of_pos _ h0, _, _, _, rfl, Int.ediv_nonneg ha (by omega), hs, hs2, hc, by omega⟩
  · have e10 : (10 : Int) ^ 7 = 10000000 := by decide
    rw [e10] at h1
    have hn1 : ¬ (10000000 < span) := by omega
    have p1 : powOk 10 7 = true := by decide
    have m1 : mulOk 39373 (c + 1) = true := mulOk_64 (by decide) (by omega)
    have p2 : powOk (s + 39373 * (c + 1)) 5 = true := powOk_of (by decide) (by decide) (by omega)
    have o1 := Int.emod_nonneg ((s + 39373 * (c + 1)) ^ 5) (show (2147483647 : Int) ≠ 0 by decide)
    have o2 := Int.emod_lt_of_pos ((s + 39373 * (c + 1)) ^ 5) (show (0 : Int) < 2147483647 by decide)
    generalize ho : (s + 39373 * (c + 1)) ^ 5 % 2147483647 = once at o1 o2
    have q1 := Int.emod_nonneg once (show (40009 : Int) ≠ 0 by decide)
    have q2 := Int.emod_lt_of_pos once (show (0 : Int) < 40009 by decide)
    have m2 : mulOk once (once % 40009 + 7) = true := mulOk_64 (by omega) (by omega)
    have m3 : mulOk (c + 1) 7919 = true := mulOk_64 (by omega) (by decide)
    have d1 : divOk 64 = true := by decide
    simp -implicitDefEqProofs [b_law_take, atI, ixN, hz, h0, hd, p1, e10, hn1, m1, p2, ho, m2, m3, d1]
    exact ⟨_, rfl, Int.emod_nonneg _ (by omega), Int.emod_lt_of_pos _ h0, _, _, _, rfl, ha, hs, hs2, by omega, by omega⟩
/-- .. of any span: by its size in sevens of figures -/
theorem take_ok (d n : Nat) {b : List D} {span : Int} (hb : Bx n b) (hn : n + d ≤ 2 ^ 40) (h0 : 0 < span) (h1 : span ≤ 10000000 ^ (d + 1)) (hd : divOk span = true) : OkI (r_law_take (d + 1) b [.int span]) (Drawn (n + d + 1) span) := by
  induction d generalizing n b span with
  | zero => exact take_small 0 n hb (by omega) h0 (by rw [show (10 : Int) ^ 7 = 10000000 by decide]; rw [Nat.zero_add, Int.pow_succ, Int.pow_zero, Int.one_mul] at h1; exact h1)
  | succ d ih =>
    have e10 : (10 : Int) ^ 7 = 10000000 := by decide
    by_cases hsm : span ≤ 10000000
    · obtain ⟨r, b', k1, v, k2, k3, k4, k5⟩ := take_small (d + 1) n hb (by omega) h0 (by rw [e10]; exact hsm)
      exact ⟨r, b', k1, v, k2, k3, k4, k5.mono (by omega)⟩
    · obtain ⟨a, s, c, rfl, ha, hs, hs2, hc, hc2⟩ := id hb
      refine fnI_of ?_
      by_cases hz : 0 < a
      · simp -implicitDefEqProofs [b_law_take, atI, ixN, hz, h0, hd]
        exact ⟨_, rfl, Int.emod_nonneg _ (by omega), Int.emod_lt_of_pos _ h0, _, _, _, rfl, Int.ediv_nonneg ha (by omega), hs, hs2, hc, by omega⟩
      · have hn1 : 10000000 < span := by omega
        have p1 : powOk 10 7 = true := by decide
        have d1 : divOk 10000000 = true := by decide
        simp -implicitDefEqProofs [b_law_take, atI, ixN, hz, h0, hd, p1, e10, hn1, d1]
        refine okIo_of (take_small d n hb (by omega) (by decide) (by decide)) fun r b' ⟨v, hr, hv0, hv1, hb'⟩ => ?_
        subst hr
        simp -implicitDefEqProofs [p1, e10, d1]
        have hM : span ≤ 10000000 ^ (d + 1) * 10000000 := by rw [← Int.pow_succ]; exact h1
        refine okIo_of (ih (n + 1) hb' (by omega) (by omega) (by omega) (divOk_le (by omega) (by omega) hd)) fun r2 b2 ⟨v2, hr2, hw0, hw1, hb2⟩ => ?_
        subst hr2
        have m1 : mulOk 10000000 v2 = true := mulOk_div (by decide) hw0 (k := span) (by omega) hd
        simp -implicitDefEqProofs [m1, h0]
        exact ⟨_, rfl, Int.emod_nonneg _ (by omega), Int.emod_lt_of_pos _ h0, hb2.mono (by omega)⟩
end G
set_option Elab.async false
set_option linter.all false
set_option maxRecDepth 100000
set_option maxHeartbeats 4000000
namespace G
open PySem PySem.Spec PyProof.Rows L2 VI Builtin.Int
/-- powers of two -/
theorem two_to (k : Nat) (hk : k ≤ 1000000) : m_law_two_to [.int k] = some (.ok (.fz (.int (2 ^ k)))) := by
  refine fnF_is ?_
  have hr := inR_nat (n := k) (by omega)
  simp -implicitDefEqProofs [b_law_two_to, hr]
  refine for_ok (fun i e => ∃ w, e = [some (.fz (.int k)), some (.fz (.int (2 ^ i))), w] ∧ (w = none ∨ ∃ d, w = some (.fz d))) ⟨none, rfl, .inl rfl⟩ ?_ ?_
  · rintro i d e hi ⟨w, rfl, hw⟩
    obtain ⟨hik, rfl⟩ := intsOf_get hi
    have hik : i < k := hik
    have hm : mulOk (2 ^ i) 2 = true := mulOk_of (m := i + 1) (n := 2) (bits_lt (by rw [Int.natAbs_pow]; exact Nat.pow_lt_pow_right (by decide) (by omega))) (bits_lt (by decide)) (by omega)
    refine ⟨[some (.fz (.int k)), some (.fz (.int (2 ^ i))), some (.fz (.int (0 + (i : Nat))))], ?_, ?_⟩
    · rcases hw with rfl | ⟨d', rfl⟩ <;> rfl
    · simp -implicitDefEqProofs [hm]
      rw [Int.pow_succ]
      simp
  · rintro e ⟨w, rfl, hw⟩
    simp -implicitDefEqProofs [unlend]
end G
set_option Elab.async false
set_option linter.all false
set_option maxRecDepth 100000
set_option maxHeartbeats 4000000
namespace G
open PySem PySem.Spec PyProof.Rows L2 VI Builtin.Int
theorem draw7 (n : Nat) {b : List D} {span : Int} (hb : Bx n b) (hn : n ≤ 2 ^ 40) (h0 : 0 < span) (h1 : span ≤ 10 ^ 7) : OkI (m_law_take b [.int span]) (Drawn (n + 1) span) := take_small 59 n hb hn h0 h1
theorem draw (d n : Nat) {b : List D} {span : Int} (hb : Bx n b) (hn : n + 59 ≤ 2 ^ 40) (h0 : 0 < span) (h1 : span ≤ 10000000 ^ 60) (hd : divOk span = true) : OkI (m_law_take b [.int span]) (Drawn (n + 60) span) := take_ok 59 n hb hn h0 h1 hd
/-- one of a list, or of a tuple -/
theorem of_ok (n : Nat) {b ds : List D} (hb : Bx n b) (hn : n ≤ 2 ^ 40) (h0 : ds ≠ []) (h1 : ds.length ≤ 10 ^ 7) : OkI (m_law_of b [.list ds]) (fun r b' => ∃ d ∈ ds, r = .fz d ∧ Bx (n + 1) b') := by
  have hl : 0 < ds.length := List.length_pos_iff.mpr h0
  refine fnI_of ?_
  simp -implicitDefEqProofs [b_law_of]
  refine okIo_of (draw7 n hb hn (by omega) (by omega)) fun r b' ⟨v, hr, hv0, hv1, hb'⟩ => ?_
  subst hr
  obtain ⟨i, rfl⟩ := Int.eq_ofNat_of_zero_le hv0
  have hi : i < ds.length := by omega
  have h2 : ds[i]? = some ds[i] := List.getElem?_eq_getElem hi
  simp -implicitDefEqProofs [atN h2]
  exact ⟨_, List.getElem_mem hi, rfl, hb'⟩
theorem ofT_ok (n : Nat) {b ds : List D} (hb : Bx n b) (hn : n ≤ 2 ^ 40) (h0 : ds ≠ []) (h1 : ds.length ≤ 10 ^ 7) : OkI (m_law_of b [.tuple ds]) (fun r b' => ∃ d ∈ ds, r = .fz d ∧ Bx (n + 1) b') := by
  have hl : 0 < ds.length := List.length_pos_iff.mpr h0
  refine fnI_of ?_
  simp -implicitDefEqProofs [b_law_of]
  refine okIo_of (draw7 n hb hn (by omega) (by omega)) fun r b' ⟨v, hr, hv0, hv1, hb'⟩ => ?_
  subst hr
  obtain ⟨i, rfl⟩ := Int.eq_ofNat_of_zero_le hv0
  have hi : i < ds.length := by omega
  have h2 : ds[i]? = some ds[i] := List.getElem?_eq_getElem hi
  simp -implicitDefEqProofs [atN h2]
  exact ⟨_, List.getElem_mem hi, rfl, hb'⟩
end G
set_option Elab.async false
set_option linter.all false
set_option maxRecDepth 100000
set_option maxHeartbeats 4000000
namespace G
open PySem PySem.Spec PyProof.Rows L2 VI Builtin.Int
theorem cut_ints (ns : List Int) (lo hi : Option Int) : ∃ ms : List Int, cutD (ns.map PyData.int) lo hi = ms.map .int ∧ (∀ x ∈ ms, x ∈ ns) ∧ ms.length ≤ ns.length := by
  unfold VI.cutD
  refine ⟨((ns.drop (HT.sIx (ns.map PyData.int).length 0 lo)).take (HT.sIx (ns.map PyData.int).length (ns.map PyData.int).length hi - HT.sIx (ns.map PyData.int).length 0 lo)), by rw [List.map_take, List.map_drop], fun x hx => List.mem_of_mem_drop (List.mem_of_mem_take hx), ?_⟩
  rw [List.length_take, List.length_drop]; omega
theorem cut_to (ns : List Int) (m : Nat) (hm : 0 < m) : cutD (ns.map PyData.int) none (some (m : Int)) = (ns.take m).map .int := by
  unfold VI.cutD
  have h1 : HT.sIx (ns.map PyData.int).length 0 none = 0 := rfl
  have h2 : HT.sIx (ns.map PyData.int).length (ns.map PyData.int).length (some (m : Int)) = min m (ns.map PyData.int).length := by
    show (if (m : Int) < 0 then ((m : Int) + ((ns.map PyData.int).length : Int)).toNat else min (m : Int).toNat (ns.map PyData.int).length) = _
    rw [if_neg (by omega)]; rfl
  rw [h1, h2, List.drop_zero, Nat.sub_zero, List.map_take, List.take_eq_take_iff]
  omega
theorem cut_mid (ns : List Int) (m : Nat) : ∃ ms : List Int, cutD (ns.map PyData.int) (some (m : Int)) (some 63) = ms.map .int ∧ (∀ x ∈ ms, x ∈ ns) ∧ ms.length ≤ ns.length ∧ (0 < ms.length → m < ns.length) := by
  have h1 : HT.sIx (ns.map PyData.int).length 0 (some (m : Int)) = min m ns.length := by
    show (if (m : Int) < 0 then ((m : Int) + ((ns.map PyData.int).length : Int)).toNat else min (m : Int).toNat (ns.map PyData.int).length) = _
    rw [if_neg (by omega), List.length_map]; rfl
  unfold VI.cutD
  rw [h1]
  refine ⟨(ns.drop (min m ns.length)).take (HT.sIx (ns.map PyData.int).length (ns.map PyData.int).length (some 63) - min m ns.length), by rw [List.map_take, List.map_drop], fun x hx => List.mem_of_mem_drop (List.mem_of_mem_take hx), ?_, fun h => ?_⟩
  · rw [List.length_take, List.length_drop]; omega
  · rw [List.length_take, List.length_drop] at h; omega
end G
set_option Elab.async false
set_option linter.all false
set_option maxRecDepth 100000
set_option maxHeartbeats 4000000
namespace G
open PySem PySem.Spec PyProof.Rows L2 VI Builtin.Int
/-- the first numbers of the script, the others added to them -/
theorem cells_ok (ns : List Int) (m : Nat) (hm : 0 < m) (hm2 : m ≤ 62) (h1 : ns.length ≤ 63) (h2 : ∀ k ∈ ns, intBits k ≤ 1048576) :
    OkF (m_law_cells [.list (ns.map .int), .int m]) (fun r => ∃ cs : List Int, r = .fresh (cs.map .int) ∧ cs ≠ [] ∧ cs.length ≤ m ∧ ∀ c ∈ cs, intBits c ≤ 1048700) := by
  refine fnF_of ?_
  obtain ⟨rest, hr, hr1, hr2, hr3⟩ := cut_mid ns m
  simp -implicitDefEqProofs [b_law_cells, cut_to ns m hm, hr]
  refine for_ok (fun i e => ∃ (cs : List Int) (w u : Option Sv), e = [some (.fz (.list (ns.map .int))), some (.fz (.int m)), some (.own (cs.map .int)), w, u] ∧ (w = none ∨ ∃ d, w = some (.fz d)) ∧ (u = none ∨ ∃ d, u = some (.fz d)) ∧ cs.length = (ns.take m).length ∧ ∀ c ∈ cs, intBits c ≤ 1048600 + i)
    ⟨ns.take m, none, none, by simp, .inl rfl, .inl rfl, rfl, fun c hc => Nat.le_trans (h2 c (List.mem_of_mem_take hc)) (by omega)⟩ ?_ ?_
  · rintro i d e hi ⟨cs, w, u, rfl, hw, hu, hl, hb⟩
    have hi' : i < rest.length := by
      have := (List.getElem?_eq_some_iff.mp hi).1
      rw [enumD_len, List.length_map] at this
      exact this
    have hd : d = .tuple [.int (i : Nat), .int rest[i]] := by
      have := enumD_get (ds := rest.map PyData.int) (i := i) (d := .int rest[i]) (by rw [List.getElem?_map, List.getElem?_eq_getElem hi']; rfl)
      rw [this] at hi
      exact (Option.some.inj hi).symm
    subst hd
    -- only where the script is longer than m
    have hlen : cs.length = m := by
      have := hr3 (by omega)
      rw [hl, List.length_take]; omega
    have hi63 : i < 63 := by omega
    have hmod : ((i : Int) % (m : Int)) = ((i % m : Nat) : Int) := by simp
    have hlt : i % m < cs.length := by rw [hlen]; exact Nat.mod_lt _ hm
    have hx : (cs.map PyData.int)[i % m]? = some (.int cs[i % m]) := by rw [List.getElem?_map, List.getElem?_eq_getElem hlt]; rfl
    have hm1 : mulOk rest[i] ((i : Int) + 2) = true := mulOk_of (m := 1048576) (n := 64) (h2 _ (hr1 _ (List.getElem_mem hi'))) (bits_lt (by omega)) (by decide)
    refine ⟨[some (.fz (.list (ns.map .int))), some (.fz (.int m)), some (.own (cs.map .int)), some (.fz (.int (i : Nat))), some (.fz (.int rest[i]))], ?_, ?_⟩
    · rcases hw with rfl | ⟨d1, rfl⟩ <;> rcases hu with rfl | ⟨d2, rfl⟩ <;> rfl
    · have hmp : (0 : Int) < (m : Int) := by omega
      have ha : atI (cs.map PyData.int) ((i : Int) % (m : Int)) = some (.int cs[i % m]) := by rw [hmod]; exact atN hx
      have hj : ixN cs.length ((i : Int) % (m : Int)) = some (i % m) := by
        rw [hmod]; unfold ixN
        rw [if_pos (by omega), if_pos (by omega)]; rfl
      simp -implicitDefEqProofs [hmp, ha, hj, hm1]
      refine ⟨hm, cs.set (i % m) (cs[i % m] + rest[i] * (↑i + 2)), _, _, ⟨by rw [List.map_set], rfl, rfl⟩, .inr ⟨_, rfl⟩, .inr ⟨_, rfl⟩, ?_, fun c hc => ?_⟩
      · rw [List.length_set, hl, List.length_take]
      · rcases List.mem_or_eq_of_mem_set hc with hc | rfl
        · exact Nat.le_trans (hb c hc) (by omega)
        · have b1 := hb _ (List.getElem_mem hlt)
          have b2 : intBits (rest[i] * ((i : Int) + 2)) ≤ 1048576 + 7 := intBits_mul_le (h2 _ (hr1 _ (List.getElem_mem hi'))) (bits_lt (by omega))
          have b3 := intBits_add_le b1 b2
          omega
  · rintro e ⟨cs, w, u, rfl, hw, hu, hl, hb⟩
    have hrl : rest.length ≤ 63 := by omega
    simp -implicitDefEqProofs [unlend]
    by_cases hz : cs = []
    · subst hz
      simp -implicitDefEqProofs
      exact ⟨[0], rfl, by simp, by simp; omega, by simp; decide⟩
    · simp -implicitDefEqProofs [hz]
      exact ⟨cs, rfl, hz, by rw [hl, List.length_take]; omega, fun c hc => by have := hb c hc; rw [enumD_len, List.length_map] at this; omega⟩
end G
set_option Elab.async false
set_option linter.all false
set_option maxRecDepth 100000
set_option maxHeartbeats 4000000
namespace G
open PySem PySem.Spec PyProof.Rows L2 VI Builtin.Int
theorem box_ok (cs : List Int) (k : Nat) (hk : k < cs.length) (hk2 : k ≤ 1000) (hb : ∀ c ∈ cs, intBits c ≤ 1048700) : OkF (m_law_box [.list (cs.map .int), .int k]) (fun r => ∃ b, r = .fresh b ∧ Bx 0 b) := by
  refine fnF_of ?_
  have hx : (cs.map PyData.int)[k]? = some (.int cs[k]) := by rw [List.getElem?_map, List.getElem?_eq_getElem hk]; rfl
  have hb1 := hb _ (List.getElem_mem hk)
  generalize cs[k] = c at hx hb1
  have p1 : powOk 10 18 = true := by decide
  have m1 : ∀ z : Int, (z = 0 ∨ z = 1) → mulOk (if c < 0 then -c else c) z = true := fun z hz => by
    refine mulOk_of (m := 1048700) (n := 1) ?_ ?_ (by decide)
    · split
      · exact intBits_neg_le hb1
      · exact hb1
    · rcases hz with rfl | rfl <;> decide
  have m2 : mulOk 7919 (k : Int) = true := mulOk_64 (by decide) (by omega)
  simp -implicitDefEqProofs [b_law_box, hk, atN hx, p1, m2]
  have z1 : ∀ y : Int, (if (1000000000000000000 : Int) ≤ y then (1 : Int) else 0) = 0 ∨ (if (1000000000000000000 : Int) ≤ y then (1 : Int) else 0) = 1 := fun y => by by_cases h : (1000000000000000000 : Int) ≤ y <;> simp [h]
  refine ⟨m1 _ (z1 _), _, _, _, rfl, ?_, ?_, ?_, by omega, by omega⟩
  · refine Int.mul_nonneg (by split <;> omega) (by rcases z1 (if c < 0 then -c else c) with h | h <;> rw [h] <;> omega)
  · omega
  · omega
end G
set_option Elab.async false
set_option linter.all false
set_option maxRecDepth 100000
set_option maxHeartbeats 4000000
namespace VI
open PySem PySem.Spec PyProof.Rows L2
def kCut (J : Env → Prop) (Q : Po Fl) : Po Fl := fun w e => match w with
  | .nx => J e
  | .ret r => Q (.ret r) e
  | .bk => Q .bk e
  | .ct => Q .ct e
@[simp] theorem kCut_nx {J : Env → Prop} {Q : Po Fl} {e : Env} : kCut J Q .nx e = J e := rfl
@[simp] theorem kCut_ret {J : Env → Prop} {Q : Po Fl} {e : Env} {r : Rv} : kCut J Q (.ret r) e = Q (.ret r) e := rfl
@[simp] theorem kCut_bk {J : Env → Prop} {Q : Po Fl} {e : Env} : kCut J Q .bk e = Q .bk e := rfl
@[simp] theorem kCut_ct {J : Env → Prop} {Q : Po Fl} {e : Env} : kCut J Q .ct e = Q .ct e := rfl
theorem block_app {l2 : List St1} {Q : Po Fl} : ∀ {l1 : List St1} {e : Env}, Ok (block l1 e) (kSeq (block l2) Q) → Ok (block (l1 ++ l2) e) Q
  | [], e, h => by simpa using h
  | [p], e, h => by
    cases l2 with
    | nil =>
      simp only [List.append_nil, ok_blk1] at *
      refine h.mono fun w e' q => ?_
      cases w <;> simpa using q
    | cons q l2 => simpa using h
  | p :: q :: l1, e, h => by
    show Ok (block (p :: q :: (l1 ++ l2)) e) Q
    rw [ok_blk] at *
    refine h.mono fun w e' k => ?_
    cases w with
    | nx => simpa using block_app (l1 := q :: l1) (by simpa using k)
    | bk => simpa using k
    | ct => simpa using k
    | ret r => simpa using k
theorem block_cut (k : Nat) (J : Env → Prop) {l : List St1} {e : Env} {Q : Po Fl} (h1 : Ok (block (l.take k) e) (kCut J Q)) (h2 : ∀ e', J e' → Ok (block (l.drop k) e') Q) : Ok (block l e) Q := by
  rw [← List.take_append_drop k l]
  refine block_app (h1.mono fun w e' q => ?_)
  cases w with
  | nx => simpa using h2 e' q
  | bk => simpa using q
  | ct => simpa using q
  | ret r => simpa using q
end VI
set_option Elab.async false
set_option linter.all false
set_option maxRecDepth 100000
set_option maxHeartbeats 4000000
namespace N
theorem le_sum {l : List Nat} {x : Nat} (h : x ∈ l) : x ≤ l.sum := by
  induction l with
  | nil => cases h
  | cons y l ih =>
    rw [List.sum_cons]
    rcases List.mem_cons.mp h with rfl | h
    · omega
    · have := ih h; omega
end N
namespace N
theorem barN_symm : ∀ a b : List (Nat × Nat), barN a b = barN b a
  | [], [] => rfl
  | [], _ :: _ => rfl
  | _ :: _, [] => rfl
  | p :: a, q :: b => by
    rw [barN_cons, barN_cons, barN_symm a b]
    by_cases h1 : p.1 = q.1
    · by_cases h2 : p.2 = q.2
      · simp [h1, h2]
      · have h2' : ¬ q.2 = p.2 := fun z => h2 z.symm
        simp [h1, h2, h2', Nat.min_comm]
    · have h1' : ¬ q.1 = p.1 := fun z => h1 z.symm
      simp [h1, h1']
theorem bar_symm (r s : List Nat) : bar s r = bar r s := by
  unfold bar
  rw [barN_symm]
  by_cases h : word r = word s
  · rw [if_pos h, if_pos h.symm]
  · rw [if_neg h, if_neg (fun z => h z.symm)]
theorem barN_le {M : Nat} : ∀ a b : List (Nat × Nat), (∀ p ∈ a, p.1 * p.2 ≤ M) → barN a b ≤ a.length * M
  | [], b, _ => by cases b <;> simp [barN]
  | p :: a, [], _ => by rw [barN_nil]; omega
  | p :: a, q :: b, h => by
    have h1 := h p List.mem_cons_self
    have ih := barN_le a b (fun x hx => h x (List.mem_cons_of_mem _ hx))
    have h3 : p.1 * min p.2 q.2 ≤ p.1 * p.2 := Nat.mul_le_mul_left _ (Nat.min_le_left _ _)
    rw [barN_cons, List.length_cons, Nat.add_mul]
    split
    · omega
    · split <;> omega
theorem bar_lt {B : Nat} {r s : List Nat} (h : ∀ x ∈ r, x ≠ 0) (h2 : ∀ x ∈ r, x < 2 ^ B) (hl : r.length ≤ 1000000) (n : Nat) (e : bar r s = some n) : n < 2 ^ (2 * B + 41) := by
  have hw := word_small h h2 hl
  have hlen : (word r).length ≤ 1000000 := by
    have h1 := blk_len (r.map fun x => (od x, un x)) []
    simp only [List.length_map, List.length_nil] at h1
    unfold word blk; omega
  unfold bar at e
  split at e
  · cases e
  · cases e
    have h3 := barN_le (M := 2 ^ B * 2 ^ (B + 20)) (word r) (word s) (fun p hp => Nat.mul_le_mul (Nat.le_of_lt (hw p hp).1) (Nat.le_of_lt (hw p hp).2))
    have h4 : (word r).length * (2 ^ B * 2 ^ (B + 20)) ≤ 1000000 * (2 ^ B * 2 ^ (B + 20)) := Nat.mul_le_mul_right _ hlen
    have h5 : 2 ^ (2 * B + 41) = 2 ^ 21 * (2 ^ B * 2 ^ (B + 20)) := by rw [← Nat.pow_add, ← Nat.pow_add]; congr 1; omega
    have h6 : 0 < 2 ^ B * 2 ^ (B + 20) := Nat.mul_pos (Nat.pow_pos (by omega)) (Nat.pow_pos (by omega))
    rw [h5]; omega
end N
namespace G
open PySem PySem.Spec PyProof.Rows L2 VI Builtin.Int
set_option exponentiation.threshold 2000
/-- one of some numbers -/
theorem of_nums (n : Nat) {b : List D} {ds : List D} {P : Nat → Prop} (hb : Bx n b) (hn : n ≤ 2 ^ 40) (h0 : ds ≠ []) (h1 : ds.length ≤ 10 ^ 7) (hP : ∀ d ∈ ds, ∃ k : Nat, d = .int (k : Int) ∧ P k) :
    OkI (m_law_of b [.list ds]) (fun r b' => ∃ k : Nat, r = .fz (.int (k : Int)) ∧ P k ∧ Bx (n + 1) b') := by
  obtain ⟨r, b', e1, d, hd, hr, hb'⟩ := of_ok n hb hn h0 h1
  obtain ⟨k, rfl, hk⟩ := hP d hd
  exact ⟨r, b', e1, k, hr, hk, hb'⟩
def szB (B W N : Nat) (d : D) : Bool := VI.good B d && decide (d.weight ≤ W) && decide (d.depth ≤ N)
theorem szB_iff {B W N : Nat} {d : D} (h : szB B W N d = true) : Sz B W N d := by
  unfold szB at h
  simp only [Bool.and_eq_true, decide_eq_true_eq] at h
  exact ⟨h.1.1, h.1.2, h.2⟩
end G
set_option Elab.async false
set_option linter.all false
set_option maxRecDepth 100000
set_option maxHeartbeats 4000000
namespace G
open PySem PySem.Spec PyProof.Rows L2 VI Builtin.Int
/-- a number of the generator: at least one, of few bits -/
def Heap1 (m : Nat) (x : Int) : Prop := 1 ≤ x ∧ intBits x ≤ m
theorem random_line (n most top : Nat) {b : List D} (hb : Bx n b) (hn : n + 1000 ≤ 2 ^ 40) (h1 : most ≤ 100) (h2 : top ≤ 1000) :
    OkI (m_law_random_line b [.int most, .int top]) (fun r b' => ∃ ns : List Int, r = .fz (.tuple (ns.map .int)) ∧ ns.length ≤ most ∧ (∀ x ∈ ns, Heap1 (top + 70) x) ∧ Bx (n + 1 + 2 * most) b') := by
  refine fnI_of ?_
  simp -implicitDefEqProofs [b_law_random_line]
  refine okIo_of (draw7 n hb (by omega) (by omega) (by omega)) fun r b' ⟨v, hr, hv0, hv1, hb'⟩ => ?_
  subst hr
  obtain ⟨t, rfl⟩ := Int.eq_ofNat_of_zero_le hv0
  have hR := inR_nat (n := t) (by omega)
  simp -implicitDefEqProofs [hR]
  refine for_ok (fun i e => ∃ (ns : List Int) (o : Int) (bb : List D) (w u : Option Sv), e = [some (.io bb), some (.fz (.int most)), some (.fz (.int top)), w, some (.own (ns.map .int)), some (.fz (.int o)), u] ∧ (w = none ∨ ∃ d, w = some (.fz d)) ∧ (u = none ∨ ∃ d, u = some (.fz d)) ∧ (1 ≤ o ∧ o ≤ 10 ^ 17 + 1) ∧ ns.length = i ∧ (∀ x ∈ ns, Heap1 (top + 70) x) ∧ Bx (n + 1 + 2 * i) bb)
    ⟨[], 1, b', none, none, rfl, .inl rfl, .inl rfl, by omega, rfl, by simp, hb'.mono (by omega)⟩ ?_ ?_
  · rintro i d e hi ⟨ns, o, bb, w, u, rfl, hw, hu, ho, hl, hns, hbb⟩
    obtain ⟨hik, rfl⟩ := intsOf_get hi
    have hik : i < t := hik
    refine ⟨[some (.io bb), some (.fz (.int most)), some (.fz (.int top)), some (.fz (.int (0 + (i : Nat)))), some (.own (ns.map .int)), some (.fz (.int o)), u], by rcases hw with rfl | ⟨d1, rfl⟩ <;> rfl, ?_⟩
    have p17 : powOk 10 17 = true := by decide
    have sz8 : 8 ≤ sizeLine := by rw [sizeLine_eq]; omega
    simp -implicitDefEqProofs [p17, sz8]
    refine okIo_of (of_ok (n + 1 + 2 * i) hbb (by omega) (by simp) (by simp)) fun r b2 ⟨d, hd, hr, hb2⟩ => ?_
    subst hr
    have hd : ∃ o2 : Int, d = .int o2 ∧ 1 ≤ o2 ∧ o2 ≤ 10 ^ 17 + 1 := by
      simp at hd
      rcases hd with rfl | rfl | rfl | rfl | rfl <;> exact ⟨_, rfl, by omega, by omega⟩
    obtain ⟨o2, rfl, ho2⟩ := hd
    have fin : ∀ (q : Nat) (b3 : List D), q ≤ top → Bx (n + 1 + 2 * (i + 1)) b3 → ∀ Q : Po Fl, (∀ ns2 : List Int, ns2.length = i + 1 → (∀ x ∈ ns2, Heap1 (top + 70) x) → Q .nx [some (.io b3), some (.fz (.int most)), some (.fz (.int top)), some (.fz (.int (i : Nat))), some (.own (ns2.map .int)), some (.fz (.int o2)), some (.fz (.int q))]) →
        okP (some u) 6 (.fz (.int q)) [some (.io b3), some (.fz (.int most)), some (.fz (.int top)), some (.fz (.int (i : Nat))), some (.own (ns.map .int)), some (.fz (.int o2)), u] (kSeq (exprS (eM fmApp 4 (toDs [bin2 mulD (eV 5) (eF m_law_two_to (toDs [eV 6]))]))) Q) := by
      intro q b3 hq hb3 Q k
      have hp : okP (some u) 6 (.fz (.int q)) [some (.io b3), some (.fz (.int most)), some (.fz (.int top)), some (.fz (.int (i : Nat))), some (.own (ns.map .int)), some (.fz (.int o2)), u] (kSeq (exprS (eM fmApp 4 (toDs [bin2 mulD (eV 5) (eF m_law_two_to (toDs [eV 6]))]))) Q) = (kSeq (exprS (eM fmApp 4 (toDs [bin2 mulD (eV 5) (eF m_law_two_to (toDs [eV 6]))]))) Q) .nx [some (.io b3), some (.fz (.int most)), some (.fz (.int top)), some (.fz (.int (i : Nat))), some (.own (ns.map .int)), some (.fz (.int o2)), some (.fz (.int q))] := by
        rcases hu with rfl | ⟨d2, rfl⟩ <;> rfl
      rw [hp]
      have ht := two_to q (by omega)
      have bo : intBits o2 ≤ 58 := bits_lt (by omega)
      have bp : intBits ((2 : Int) ^ q) ≤ q + 1 := bits_lt (by rw [Int.natAbs_pow]; exact Nat.pow_lt_pow_right (by decide) (by omega))
      have hm : mulOk o2 (2 ^ q) = true := mulOk_of bo bp (by omega)
      have hsz : ns.length < 16777216 := by omega
      simp -implicitDefEqProofs [ht, hm, hsz]
      have := k (ns ++ [o2 * 2 ^ q]) (by simp [hl]) (fun x hx => by
        rcases List.mem_append.mp hx with hx | hx
        · exact hns x hx
        · rw [List.mem_singleton.mp hx]
          refine ⟨?_, Nat.le_trans (intBits_mul_le bo bp) (by omega)⟩
          have : (0 : Int) < 2 ^ q := Int.pow_pos (by decide)
          exact Int.le_trans (by omega) (Int.mul_le_mul ho2.1 (show (1 : Int) ≤ 2 ^ q by omega) (by omega) (by omega)))
      simpa using this
    by_cases h9 : o2 < 9
    · simp -implicitDefEqProofs [h9]
      refine okIo_of (draw7 (n + 1 + 2 * i + 1) hb2 (by omega) (by omega) (by omega)) fun r b3 ⟨v, hr, hq0, hq1, hb3⟩ => ?_
      subst hr
      obtain ⟨q, rfl⟩ := Int.eq_ofNat_of_zero_le hq0
      simp -implicitDefEqProofs
      refine fin q b3 (by omega) (hb3.mono (by omega)) _ fun ns2 k1 k2 => ?_
      exact ⟨ns2, o2, b3, some (.fz (.int i)), some (.fz (.int q)), by simp, .inr ⟨_, rfl⟩, .inr ⟨_, rfl⟩, ho2, k1, k2, hb3.mono (by omega)⟩
    · simp -implicitDefEqProofs [h9]
      have hs : ((if (70 : Int) < top then (70 : Int) else top) + 1) ≤ 71 ∧ 0 < ((if (70 : Int) < top then (70 : Int) else top) + 1) ∧ (if (70 : Int) < top then (70 : Int) else top) ≤ top := by split <;> omega
      refine okIo_of (draw7 (n + 1 + 2 * i + 1) hb2 (by omega) hs.2.1 (by omega)) fun r b3 ⟨v, hr, hq0, hq1, hb3⟩ => ?_
      subst hr
      obtain ⟨q, rfl⟩ := Int.eq_ofNat_of_zero_le hq0
      simp -implicitDefEqProofs
      refine fin q b3 (by omega) (hb3.mono (by omega)) _ fun ns2 k1 k2 => ?_
      exact ⟨ns2, o2, b3, some (.fz (.int i)), some (.fz (.int q)), by simp, .inr ⟨_, rfl⟩, .inr ⟨_, rfl⟩, ho2, k1, k2, hb3.mono (by omega)⟩
  · rintro e ⟨ns, o, bb, w, u, rfl, hw, hu, ho, hl, hns, hbb⟩
    simp -implicitDefEqProofs [unlend]
    exact ⟨ns, rfl, by simp at hl; omega, hns, hbb.mono (by simp; omega)⟩
end G
set_option Elab.async false
set_option linter.all false
set_option maxRecDepth 100000
set_option maxHeartbeats 4000000
namespace G
open PySem PySem.Spec PyProof.Rows L2 VI Builtin.Int
set_option exponentiation.threshold 2000
/-- a random row in numbers from 0 on -/
theorem random_row (n most top : Nat) {b : List D} (hb : Bx n b) (hn : n + 1000 ≤ 2 ^ 40) (h1 : most ≤ 100) (h2 : top ≤ 1000) :
    OkI (m_law_random_line b [.int most, .int top]) (fun r b' => ∃ row : List Nat, r = .fz (.tuple (row.map nI)) ∧ Rw (top + 70) most row ∧ Bx (n + 1 + 2 * most) b') := by
  obtain ⟨r, b', e1, ns, e2, e3, e4, e5⟩ := random_line n most top hb hn h1 h2
  obtain ⟨ms, m1, m2⟩ := to_nats (ns := ns) (fun x hx => by have := (e4 x hx).1; omega)
  refine ⟨r, b', e1, ms, by rw [e2, m2], ⟨fun x hx => ?_, fun x hx => ?_, by rw [m1, List.length_map] at e3; exact e3⟩, e5⟩
  · have := (e4 (x : Int) (by rw [m1]; exact List.mem_map.mpr ⟨x, hx, rfl⟩)).1
    omega
  · have := intBits_le_iff.mp (e4 (x : Int) (by rw [m1]; exact List.mem_map.mpr ⟨x, hx, rfl⟩)).2
    rw [Int.natAbs_natCast] at this
    exact this
end G
set_option Elab.async false
set_option linter.all false
set_option maxRecDepth 100000
set_option maxHeartbeats 4000000
namespace G
open PySem PySem.Spec PyProof.Rows L2 VI Builtin.Int
theorem zip_same {α : Type} : ∀ l : List α, l.zip l = l.map fun x => (x, x)
  | [] => rfl
  | x :: l => by rw [List.zip_cons_cons, zip_same l]; rfl
theorem zipD_self_mem {ds : List D} {x : D} (h : x ∈ zipD ds ds) : ∃ y ∈ ds, x = .tuple [y, y] := by
  unfold zipD at h
  obtain ⟨p, hp, rfl⟩ := List.mem_map.mp h
  rw [zip_same] at hp
  obtain ⟨y, hy, rfl⟩ := List.mem_map.mp hp
  exact ⟨y, hy, rfl⟩
theorem all_true (ds : List D) : allD (.list (ds.map fun _ => PyData.bool true)) = some (.fz (.bool true)) := by
  have h := allD_map (bs := ds.map fun _ => true)
  rw [List.map_map] at h
  rw [show (fun (_ : D) => PyData.bool true) = PyData.bool ∘ (fun _ => true) from rfl, h]
  congr 3
  rw [List.all_map, List.all_eq_true]
  intro x _; rfl
theorem same_refl : ∀ (k : Nat) {d : D} {B W N : Nat}, Sz B W N d → N < k → W ≤ 16000000 → r_law_same k [d, d] = some (.ok (.fz (.bool true))) := by
  intro k
  induction k with
  | zero => intro d B W N h hN; omega
  | succ k ih =>
    intro d B W N h hN hW
    have sub : ∀ {ds : List D}, SzAll B W (N - 1) ds → 0 < N → ∀ y ∈ ds, r_law_same k [y, y] = some (.ok (.fz (.bool true))) := by
      intro ds ha h0 y hy
      obtain ⟨i, hi, rfl⟩ := List.getElem_of_mem hy
      have h1 := ha.at (List.getElem?_eq_getElem hi)
      exact ih h1.1 (by omega) (by omega)
    have lc : ∀ {ds : List D} (x : D), SzAll B W (N - 1) ds → 0 < N → ∀ Q : Po Rv, Q (.fresh ((zipD ds ds).map fun _ => .bool true)) [some (.fz x), some (.fz x), none, none] → kLc (tgT [(tgV 2), (tgV 3)]) yesT (eF (r_law_same k) (toDs [(eV 2), (eV 3)])) [2, 3] Q ⟨zipD ds ds, []⟩ [some (.fz x), some (.fz x), none, none] := by
      intro ds x ha h0 Q hq
      have hl : ds.length ≤ W := Nat.le_trans (len_le_weight ds) ha.wt
      refine lcM_ok (fun _ => .bool true) (by rw [zipD_len]; simp; omega) (by simp [tgT, tgV]) ?_ ?_
      · intro y hy
        obtain ⟨z, hz, rfl⟩ := zipD_self_mem hy
        have hs := sub ha h0 z hz
        simp -implicitDefEqProofs [hs]
      · simpa using hq
    show fnF (b_law_same (r_law_same k)) 4 [d, d] = _
    refine fnF_is ?_
    cases d with
    | none => simp -implicitDefEqProofs [b_law_same, isLstB, isTupB, isStrB, isBoolB, isIntB, isNone, show eqD .none .none = some (.fz (.bool true)) from rfl]
    | bool z => simp -implicitDefEqProofs [b_law_same, isLstB, isTupB, isStrB, isBoolB, isIntB, isNone]
    | int z => simp -implicitDefEqProofs [b_law_same, isLstB, isTupB, isStrB, isBoolB, isIntB, isNone]
    | str z => simp -implicitDefEqProofs [b_law_same, isLstB, isTupB, isStrB, isBoolB, isIntB, isNone]
    | dict z => have := h.good; simp [VI.good] at this
    | list ds =>
      obtain ⟨ha, h0⟩ := h.of_list
      simp -implicitDefEqProofs [b_law_same, isLstB, isTupB]
      exact lc _ ha h0 _ (by simp -implicitDefEqProofs [all_true])
    | tuple ds =>
      obtain ⟨ha, h0⟩ := h.of_tuple
      simp -implicitDefEqProofs [b_law_same, isLstB, isTupB]
      exact lc _ ha h0 _ (by simp -implicitDefEqProofs [all_true])
theorem law_same_refl {d : D} {B W N : Nat} (h : Sz B W N d) (hN : N < 60) (hW : W ≤ 16000000) : m_law_same [d, d] = some (.ok (.fz (.bool true))) := same_refl 60 h hN hW
end G
set_option Elab.async false
set_option linter.all false
set_option maxRecDepth 100000
set_option maxHeartbeats 4000000
namespace N
theorem mvs_join (r : List Nat) : ((mvs r).filter fun m => m.1.1).map (·.1.2) = joi r := by
  have h1 : ∀ l : List Nat, (((l.flatMap fun i => mvAt r i (r.getD i 0)).filter fun m => m.1.1).map (·.1.2)) = l.filter fun i => decide (r[i + 1]? = some (r.getD i 0)) := by
    intro l
    induction l with
    | nil => rfl
    | cons i l ih =>
      rw [List.flatMap_cons, List.filter_append, List.map_append, ih, List.filter_cons]
      unfold mvAt
      by_cases h : r[i + 1]? = some (r.getD i 0) <;> by_cases h2 : r.getD i 0 % 2 = 0 <;> simp only [h, h2, if_true, if_false, List.filter_append, List.filter_cons, List.filter_nil, List.map_append, List.map_cons, List.map_nil, decide_true, decide_false, Bool.false_eq_true, List.nil_append, List.cons_append, List.append_nil]
  unfold mvs joi
  rw [h1]
  cases hr : r.length with
  | zero => rfl
  | succ k =>
    rw [show k + 1 - 1 = k by omega, List.range_succ, List.filter_append]
    have : (List.filter (fun i => decide (r[i + 1]? = some (r.getD i 0))) [k]) = [] := by
      have : r[k + 1]? = none := List.getElem?_eq_none (by omega)
      simp [this]
    rw [this, List.append_nil]
    apply List.filter_congr
    intro i hi
    have hi : i < k := List.mem_range.mp hi
    rw [decide_eq_decide, List.getD_eq_getElem?_getD, List.getD_eq_getElem?_getD, List.getElem?_eq_getElem (show i < r.length by omega), List.getElem?_eq_getElem (show i + 1 < r.length by omega)]
    simp only [Option.getD_some, Option.some.injEq]
    exact ⟨fun h => h.symm, fun h => h.symm⟩
theorem mvs_split (r : List Nat) : ((mvs r).filter fun m => !m.1.1).map (·.1.2) = spl r := by
  have h1 : ∀ l : List Nat, (((l.flatMap fun i => mvAt r i (r.getD i 0)).filter fun m => !m.1.1).map (·.1.2)) = l.filter fun i => decide (r.getD i 0 % 2 = 0) := by
    intro l
    induction l with
    | nil => rfl
    | cons i l ih =>
      rw [List.flatMap_cons, List.filter_append, List.map_append, ih, List.filter_cons]
      unfold mvAt
      by_cases h : r[i + 1]? = some (r.getD i 0) <;> by_cases h2 : r.getD i 0 % 2 = 0 <;> simp only [h, h2, if_true, if_false, List.filter_append, List.filter_cons, List.filter_nil, List.map_append, List.map_cons, List.map_nil, decide_true, decide_false, Bool.false_eq_true, List.nil_append, List.cons_append, List.append_nil, Bool.not_true, Bool.not_false]
  exact h1 _
end N
namespace G
open PySem PySem.Spec PyProof.Rows L2 VI Builtin.Int
theorem mem_mvs {r : List Nat} {m : (Bool × Nat) × List Nat} (h : m ∈ N.mvs r) : ∃ x, r[m.1.2]? = some x ∧ ((m.1.1 = true ∧ r[m.1.2 + 1]? = some x ∧ m.2 = r.take m.1.2 ++ [2 * x] ++ r.drop (m.1.2 + 2)) ∨ (m.1.1 = false ∧ x % 2 = 0 ∧ m.2 = r.take m.1.2 ++ [x / 2, x / 2] ++ r.drop (m.1.2 + 1))) := by
  unfold N.mvs at h
  obtain ⟨i, hi, h⟩ := List.mem_flatMap.mp h
  have hi := List.mem_range.mp hi
  have e : r.getD i 0 = r[i] := by rw [List.getD_eq_getElem?_getD, List.getElem?_eq_getElem hi]; rfl
  rw [e] at h
  unfold N.mvAt at h
  rcases List.mem_append.mp h with h | h
  · split at h
    · rw [List.mem_singleton] at h
      subst h
      exact ⟨r[i], List.getElem?_eq_getElem hi, .inl ⟨rfl, by assumption, rfl⟩⟩
    · cases h
  · split at h
    · rw [List.mem_singleton] at h
      subst h
      exact ⟨r[i], List.getElem?_eq_getElem hi, .inr ⟨rfl, by assumption, rfl⟩⟩
    · cases h
def J02 (n : Nat) (e : VI.Env) : Prop := ∃ (bb : List D) (row : List Nat), e = [some (.io bb), some (.fz (.tuple (row.map nI))), none, none, none, none, none, none, none, none, none] ∧ Bx n bb ∧ Rw 195 16 row
theorem part02a (n : Nat) {b : List D} (hb : Bx n b) (hn : n + 3000 ≤ 2 ^ 40) (Q : Po Fl) : Ok (block [(asgS 1 (eI m_law_random_line 0 (toDs [(eC (.int 16)), (eI m_law_of 0 (toDs [(eLst (toDs [(eC (.int 1)), (eC (.int 3)), (eC (.int 125))]))]))]))), (ifS (andT (tst (bin2 eqD (eI m_law_take 0 (toDs [(eC (.int 2))])) (eC (.int 0)))) (tst (bin2 neD (eV 1) (eTup (toDs []))))) (block [(asgS 1 (slE (bin2 addD (eV 1) (bin2 mulD (slE (eV 1) (some (un1 negD (eC (.int 1)))) none) (eI m_law_take 0 (toDs [(eC (.int 4))])))) none (some (eC (.int 16)))))]) (block []))] (initI 11 b [])) (kCut (J02 (n + 40)) Q) := by
  simp -implicitDefEqProofs
  refine okIo_of (of_nums n (P := fun k => k ≤ 125) hb (by omega) (by simp) (by simp) (fun d hd => by
    simp at hd
    rcases hd with rfl | rfl | rfl
    · exact ⟨1, rfl, by omega⟩
    · exact ⟨3, rfl, by omega⟩
    · exact ⟨125, rfl, by omega⟩)) fun r b1 ⟨top, hr, htop, hb1⟩ => ?_
  subst hr
  simp -implicitDefEqProofs
  refine okIo_of (random_row (n + 1) 16 top hb1 (by omega) (by omega) (by omega)) fun r b2 ⟨row, hr, hrow, hb2⟩ => ?_
  subst hr
  have hrow : Rw 195 16 row := hrow.mono (by omega) (by omega)
  simp -implicitDefEqProofs
  refine okIo_of (draw7 (n + 34) (hb2.mono (by omega)) (by omega) (by omega) (by omega)) fun r b3 ⟨v, hr, hv0, hv1, hb3⟩ => ?_
  subst hr
  simp -implicitDefEqProofs
  have stay : J02 (n + 40) [some (.io b3), some (.fz (.tuple (row.map nI))), none, none, none, none, none, none, none, none, none] := ⟨b3, row, rfl, hb3.mono (by omega), hrow⟩
  by_cases h0 : v = 0
  · rw [if_pos h0]
    by_cases h1 : row = []
    · rw [if_pos h1]; exact stay
    · rw [if_neg h1]
      refine okIo_of (draw7 (n + 35) (hb3.mono (by omega)) (by omega) (by omega) (by omega)) fun r b4 ⟨v, hr, hw0, hw1, hb4⟩ => ?_
      subst hr
      obtain ⟨k, rfl⟩ := Int.eq_ofNat_of_zero_le hw0
      have c16 := fun {xs : List D} => cut_nn (xs := xs) (k := 16) (by omega)
      have hpos := List.length_pos_iff.mpr h1
      have hlast : List.drop (row.length - 1) (row.map nI) = [nI (row.getLast h1)] := by
        have e1 : row.drop (row.length - 1) = [row.getLast h1] := by
          apply List.ext_getElem?
          intro i
          rw [List.getElem?_drop]
          cases i with
          | zero => simp [List.getLast_eq_getElem, hpos]
          | succ i => rw [List.getElem?_eq_none (by omega)]; rfl
        rw [← List.map_drop, e1]; rfl
      have hm : mulD (.tuple [nI (row.getLast h1)]) (.int (k : Int)) = some (.fz (.tuple (List.replicate k (nI (row.getLast h1))))) := mulD_rep _ (by omega)
      have hl := hrow.len
      simp -implicitDefEqProofs [c16, hlast, hm]
      refine ⟨by omega, b4, (row ++ List.replicate k (row.getLast h1)).take 16, by simp [List.map_take], hb4.mono (by omega), ⟨fun x hx => ?_, fun x hx => ?_, by rw [List.length_take]; omega⟩⟩
      · rcases List.mem_append.mp (List.mem_of_mem_take hx) with h | h
        · exact hrow.pos x h
        · rw [List.eq_of_mem_replicate h]; exact hrow.pos _ (List.getLast_mem h1)
      · rcases List.mem_append.mp (List.mem_of_mem_take hx) with h | h
        · exact hrow.lt x h
        · rw [List.eq_of_mem_replicate h]; exact hrow.lt _ (List.getLast_mem h1)
  · rw [if_neg h0]; exact stay
theorem right02 (n : Nat) {b : List D} (hb : Bx n b) (hn : n + 3000 ≤ 2 ^ 40) : OkI (m_law_right_v35 b []) (fun r b' => r = .fz (.bool true) ∧ Bx (n + 100) b') := by
  refine fnI_of ?_
  unfold b_law_right_v35
  refine block_cut 2 (J02 (n + 40)) (part02a n hb (by omega) _) ?_
  rintro e ⟨bb, row, rfl, hbb, hrow⟩
  have hr5 : Rw 195 100000 row := hrow.mono (by omega) (by omega)
  have hl := hrow.len
  have z1 : Sz 300 10000 1 (.tuple (row.map nI)) := (Sz.tuple (SzAll.nats (N := 0) (hrow.mono (B' := 300) (L' := 16) (by omega) (by omega)).lt)).mono (by omega) (by omega) (by omega)
  have hrep := z1.repr (by omega) (by omega) (by omega) (by omega)
  have hmv := moves_ok hr5 (by omega)
  have hml : (N.mvs row).length ≤ 200 := by
    unfold N.mvs
    rw [List.length_flatMap]
    have : ∀ l : List Nat, (l.map fun i => (N.mvAt row i (row.getD i 0)).length).sum ≤ 2 * l.length := by
      intro l
      induction l with
      | nil => simp
      | cons i l ih =>
        have h1 : (N.mvAt row i (row.getD i 0)).length ≤ 2 := by
          unfold N.mvAt
          split <;> split <;> simp
        simp only [List.map_cons, List.sum_cons, List.length_cons]
        omega
    have := this (List.range row.length)
    rw [List.length_range] at this
    omega
  simp -implicitDefEqProofs [hrep, hmv]
  refine lcG_ok (fun i ys e => e = [some (.io bb), some (.fz (.tuple (row.map nI))), none, none, some (.fz (.str (PyData.tuple (row.map nI)).shown)), some (.own (row.map nI)), some (.own ((N.mvs row).map mvD)), none, none, none, none] ∧ ys = [PyData.list ((N.joi row).map nI), .list ((N.spl row).map nI)].take i) (by simp) (by simp [tgV]) ⟨rfl, rfl⟩ ?_ ?_
  · rintro i d ys e hd ⟨rfl, rfl⟩
    have key : ∀ (ys : List D) (w : Str) (z : Bool) (out : List Nat), w = (if z then ("join" : Str) else "split") → ((N.mvs row).filter fun m => m.1.1 == z).map (·.1.2) = out → ∀ J : List D → VI.Env → Prop, J (ys ++ [.list (out.map nI)]) [some (.io bb), some (.fz (.tuple (row.map nI))), none, none, some (.fz (.str (PyData.tuple (row.map nI)).shown)), some (.own (row.map nI)), some (.own ((N.mvs row).map mvD)), none, none, none, none] →
      Ok (lcS (srcE (eV 6)) (tgT [tgV 7, tgV 8]) (tst (bin2 eqD (bin2 ixD (eV 7) (eC (PyData.int 0))) (eV 9))) (bin2 ixD (eV 7) (eC (PyData.int 1))) [7, 8] [some (.io bb), some (.fz (.tuple (row.map nI))), none, none, some (.fz (.str (PyData.tuple (row.map nI)).shown)), some (.own (row.map nI)), some (.own ((N.mvs row).map mvD)), none, none, some (.fz (.str w)), none]) (kFrz (kCy [9] J ys)) := by
      intro ys w z out hw ho J hJ
      simp -implicitDefEqProofs
      refine lcF_ok (fun d => match d with | .tuple [.tuple [.str s, _], _] => decide (s = w) | _ => false) (fun d => match d with | .tuple [.tuple [_, x], _] => x | d => d) (by simp; omega) (by simp [tgT, tgV]) ?_ ?_
      · intro d hd
        obtain ⟨m, hm, rfl⟩ := List.mem_map.mp hd
        unfold mvD
        refine ⟨_, by simp [tgT, tgV]; rfl, ?_⟩
        simp -implicitDefEqProofs
        rw [Bool.eq_iff_iff]
        simp
      · have e1 : ((List.map mvD (N.mvs row)).filter (fun d => match d with | .tuple [.tuple [.str s, _], _] => decide (s = w) | _ => false)).map (fun d => match d with | .tuple [.tuple [_, x], _] => x | d => d) = out.map nI := by
          rw [← ho, List.filter_map, List.map_map, List.map_map]
          have : ∀ l : List ((Bool × Nat) × List Nat), (l.filter ((fun d : D => match d with | .tuple [.tuple [.str s, _], _] => decide (s = w) | _ => false) ∘ mvD)) = l.filter fun m => m.1.1 == z := by
            intro l
            apply List.filter_congr
            rintro ⟨⟨x, k⟩, q⟩ _
            subst hw
            cases x <;> cases z <;> simp [mvD] <;> decide
          rw [this]; rfl
        simp -implicitDefEqProofs [e1]
        exact hJ
    cases i with
    | zero =>
      obtain rfl := Option.some.inj hd
      refine ⟨_, rfl, ?_⟩
      refine key [] _ true (N.joi row) rfl (by simpa using N.mvs_join row) _ ?_
      simp
    | succ i => cases i with
      | zero =>
        obtain rfl := Option.some.inj hd
        refine ⟨_, rfl, ?_⟩
        refine key [.list ((N.joi row).map nI)] _ false (N.spl row) rfl (by simpa using N.mvs_split row) _ ?_
        simp
      | succ i => simp at hd
  · rintro ys e ⟨rfl, rfl⟩
    have hj := joins_ok (r := row) (by omega)
    have hs := splits_ok (r := row) (by omega)
    have hjL := joins_okL (r := row) (by omega)
    have hsL := splits_okL (r := row) (by omega)
    have zz : Sz 300 10000 2 (.list [.list ((N.joi row).map nI), .list ((N.spl row).map nI)]) := by
      have h1 : SzAll 300 4816 0 ((N.joi row).map nI) := (SzAll.nats (B := 300) (N := 0) fun x hx => by
        have := List.mem_range.mp (List.mem_filter.mp hx).1
        exact Nat.lt_trans (show x < 16 by omega) (Nat.lt_of_lt_of_le (by decide : 16 < 2 ^ 5) (Nat.pow_le_pow_right (by omega) (by omega)))).mono (by omega) (by
          have : (N.joi row).length ≤ 16 := Nat.le_trans (List.length_filter_le _ _) (by rw [List.length_range]; omega)
          omega) (by omega)
      have h2 : SzAll 300 4816 0 ((N.spl row).map nI) := (SzAll.nats (B := 300) (N := 0) fun x hx => by
        have := List.mem_range.mp (List.mem_filter.mp hx).1
        exact Nat.lt_trans (show x < 16 by omega) (Nat.lt_of_lt_of_le (by decide : 16 < 2 ^ 5) (Nat.pow_le_pow_right (by omega) (by omega)))).mono (by omega) (by
          have : (N.spl row).length ≤ 16 := Nat.le_trans (List.length_filter_le _ _) (by rw [List.length_range]; omega)
          omega) (by omega)
      exact (Sz.list (SzAll.cons (Sz.list h1) (SzAll.cons (Sz.list h2) .nil (W' := 0)))).mono (by omega) (by omega) (by omega)
    have hsame := law_same_refl zz (by omega) (by omega)
    have i0 : ixN 2 0 = some 0 := by decide
    have i1 : ixN 2 1 = some 1 := by decide
    have l1 : (N.joi row).length ≤ 16 := Nat.le_trans (List.length_filter_le _ _) (by rw [List.length_range]; omega)
    have l2 : (N.spl row).length ≤ 16 := Nat.le_trans (List.length_filter_le _ _) (by rw [List.length_range]; omega)
    simp -implicitDefEqProofs [hj, hs, hjL, hsL, hsame, i0, i1]
    refine ⟨by omega, ?_⟩
    have hrv : fmRev ((N.spl row).map nI) [] = some (.none, ((N.spl row).map nI).reverse) := rfl
    simp -implicitDefEqProofs [hrv, hj, hs, hsame]
    have hstr : ((Str.ofString "split") == (Str.ofString "join")) = false := by decide +kernel
    generalize OT.lst [OT.lst (List.map (OT.fz ∘ nI) (N.joi row) ++ [OT.fz (PyData.str (Str.ofString "more"))]), OT.lst (List.map (OT.fz ∘ nI) (N.spl row)).reverse] = T
    generalize PyData.list [PyData.list (List.map nI (N.joi row)), PyData.list (List.map nI (N.spl row))] = W
    clear hsame hrv zz hj hs hjL hsL
    refine for_okN (fun i e => ∃ (w7 w8 w10 : Option Sv), e = [some (.io bb), some (.fz (.tuple (row.map nI))), some (.fz W), some (.tr false T), some (.fz (.str (PyData.tuple (row.map nI)).shown)), some (.fz (.list (row.map nI))), some (.lent ((N.mvs row).map mvD)), w7, w8, none, w10] ∧ Fr w7 ∧ Fr w8 ∧ Fr w10) ⟨none, none, none, rfl, by simp, by simp, by simp⟩ ?_ ?_
    · rintro i x e hx ⟨w7, w8, w10, rfl, f7, f8, f10⟩
      obtain ⟨m, hm, rfl⟩ := List.mem_map.mp (List.mem_of_getElem? hx)
      obtain ⟨x, hx0, hc⟩ := mem_mvs hm
      obtain ⟨⟨z, k⟩, q⟩ := m
      have hT := tgT2_fr (e := [some (.io bb), some (.fz (.tuple (row.map nI))), some (.fz W), some (.tr false T), some (.fz (.str (PyData.tuple (row.map nI)).shown)), some (.fz (.list (row.map nI))), some (.lent ((N.mvs row).map mvD)), w7, w8, none, w10]) (i := 7) (j := 8) (x := .tuple [.str (if z then "join" else "split"), .int (k : Int)]) (y := .tuple (q.map nI)) rfl f7 rfl f8
      simp only [List.set_cons_succ, List.set_cons_zero, List.set_nil] at hT
      refine ⟨_, hT, ?_⟩
      have hx : x < 2 ^ 195 := hrow.lt x (List.mem_of_getElem? hx0)
      simp only at hx0 hc
      have big : ∀ y, y < 2 ^ 195 → 2 * y < 2 ^ 300 := fun y hy => by
        have h1 : 2 ^ 196 ≤ 2 ^ 300 := Nat.pow_le_pow_right (by omega) (by omega)
        have h2 : 2 ^ 196 = 2 * 2 ^ 195 := by rw [Nat.pow_succ, Nat.mul_comm]
        generalize 2 ^ 300 = P at *
        generalize 2 ^ 196 = P1 at *
        generalize 2 ^ 195 = P2 at *
        omega
      have hq : SzAll 300 9000 0 (q.map nI) := by
        refine (SzAll.nats (B := 300) (N := 0) fun y hy => ?_).mono (Nat.le_refl _) ?_ (Nat.le_refl _)
        · have h2 := big x hx
          have h3 : x / 2 ≤ 2 * x := by omega
          rcases hc with ⟨_, _, rfl⟩ | ⟨_, _, rfl⟩ <;> rcases List.mem_append.mp hy with hy | hy <;> (try rcases List.mem_append.mp hy with hy | hy)
          all_goals first
            | (have h4 := big y (hrow.lt y (List.mem_of_mem_take hy)); exact Nat.lt_of_le_of_lt (by omega) h4)
            | (have h4 := big y (hrow.lt y (List.mem_of_mem_drop hy)); exact Nat.lt_of_le_of_lt (by omega) h4)
            | (rw [List.mem_singleton.mp hy]; exact h2)
            | (have : y = x / 2 := by simpa using hy
               rw [this]; exact Nat.lt_of_le_of_lt h3 h2)
        · have : q.length ≤ 18 := by
            rcases hc with ⟨_, _, rfl⟩ | ⟨_, _, rfl⟩ <;> simp <;> omega
          omega
      have zz := (Sz.list (SzAll.cons (Sz.tuple hq) (SzAll.cons (Sz.tuple hq) .nil (W' := 0)))).mono (Nat.le_refl _) (show _ ≤ 40000 by omega) (Nat.le_refl _)
      have hsame := law_same_refl zz (by omega) (by omega)
      rcases hc with ⟨hz, h2, hqe⟩ | ⟨hz, h2, hqe⟩
      · subst hz
        have f1 := joined_ok hr5 (by omega) hx0 h2
        have f2 := joined_okL hr5 (by omega) hx0 h2
        rw [← hqe] at f1 f2
        simp -implicitDefEqProofs [f1, f2, hsame, okP_fr f10]
        exact ⟨_, _, _, ⟨rfl, rfl, rfl⟩, by simp, by simp, by simp⟩
      · subst hz
        have f1 := halved_ok hr5 (by omega) hx0 h2
        have f2 := halved_okL hr5 (by omega) hx0 h2
        rw [← hqe] at f1 f2
        simp -implicitDefEqProofs [f1, f2, hsame, okP_fr f10, hstr]
        exact ⟨_, _, _, ⟨rfl, rfl, rfl⟩, by simp, by simp, by simp⟩
    · rintro e ⟨w7, w8, w10, rfl, f7, f8, f10⟩
      simp -implicitDefEqProofs [hrep, z1.eqv]
      exact hbb.mono (by omega)
end G
set_option Elab.async false
set_option linter.all false
set_option maxRecDepth 100000
set_option maxHeartbeats 4000000
namespace G
open PySem PySem.Spec PyProof.Rows L2 VI Builtin.Int
theorem pure_law (ns : List Int) (h1 : ns.length ≤ 63) (h2 : ∀ k ∈ ns, intBits k ≤ 1048576) : m_law_v36 [.list (ns.map .int)] = some (.ok (.fz (.bool true))) := by
  refine fnF_is ?_
  simp -implicitDefEqProofs [b_law_v36]
  refine okFn_of (cells_ok ns 3 (by omega) (by omega) h1 h2) fun r ⟨cs, hr, h0, hl, hc⟩ => ?_
  subst hr
  have hR := inR_nat (n := cs.length) (by omega)
  have hR3 := inR_nat (n := 4) (by omega)
  simp -implicitDefEqProofs [hR]
  refine for_okN (fun i e => ∃ w1 w2 w3 w4, e = [some (.fz (.list (ns.map .int))), some w1, w2, w3, w4] ∧ (w1 = .own (cs.map .int) ∨ w1 = .fz (.list (cs.map .int))) ∧ Fr w2 ∧ Fr w3 ∧ Fr w4) ⟨_, none, none, none, rfl, .inl rfl, by simp, by simp, by simp⟩ ?_ ?_
  · rintro i d e hd ⟨w1, w2, w3, w4, rfl, hw1, hw2, hw3, hw4⟩
    obtain ⟨hi, rfl⟩ := intsOf_get hd
    have hi : i < cs.length := hi
    have body : Ok (block [(asgS 3 (eF m_law_box (toDs [(eV 1), (eV 2)]))), (ifS (notT (tst (eB (on1 allD) (opds [(lcS (rng1 (eC (.int 4))) (tgV 4) yesT (eI m_law_right_v35 3 (toDs [])) [4])])))) (block [(retS (eC (.bool false)))]) (block []))] [some (.fz (.list (ns.map .int))), some w1, some (.fz (.int i)), w3, w4])
        (endT (fun e => ∃ w2 w3 w4, e = [some (.fz (.list (ns.map .int))), some (.fz (.list (cs.map .int))), w2, w3, w4] ∧ Fr w2 ∧ Fr w3 ∧ Fr w4) noB noR) := by
      have key : okFn (m_law_box [PyData.list (List.map PyData.int cs), PyData.int i]) [some (.fz (.list (ns.map .int))), some (.fz (.list (cs.map .int))), some (.fz (.int i)), w3, w4] (kSt 3 (kSeq (block [(ifS (notT (tst (eB (on1 allD) (opds [(lcS (rng1 (eC (.int 4))) (tgV 4) yesT (eI m_law_right_v35 3 (toDs [])) [4])])))) (block [(retS (eC (.bool false)))]) (block []))]) (endT (fun e => ∃ w2 w3 w4, e = [some (.fz (.list (ns.map .int))), some (.fz (.list (cs.map .int))), w2, w3, w4] ∧ Fr w2 ∧ Fr w3 ∧ Fr w4) noB noR))) := by
        refine okFn_of (box_ok cs i hi (by omega) hc) fun r ⟨b, hr, hb⟩ => ?_
        subst hr
        simp -implicitDefEqProofs [okP_fr hw3]
        refine ⟨hR3, ?_⟩
        refine lcG_ok (fun j ys e => ∃ bb, e = [some (.fz (.list (ns.map .int))), some (.fz (.list (cs.map .int))), some (.fz (.int i)), some (.own bb), none] ∧ Bx (100 * j) bb ∧ ys = List.replicate j (.bool true)) (by rw [intsOf_len, sizeLine_eq]; omega) (by simp [tgV]) ⟨b, by rfl, hb.mono (by omega), rfl⟩ ?_ ?_
        · rintro j d ys e hd ⟨bb, rfl, hbb, rfl⟩
          have hj : j < 4 := (intsOf_get hd).1
          refine ⟨_, rfl, ?_⟩
          simp -implicitDefEqProofs
          refine okIo_of (right02 (100 * j) hbb (by omega)) fun r b3 ⟨hr, hb3⟩ => ?_
          subst hr
          simp -implicitDefEqProofs [wipeE]
          exact ⟨hb3.mono (by omega), List.replicate_succ'.symm⟩
        · rintro ys e ⟨bb, rfl, hbb, rfl⟩
          have ha : allD (.list (List.replicate 4 (.bool true))) = some (.fz (.bool true)) := rfl
          simp -implicitDefEqProofs only [List.replicate_succ, List.replicate_zero] at ha
          simp -implicitDefEqProofs [ha]
          exact ⟨_, _, _, ⟨rfl, rfl, rfl⟩, by simp, by simp, by simp⟩
      rcases hw1 with rfl | rfl
      · simpa -implicitDefEqProofs using key
      · simpa -implicitDefEqProofs using key
    refine ⟨_, tgV_fr rfl hw2, ?_⟩
    simp only [Int.zero_add]
    refine Ok.mono body (endT_mono ?_)
    rintro e ⟨w2, w3, w4, rfl, h⟩
    exact ⟨_, w2, w3, w4, rfl, .inr rfl, h⟩
  · rintro e ⟨w1, w2, w3, w4, rfl, hw1, hw2, hw3, hw4⟩
    simp -implicitDefEqProofs [unlend]
end G
set_option Elab.async false
set_option linter.all false
set_option maxRecDepth 100000
set_option maxHeartbeats 8000000
namespace G
open PySem PySem.Spec PyProof.Rows L2 VI
def top (i : Nat) : Stmt := PySem.Challenge.pw_twinheaps_k02_joins_and_splits.main.body.getD i (.Pass ⟨0, 0, 0, 0⟩)
abbrev st_law_cells : Stmt := top 12
abbrev st_law_box : Stmt := top 10
abbrev st_law_take : Stmt := top 11
abbrev st_law_of : Stmt := top 13
abbrev st_law_two_to : Stmt := top 15
abbrev st_law_random_line : Stmt := top 16
abbrev st_law_moves : Stmt := top 17
abbrev st_joins : Stmt := top 5
abbrev st_splits : Stmt := top 6
abbrev st_law_same : Stmt := top 14
abbrev st_joined : Stmt := top 7
abbrev st_halved : Stmt := top 8
abbrev st_law_right_v35 : Stmt := top 18
abbrev st_law_v36 : Stmt := top 19
structure Txt (K : PySem.W.Frag) (mg : Str → Option Value) : Prop where
  d_law_cells : DF K mg "_law_cells" "_law_cells" st_law_cells ["_law_script", "_law_most"]
  d_law_box : DF K mg "_law_box" "_law_box" st_law_box ["_law_script", "_law_k"]
  d_law_take : DF K mg "_law_take" "_law_take" st_law_take ["_law_box_here", "_law_span"]
  d_law_of : DF K mg "_law_of" "_law_of" st_law_of ["_law_box_here", "_law_some"]
  d_law_two_to : DF K mg "_law_two_to" "_law_two_to" st_law_two_to ["_law_many_times"]
  d_law_random_line : DF K mg "_law_random_line" "_law_random_line" st_law_random_line ["_law_box_here", "_law_most", "_law_top"]
  d_law_moves : DF K mg "_law_moves" "_law_moves" st_law_moves ["_law_line"]
  d_joins : DF K mg "joins" "joins" st_joins ["row"]
  d_joins_kw_row : DFK K mg "joins" "joins" st_joins ["row"] ["row"] [0]
  d_splits : DF K mg "splits" "splits" st_splits ["row"]
  d_splits_kw_row : DFK K mg "splits" "splits" st_splits ["row"] ["row"] [0]
  d_law_same : DF K mg "_law_same" "_law_same" st_law_same ["_law_found", "_law_due"]
  d_joined : DF K mg "joined" "joined" st_joined ["row", "place"]
  d_joined_kw_place_row : DFK K mg "joined" "joined" st_joined ["row", "place"] ["place", "row"] [1, 0]
  d_halved : DF K mg "halved" "halved" st_halved ["row", "place"]
  d_halved_kw_place_row : DFK K mg "halved" "halved" st_halved ["row", "place"] ["place", "row"] [1, 0]
  d_law_right_v35 : DF K mg "_law_right" "_law_right" st_law_right_v35 ["_law_box_here"]
  d_law_v36 : DF K mg "law" "law" st_law_v36 ["_law_script"]
  z_abs : mg "abs" = none
  z_all : mg "all" = none
  z_bool : mg "bool" = none
  z_enumerate : mg "enumerate" = none
  z_int : mg "int" = none
  z_isinstance : mg "isinstance" = none
  z_len : mg "len" = none
  z_list : mg "list" = none
  z_min : mg "min" = none
  z_range : mg "range" = none
  z_repr : mg "repr" = none
  z_str : mg "str" = none
  z_tuple : mg "tuple" = none
  z_zip : mg "zip" = none
end G
set_option Elab.async false
set_option linter.all false
set_option maxRecDepth 100000
set_option maxHeartbeats 8000000
namespace G
open PySem PySem.Spec PyProof.Rows L2 VI
variable {P : Program} {W : World} {K : PySem.W.Frag} {mg : Str → Option Value} {base : Heap} {XR : Hp → Hp → Xc → Value → Option Addr → Prop}
theorem sc_law_cells : FnScope ["_law_script", "_law_most", "_law_cells_here", "_law_k", "_law_cell"] ["_law_script", "_law_most"] (defScope st_law_cells) := ⟨rfl, rfl, rfl, by decide +kernel, rfl, by decide +kernel, by decide +kernel⟩
theorem g_law_cells (T : Txt K mg) (f : Addr) (fd : FuncData) (F : Fun K "_law_cells" "_law_cells" st_law_cells f fd) : FnG P W K mg base 1 f fd ["_law_script", "_law_most"] (spF K XR 2 m_law_cells) := by
  have hh := @def_ok K P W mg base XR _ _ _ f fd _ _ 0 b_law_cells F sc_law_cells
  refine hh fun cdv A outer s H E hr hu => ?_
  exact (vss_cons (vs_asg (i := 2) sc_law_cells.nd rfl (by first | exact .inl rfl | exact .inr rfl) (ve_bty call_list_of s_lst (by rfl) T.z_list bb_list (va_cons (ve_slice rfl (ve_var 0) vo_none (vo_some (ve_var 1))) va_nil))) (vss_cons (vs_for (passes_of rfl) rfl (vi_enum rfl (by rfl) T.z_enumerate (ve_slice rfl (ve_var 0) (vo_some (ve_var 1)) (vo_some ve_int))) (vg_tup rfl (vgs_cons (vg_name (i := 3) sc_law_cells.nd rfl (by first | exact .inl rfl | exact .inr rfl)) (vgs_cons (vg_name (i := 4) sc_law_cells.nd rfl (by first | exact .inl rfl | exact .inr rfl)) vgs_nil))) (vss_one (vs_set (ve_bin op_addU s_add (ve_ix ix_seq s_ix (ve_var 2) (ve_bin op_mod s_mod (ve_var 3) (ve_var 1)) (fun _ _ => rfl)) (ve_bin op_mulU s_mul (ve_var 4) (ve_bin op_addU s_add (ve_var 3) ve_int))) (ve_var 2) (ve_bin op_mod s_mod (ve_var 3) (ve_var 1)) (pg_sub (ve_var 2) (ve_bin op_mod s_mod (ve_var 3) (ve_var 1)) set_list)))) (vss_one (vs_ret (ve_ite (vt_cmp (op_neU hr.units) s_ne (ve_var 2) (ve_lst vd_nil) (nomark _)) (ve_var 2) (ve_lst (vd_cons ve_int vd_nil)))))))
theorem e_law_cells (T : Txt K mg) : Defn P W K mg base 1 "_law_cells" 2 (spF K XR 2 m_law_cells) := T.d_law_cells.to rfl (g_law_cells T)
end G
set_option Elab.async false
set_option linter.all false
set_option maxRecDepth 100000
set_option maxHeartbeats 8000000
namespace G
open PySem PySem.Spec PyProof.Rows L2 VI
variable {P : Program} {W : World} {K : PySem.W.Frag} {mg : Str → Option Value} {base : Heap} {XR : Hp → Hp → Xc → Value → Option Addr → Prop}
theorem sc_law_box : FnScope ["_law_script", "_law_k", "_law_cell"] ["_law_script", "_law_k"] (defScope st_law_box) := ⟨rfl, rfl, rfl, by decide +kernel, rfl, by decide +kernel, by decide +kernel⟩
theorem g_law_box (T : Txt K mg) (f : Addr) (fd : FuncData) (F : Fun K "_law_box" "_law_box" st_law_box f fd) : FnG P W K mg base 1 f fd ["_law_script", "_law_k"] (spF K XR 2 m_law_box) := by
  have hh := @def_ok K P W mg base XR _ _ _ f fd _ _ 0 b_law_box F sc_law_box
  refine hh fun cdv A outer s H E hr hu => ?_
  exact (vss_cons (vs_asg (i := 2) sc_law_box.nd rfl (by first | exact .inl rfl | exact .inr rfl) (ve_ite (vt_cmp op_lt s_lt (ve_var 1) (ve_blt c_len s_len (by rfl) T.z_len bb_len (va_cons (ve_var 0) va_nil)) (nomark _)) (ve_ix ix_seq s_ix (ve_var 0) (ve_var 1) (fun _ _ => rfl)) ve_int)) (vss_one (vs_ret (ve_lst (vd_cons (ve_bin op_mulU s_mul (ve_blt call_abs s_abs (by rfl) T.z_abs bb_abs (va_cons (ve_var 2) va_nil)) (ve_bty call_int1 s_int (by rfl) T.z_int bb_int (va_cons (ve_cmp op_ge s_ge (ve_blt call_abs s_abs (by rfl) T.z_abs bb_abs (va_cons (ve_var 2) va_nil)) (ve_bin op_pow s_pow ve_int ve_int) (nomark _)) va_nil))) (vd_cons (ve_bin op_addU s_add (ve_bin op_addU s_add (ve_bin op_mod s_mod (ve_var 2) ve_int) (ve_bin op_mulU s_mul ve_int (ve_var 1))) ve_int) (vd_cons ve_int vd_nil)))))))
theorem e_law_box (T : Txt K mg) : Defn P W K mg base 1 "_law_box" 2 (spF K XR 2 m_law_box) := T.d_law_box.to rfl (g_law_box T)
end G
set_option Elab.async false
set_option linter.all false
set_option maxRecDepth 100000
set_option maxHeartbeats 8000000
namespace G
open PySem PySem.Spec PyProof.Rows L2 VI
variable {P : Program} {W : World} {K : PySem.W.Frag} {mg : Str → Option Value} {base : Heap} {XR : Hp → Hp → Xc → Value → Option Addr → Prop}
theorem sc_law_take : FnScope ["_law_box_here", "_law_span", "_law_once", "_law_found"] ["_law_box_here", "_law_span"] (defScope st_law_take) := ⟨rfl, rfl, rfl, by decide +kernel, rfl, by decide +kernel, by decide +kernel⟩
theorem k_law_take (T : Txt K mg) : ∀ d : Nat, Defn P W K mg base (0 + d) "_law_take" 2 (spI K XR 2 (r_law_take d))
  | 0 => T.d_law_take.noI rfl
  | d + 1 => T.d_law_take.to rfl fun f fd F => by
    have hh := @def_okI K P W mg base XR _ _ _ f fd _ _ (0 + d) (b_law_take (r_law_take d)) F sc_law_take
    refine hh fun cdv A outer s H E hr hu => ?_
    have self_law_take := k_law_take T d
    exact (vss_cons (vs_if (vt_cmp op_gt s_gt (ve_ix ix_seq s_ix (ve_var 0) ve_int (fun _ _ => rfl)) ve_int (nomark _)) (vss_cons (vs_asg (i := 3) sc_law_take.nd rfl (by first | exact .inl rfl | exact .inr rfl) (ve_bin op_mod s_mod (ve_ix ix_seq s_ix (ve_var 0) ve_int (fun _ _ => rfl)) (ve_var 1))) (vss_cons (vs_set (ve_bin op_fdivW s_div (ve_ix ix_seq s_ix (ve_var 0) ve_int (fun _ _ => rfl)) (ve_var 1)) (ve_var 0) ve_int (pg_sub (ve_var 0) ve_int set_list)) (vss_one (vs_ret (ve_var 3))))) vss_nil) (vss_cons (vs_if (vt_cmp op_gt s_gt (ve_var 1) (ve_bin op_pow s_pow ve_int ve_int) (nomark _)) (vss_one (vs_ret (ve_bin op_mod s_mod (ve_bin op_addU s_add (ve_callI self_law_take (hr.mono (by omega)) hu (by rfl) (fun σ => passAt (takes_of rfl rfl rfl rfl) σ) rfl (ve_var 0) (vd_cons (ve_bin op_pow s_pow ve_int ve_int) vd_nil)) (ve_bin op_mulU s_mul (ve_bin op_pow s_pow ve_int ve_int) (ve_callI self_law_take (hr.mono (by omega)) hu (by rfl) (fun σ => passAt (takes_of rfl rfl rfl rfl) σ) rfl (ve_var 0) (vd_cons (ve_bin op_addU s_add (ve_bin op_fdivW s_div (ve_bin op_sub s_sub (ve_var 1) ve_int) (ve_bin op_pow s_pow ve_int ve_int)) ve_int) vd_nil)))) (ve_var 1)))) vss_nil) (vss_cons (vs_set (ve_bin op_addU s_add (ve_ix ix_seq s_ix (ve_var 0) ve_int (fun _ _ => rfl)) ve_int) (ve_var 0) ve_int (pg_sub (ve_var 0) ve_int set_list)) (vss_cons (vs_asg (i := 2) sc_law_take.nd rfl (by first | exact .inl rfl | exact .inr rfl) (ve_bin op_mod s_mod (ve_bin op_pow s_pow (ve_bin op_addU s_add (ve_ix ix_seq s_ix (ve_var 0) ve_int (fun _ _ => rfl)) (ve_bin op_mulU s_mul ve_int (ve_ix ix_seq s_ix (ve_var 0) ve_int (fun _ _ => rfl)))) ve_int) ve_int)) (vss_one (vs_ret (ve_bin op_mod s_mod (ve_bin op_fdivW s_div (ve_bin op_mod s_mod (ve_bin op_addU s_add (ve_bin op_mulU s_mul (ve_var 2) (ve_bin op_addU s_add (ve_bin op_mod s_mod (ve_var 2) ve_int) ve_int)) (ve_bin op_mulU s_mul (ve_ix ix_seq s_ix (ve_var 0) ve_int (fun _ _ => rfl)) ve_int)) ve_int) ve_int) (ve_var 1))))))))
theorem e_law_take (T : Txt K mg) : Defn P W K mg base 60 "_law_take" 2 (spI K XR 2 m_law_take) := k_law_take T 60
end G
set_option Elab.async false
set_option linter.all false
set_option maxRecDepth 100000
set_option maxHeartbeats 8000000
namespace G
open PySem PySem.Spec PyProof.Rows L2 VI
variable {P : Program} {W : World} {K : PySem.W.Frag} {mg : Str → Option Value} {base : Heap} {XR : Hp → Hp → Xc → Value → Option Addr → Prop}
theorem sc_law_of : FnScope ["_law_box_here", "_law_some"] ["_law_box_here", "_law_some"] (defScope st_law_of) := ⟨rfl, rfl, rfl, by decide +kernel, rfl, by decide +kernel, by decide +kernel⟩
theorem g_law_of (T : Txt K mg) (f : Addr) (fd : FuncData) (F : Fun K "_law_of" "_law_of" st_law_of f fd) : FnG P W K mg base 62 f fd ["_law_box_here", "_law_some"] (spI K XR 2 m_law_of) := by
  have hh := @def_okI K P W mg base XR _ _ _ f fd _ _ 61 b_law_of F sc_law_of
  refine hh fun cdv A outer s H E hr hu => ?_
  exact (vss_one (vs_ret (ve_ix ix_seq s_ix (ve_var 1) (ve_callI (e_law_take T) (hr.mono (by omega)) hu (by rfl) (fun σ => passAt (takes_of rfl rfl rfl rfl) σ) rfl (ve_var 0) (vd_cons (ve_blt c_len s_len (by rfl) T.z_len bb_len (va_cons (ve_var 1) va_nil)) vd_nil)) (fun _ _ => rfl))))
theorem e_law_of (T : Txt K mg) : Defn P W K mg base 62 "_law_of" 2 (spI K XR 2 m_law_of) := T.d_law_of.to rfl (g_law_of T)
end G
set_option Elab.async false
set_option linter.all false
set_option maxRecDepth 100000
set_option maxHeartbeats 8000000
namespace G
open PySem PySem.Spec PyProof.Rows L2 VI
variable {P : Program} {W : World} {K : PySem.W.Frag} {mg : Str → Option Value} {base : Heap} {XR : Hp → Hp → Xc → Value → Option Addr → Prop}
theorem sc_law_two_to : FnScope ["_law_many_times", "_law_found", "_law_turn"] ["_law_many_times"] (defScope st_law_two_to) := ⟨rfl, rfl, rfl, by decide +kernel, rfl, by decide +kernel, by decide +kernel⟩
theorem g_law_two_to (T : Txt K mg) (f : Addr) (fd : FuncData) (F : Fun K "_law_two_to" "_law_two_to" st_law_two_to f fd) : FnG P W K mg base 1 f fd ["_law_many_times"] (spF K XR 1 m_law_two_to) := by
  have hh := @def_ok K P W mg base XR _ _ _ f fd _ _ 0 b_law_two_to F sc_law_two_to
  refine hh fun cdv A outer s H E hr hu => ?_
  exact (vss_cons (vs_asg (i := 1) sc_law_two_to.nd rfl (by first | exact .inl rfl | exact .inr rfl) ve_int) (vss_cons (vs_for (passes_of rfl) rfl (vi_rng1 (by rfl) T.z_range (ve_var 0)) (vg_name (i := 2) sc_law_two_to.nd rfl (by first | exact .inl rfl | exact .inr rfl)) (vss_one (vs_asg (i := 1) sc_law_two_to.nd rfl (by first | exact .inl rfl | exact .inr rfl) (ve_bin op_mulU s_mul (ve_var 1) ve_int)))) (vss_one (vs_ret (ve_var 1)))))
theorem e_law_two_to (T : Txt K mg) : Defn P W K mg base 1 "_law_two_to" 1 (spF K XR 1 m_law_two_to) := T.d_law_two_to.to rfl (g_law_two_to T)
end G
set_option Elab.async false
set_option linter.all false
set_option maxRecDepth 100000
set_option maxHeartbeats 8000000
namespace G
open PySem PySem.Spec PyProof.Rows L2 VI
variable {P : Program} {W : World} {K : PySem.W.Frag} {mg : Str → Option Value} {base : Heap} {XR : Hp → Hp → Xc → Value → Option Addr → Prop}
theorem sc_law_random_line : FnScope ["_law_box_here", "_law_most", "_law_top", "_law_turn", "_law_found", "_law_odd", "_law_power"] ["_law_box_here", "_law_most", "_law_top"] (defScope st_law_random_line) := ⟨rfl, rfl, rfl, by decide +kernel, rfl, by decide +kernel, by decide +kernel⟩
theorem g_law_random_line (T : Txt K mg) (f : Addr) (fd : FuncData) (F : Fun K "_law_random_line" "_law_random_line" st_law_random_line f fd) : FnG P W K mg base 63 f fd ["_law_box_here", "_law_most", "_law_top"] (spI K XR 3 m_law_random_line) := by
  have hh := @def_okI K P W mg base XR _ _ _ f fd _ _ 62 b_law_random_line F sc_law_random_line
  refine hh fun cdv A outer s H E hr hu => ?_
  exact (vss_cons (vs_par2 (i := 4) (j := 5) rfl sc_law_random_line.nd rfl rfl (by decide) rfl rfl (vm_cons (ve_lst vd_nil) (vm_cons ve_int vm_nil)) rfl) (vss_cons (vs_for (passes_of rfl) rfl (vi_rng1 (by rfl) T.z_range (ve_callI (e_law_take T) (hr.mono (by omega)) hu (by rfl) (fun σ => passAt (takes_of rfl rfl rfl rfl) σ) rfl (ve_var 0) (vd_cons (ve_bin op_addU s_add (ve_var 1) ve_int) vd_nil))) (vg_name (i := 3) sc_law_random_line.nd rfl (by first | exact .inl rfl | exact .inr rfl)) (vss_cons (vs_asg (i := 5) sc_law_random_line.nd rfl (by first | exact .inl rfl | exact .inr rfl) (ve_callI (e_law_of T) (hr.mono (by omega)) hu (by rfl) (fun σ => passAt (takes_of rfl rfl rfl rfl) σ) rfl (ve_var 0) (vd_cons (ve_lst (vd_cons (ve_var 5) (vd_cons (ve_var 5) (vd_cons (ve_var 5) (vd_cons (ve_var 5) (vd_cons ve_int (vd_cons ve_int (vd_cons ve_int (vd_cons (ve_bin op_addU s_add (ve_bin op_pow s_pow ve_int ve_int) ve_int) vd_nil))))))))) vd_nil))) (vss_cons (vs_asg (i := 6) sc_law_random_line.nd rfl (by first | exact .inl rfl | exact .inr rfl) (ve_ite (vt_cmp op_lt s_lt (ve_var 5) ve_int (nomark _)) (ve_callI (e_law_take T) (hr.mono (by omega)) hu (by rfl) (fun σ => passAt (takes_of rfl rfl rfl rfl) σ) rfl (ve_var 0) (vd_cons (ve_bin op_addU s_add (ve_var 2) ve_int) vd_nil)) (ve_callI (e_law_take T) (hr.mono (by omega)) hu (by rfl) (fun σ => passAt (takes_of rfl rfl rfl rfl) σ) rfl (ve_var 0) (vd_cons (ve_bin op_addU s_add (ve_blt (call_min2 rfl) s_min2 (by rfl) T.z_min bb_min (va_cons (ve_var 2) (va_cons ve_int va_nil))) ve_int) vd_nil)))) (vss_one (vs_expr (ve_mut PySem.F.slot_list_append PySem.F.type_list_append mt_append m_app rfl (ve_var 4) (vd_cons (ve_bin op_mulU s_mul (ve_var 5) (ve_call (e_law_two_to T) (hr.mono (by omega)) hu (by rfl) (fun σ => passAt (takes_of rfl rfl rfl rfl) σ) rfl (vd_cons (ve_var 6) vd_nil))) vd_nil))))))) (vss_one (vs_ret (ve_bty call_tuple_of s_tup (by rfl) T.z_tuple bb_tuple (va_cons (ve_var 4) va_nil))))))
theorem e_law_random_line (T : Txt K mg) : Defn P W K mg base 63 "_law_random_line" 3 (spI K XR 3 m_law_random_line) := T.d_law_random_line.to rfl (g_law_random_line T)
end G
set_option Elab.async false
set_option linter.all false
set_option maxRecDepth 100000
set_option maxHeartbeats 8000000
namespace G
open PySem PySem.Spec PyProof.Rows L2 VI
variable {P : Program} {W : World} {K : PySem.W.Frag} {mg : Str → Option Value} {base : Heap} {XR : Hp → Hp → Xc → Value → Option Addr → Prop}
theorem sc_law_moves : FnScope ["_law_line", "_law_found", "_law_at", "_law_pile"] ["_law_line"] (defScope st_law_moves) := ⟨rfl, rfl, rfl, by decide +kernel, rfl, by decide +kernel, by decide +kernel⟩
theorem g_law_moves (T : Txt K mg) (f : Addr) (fd : FuncData) (F : Fun K "_law_moves" "_law_moves" st_law_moves f fd) : FnG P W K mg base 1 f fd ["_law_line"] (spF K XR 1 m_law_moves) := by
  have hh := @def_ok K P W mg base XR _ _ _ f fd _ _ 0 b_law_moves F sc_law_moves
  refine hh fun cdv A outer s H E hr hu => ?_
  exact (vss_cons (vs_asg (i := 1) sc_law_moves.nd rfl (by first | exact .inl rfl | exact .inr rfl) (ve_lst vd_nil)) (vss_cons (vs_for (passes_of rfl) rfl (vi_enum rfl (by rfl) T.z_enumerate (ve_var 0)) (vg_tup rfl (vgs_cons (vg_name (i := 2) sc_law_moves.nd rfl (by first | exact .inl rfl | exact .inr rfl)) (vgs_cons (vg_name (i := 3) sc_law_moves.nd rfl (by first | exact .inl rfl | exact .inr rfl)) vgs_nil))) (vss_cons (vs_if (vt_cmp (op_eqU hr.units) s_eq (ve_slice rfl (ve_var 0) (vo_some (ve_bin op_addU s_add (ve_var 2) ve_int)) (vo_some (ve_bin op_addU s_add (ve_var 2) ve_int))) (ve_tup (vd_cons (ve_var 3) vd_nil)) (nomark _)) (vss_one (vs_expr (ve_mut PySem.F.slot_list_append PySem.F.type_list_append mt_append m_app rfl (ve_var 1) (vd_cons (ve_tup (vd_cons (ve_tup (vd_cons ve_str (vd_cons (ve_var 2) vd_nil))) (vd_cons (ve_bin op_addU s_add (ve_bin op_addU s_add (ve_slice rfl (ve_var 0) vo_none (vo_some (ve_var 2))) (ve_tup (vd_cons (ve_bin op_mulU s_mul ve_int (ve_var 3)) vd_nil))) (ve_slice rfl (ve_var 0) (vo_some (ve_bin op_addU s_add (ve_var 2) ve_int)) vo_none)) vd_nil))) vd_nil)))) vss_nil) (vss_one (vs_if (vt_cmp (op_eqU hr.units) s_eq (ve_bin op_mod s_mod (ve_var 3) ve_int) ve_int (nomark _)) (vss_one (vs_expr (ve_mut PySem.F.slot_list_append PySem.F.type_list_append mt_append m_app rfl (ve_var 1) (vd_cons (ve_tup (vd_cons (ve_tup (vd_cons ve_str (vd_cons (ve_var 2) vd_nil))) (vd_cons (ve_bin op_addU s_add (ve_bin op_addU s_add (ve_slice rfl (ve_var 0) vo_none (vo_some (ve_var 2))) (ve_tup (vd_cons (ve_bin op_fdivW s_div (ve_var 3) ve_int) (vd_cons (ve_bin op_fdivW s_div (ve_var 3) ve_int) vd_nil)))) (ve_slice rfl (ve_var 0) (vo_some (ve_bin op_addU s_add (ve_var 2) ve_int)) vo_none)) vd_nil))) vd_nil)))) vss_nil)))) (vss_one (vs_ret (ve_var 1)))))
theorem e_law_moves (T : Txt K mg) : Defn P W K mg base 1 "_law_moves" 1 (spF K XR 1 m_law_moves) := T.d_law_moves.to rfl (g_law_moves T)
end G
set_option Elab.async false
set_option linter.all false
set_option maxRecDepth 100000
set_option maxHeartbeats 8000000
namespace G
open PySem PySem.Spec PyProof.Rows L2 VI
variable {P : Program} {W : World} {K : PySem.W.Frag} {mg : Str → Option Value} {base : Heap} {XR : Hp → Hp → Xc → Value → Option Addr → Prop}
theorem sc_joins : FnScope ["row", "place"] ["row"] (defScope st_joins) := ⟨rfl, rfl, rfl, by decide +kernel, rfl, by decide +kernel, by decide +kernel⟩
theorem g_joins (T : Txt K mg) (f : Addr) (fd : FuncData) (F : Fun K "joins" "joins" st_joins f fd) : FnG P W K mg base 1 f fd ["row"] (spF K XR 1 m_joins) := by
  have hh := @def_ok K P W mg base XR _ _ _ f fd _ _ 0 b_joins F sc_joins
  refine hh fun cdv A outer s H E hr hu => ?_
  exact (vss_one (vs_ret (ve_lc (own := [("place", 1)]) rfl sc_joins.nd (vi_rng1 (by rfl) T.z_range (ve_bin op_sub s_sub (ve_blt c_len s_len (by rfl) T.z_len bb_len (va_cons (ve_var 0) va_nil)) ve_int)) (blkOk_by (own := [("place", 1)]) (N := ["row", "place"]) (sc := defScope st_joins) (by decide +kernel)) (fun _ _ _ _ _ => (vg_name (i := 1) sc_joins.nd rfl (by first | exact .inl rfl | exact .inr rfl))) (fun _ _ _ _ _ => (vts_one (vt_cmp (op_eqU hr.units) s_eq (ve_ix ix_seq s_ix (ve_var 0) (ve_var 1) (fun _ _ => rfl)) (ve_ix ix_seq s_ix (ve_var 0) (ve_bin op_addU s_add (ve_var 1) ve_int) (fun _ _ => rfl)) (nomark _)))) (fun _ _ _ _ _ => (ve_var 1)))))
theorem e_joins (T : Txt K mg) : Defn P W K mg base 1 "joins" 1 (spF K XR 1 m_joins) := T.d_joins.to rfl (g_joins T)
theorem e_joins_kw_row (T : Txt K mg) : DefnK P W K mg base 1 "joins" ["row"] [0] (spF K XR 1 m_joins) := T.d_joins_kw_row.to (g_joins T)
end G
set_option Elab.async false
set_option linter.all false
set_option maxRecDepth 100000
set_option maxHeartbeats 8000000
namespace G
open PySem PySem.Spec PyProof.Rows L2 VI
variable {P : Program} {W : World} {K : PySem.W.Frag} {mg : Str → Option Value} {base : Heap} {XR : Hp → Hp → Xc → Value → Option Addr → Prop}
theorem sc_splits : FnScope ["row", "place", "size"] ["row"] (defScope st_splits) := ⟨rfl, rfl, rfl, by decide +kernel, rfl, by decide +kernel, by decide +kernel⟩
theorem g_splits (T : Txt K mg) (f : Addr) (fd : FuncData) (F : Fun K "splits" "splits" st_splits f fd) : FnG P W K mg base 1 f fd ["row"] (spF K XR 1 m_splits) := by
  have hh := @def_ok K P W mg base XR _ _ _ f fd _ _ 0 b_splits F sc_splits
  refine hh fun cdv A outer s H E hr hu => ?_
  exact (vss_one (vs_ret (ve_lc (own := [("place", 1), ("size", 2)]) rfl sc_splits.nd (vi_enum rfl (by rfl) T.z_enumerate (ve_var 0)) (blkOk_by (own := [("place", 1), ("size", 2)]) (N := ["row", "place", "size"]) (sc := defScope st_splits) (by decide +kernel)) (fun _ _ _ _ _ => (vg_tup rfl (vgs_cons (vg_name (i := 1) sc_splits.nd rfl (by first | exact .inl rfl | exact .inr rfl)) (vgs_cons (vg_name (i := 2) sc_splits.nd rfl (by first | exact .inl rfl | exact .inr rfl)) vgs_nil)))) (fun _ _ _ _ _ => (vts_one (vt_cmp (op_eqU hr.units) s_eq (ve_bin op_mod s_mod (ve_var 2) ve_int) ve_int (nomark _)))) (fun _ _ _ _ _ => (ve_var 1)))))
theorem e_splits (T : Txt K mg) : Defn P W K mg base 1 "splits" 1 (spF K XR 1 m_splits) := T.d_splits.to rfl (g_splits T)
theorem e_splits_kw_row (T : Txt K mg) : DefnK P W K mg base 1 "splits" ["row"] [0] (spF K XR 1 m_splits) := T.d_splits_kw_row.to (g_splits T)
end G
set_option Elab.async false
set_option linter.all false
set_option maxRecDepth 100000
set_option maxHeartbeats 8000000
namespace G
open PySem PySem.Spec PyProof.Rows L2 VI
variable {P : Program} {W : World} {K : PySem.W.Frag} {mg : Str → Option Value} {base : Heap} {XR : Hp → Hp → Xc → Value → Option Addr → Prop}
theorem sc_law_same : FnScope ["_law_found", "_law_due", "_law_mine", "_law_its"] ["_law_found", "_law_due"] (defScope st_law_same) := ⟨rfl, rfl, rfl, by decide +kernel, rfl, by decide +kernel, by decide +kernel⟩
theorem k_law_same (T : Txt K mg) : ∀ d : Nat, Defn P W K mg base (0 + d) "_law_same" 2 (spF K XR 2 (r_law_same d))
  | 0 => T.d_law_same.no rfl
  | d + 1 => T.d_law_same.to rfl fun f fd F => by
    have hh := @def_ok K P W mg base XR _ _ _ f fd _ _ (0 + d) (b_law_same (r_law_same d)) F sc_law_same
    refine hh fun cdv A outer s H E hr hu => ?_
    have self_law_same := k_law_same T d
    exact (vss_cons (vs_if (vt_val (ve_isiT kindLst kindTup rfl (by rfl) T.z_isinstance (by rfl) T.z_list bb_list (by rfl) T.z_tuple bb_tuple (ve_var 1))) (vss_cons (vs_if (vt_bool (vw_or (vt_cmp (op_neU hr.units) s_ne (ve_isi kindLst rfl (by rfl) T.z_isinstance (by rfl) T.z_list bb_list (ve_var 0)) (ve_isi kindLst rfl (by rfl) T.z_isinstance (by rfl) T.z_list bb_list (ve_var 1)) (nomark _)) (vw_or1 (vt_cmp (op_neU hr.units) s_ne (ve_isi kindTup rfl (by rfl) T.z_isinstance (by rfl) T.z_tuple bb_tuple (ve_var 0)) (ve_isi kindTup rfl (by rfl) T.z_isinstance (by rfl) T.z_tuple bb_tuple (ve_var 1)) (nomark _))))) (vss_one (vs_ret ve_bl)) vss_nil) (vss_one (vs_ret (ve_and (ve_cmp (op_eqU hr.units) s_eq (ve_blt c_len s_len (by rfl) T.z_len bb_len (va_cons (ve_var 0) va_nil)) (ve_blt c_len s_len (by rfl) T.z_len bb_len (va_cons (ve_var 1) va_nil)) (nomark _)) (ve_one (ve_blt (cr_all rfl) s_all (by rfl) T.z_all bb_all (va_cons (ve_lc (own := [("_law_mine", 2), ("_law_its", 3)]) rfl sc_law_same.nd (vi_zip rfl (by rfl) T.z_zip (ve_var 0) (ve_var 1)) (blkOk_by (own := [("_law_mine", 2), ("_law_its", 3)]) (N := ["_law_found", "_law_due", "_law_mine", "_law_its"]) (sc := defScope st_law_same) (by decide +kernel)) (fun _ _ _ _ _ => (vg_tup rfl (vgs_cons (vg_name (i := 2) sc_law_same.nd rfl (by first | exact .inl rfl | exact .inr rfl)) (vgs_cons (vg_name (i := 3) sc_law_same.nd rfl (by first | exact .inl rfl | exact .inr rfl)) vgs_nil)))) (fun _ _ _ _ _ => vts_nil) (fun _ _ _ _ _ => (ve_call self_law_same (hr.mono (by omega)) hu (by rfl) (fun σ => passF σ) rfl (vd_cons (ve_var 2) (vd_cons (ve_var 3) vd_nil))))) va_nil))))))) vss_nil) (vss_cons (vs_if (vt_bool (vw_or (vt_cmp op_isN s_isN (ve_var 1) ve_non (nomark _)) (vw_or1 (vt_val (ve_isiT kindStr kindBool rfl (by rfl) T.z_isinstance (by rfl) T.z_str bb_str (by rfl) T.z_bool bb_bool (ve_var 1)))))) (vss_one (vs_ret (ve_and (ve_cmp (op_eqU hr.units) s_eq (ve_var 0) (ve_var 1) (nomark _)) (ve_and (ve_cmp (op_eqU hr.units) s_eq (ve_isi kindBool rfl (by rfl) T.z_isinstance (by rfl) T.z_bool bb_bool (ve_var 0)) (ve_isi kindBool rfl (by rfl) T.z_isinstance (by rfl) T.z_bool bb_bool (ve_var 1)) (nomark _)) (ve_one (ve_cmp (op_eqU hr.units) s_eq (ve_cmp op_isN s_isN (ve_var 0) ve_non (nomark _)) (ve_cmp op_isN s_isN (ve_var 1) ve_non (nomark _)) (nomark _))))))) vss_nil) (vss_one (vs_ret (ve_and (ve_isi kindInt rfl (by rfl) T.z_isinstance (by rfl) T.z_int bb_int (ve_var 0)) (ve_and (ve_not (ve_isi kindBool rfl (by rfl) T.z_isinstance (by rfl) T.z_bool bb_bool (ve_var 0))) (ve_one (ve_cmp (op_eqU hr.units) s_eq (ve_var 0) (ve_var 1) (nomark _)))))))))
theorem e_law_same (T : Txt K mg) : Defn P W K mg base 60 "_law_same" 2 (spF K XR 2 m_law_same) := k_law_same T 60
end G
set_option Elab.async false
set_option linter.all false
set_option maxRecDepth 100000
set_option maxHeartbeats 8000000
namespace G
open PySem PySem.Spec PyProof.Rows L2 VI
variable {P : Program} {W : World} {K : PySem.W.Frag} {mg : Str → Option Value} {base : Heap} {XR : Hp → Hp → Xc → Value → Option Addr → Prop}
theorem sc_joined : FnScope ["row", "place"] ["row", "place"] (defScope st_joined) := ⟨rfl, rfl, rfl, by decide +kernel, rfl, by decide +kernel, by decide +kernel⟩
theorem g_joined (T : Txt K mg) (f : Addr) (fd : FuncData) (F : Fun K "joined" "joined" st_joined f fd) : FnG P W K mg base 4 f fd ["row", "place"] (spF K XR 2 m_joined) := by
  have hh := @def_ok K P W mg base XR _ _ _ f fd _ _ 3 b_joined F sc_joined
  refine hh fun cdv A outer s H E hr hu => ?_
  exact (vss_cons (vs_if (vt_not (vt_chain op_le op_lt s_le s_lt ve_int (ve_var 1) (ve_bin op_sub s_sub (ve_blt c_len s_len (by rfl) T.z_len bb_len (va_cons (ve_var 0) va_nil)) ve_int))) (vss_one vs_no) vss_nil) (vss_cons (vs_if (vt_cmp (op_neU hr.units) s_ne (ve_ix ix_seq s_ix (ve_var 0) (ve_var 1) (fun _ _ => rfl)) (ve_ix ix_seq s_ix (ve_var 0) (ve_bin op_addU s_add (ve_var 1) ve_int) (fun _ _ => rfl)) (nomark _)) (vss_one vs_no) vss_nil) (vss_one (vs_ret (ve_bin op_addU s_add (ve_bin op_addU s_add (ve_bty call_tuple_of s_tup (by rfl) T.z_tuple bb_tuple (va_cons (ve_slice rfl (ve_var 0) vo_none (vo_some (ve_var 1))) va_nil)) (ve_tup (vd_cons (ve_bin op_mulU s_mul ve_int (ve_ix ix_seq s_ix (ve_var 0) (ve_var 1) (fun _ _ => rfl))) vd_nil))) (ve_bty call_tuple_of s_tup (by rfl) T.z_tuple bb_tuple (va_cons (ve_slice rfl (ve_var 0) (vo_some (ve_bin op_addU s_add (ve_var 1) ve_int)) vo_none) va_nil)))))))
theorem e_joined (T : Txt K mg) : Defn P W K mg base 4 "joined" 2 (spF K XR 2 m_joined) := T.d_joined.to rfl (g_joined T)
theorem e_joined_kw_place_row (T : Txt K mg) : DefnK P W K mg base 4 "joined" ["place", "row"] [1, 0] (spF K XR 2 m_joined) := T.d_joined_kw_place_row.to (g_joined T)
end G
set_option Elab.async false
set_option linter.all false
set_option maxRecDepth 100000
set_option maxHeartbeats 8000000
namespace G
open PySem PySem.Spec PyProof.Rows L2 VI
variable {P : Program} {W : World} {K : PySem.W.Frag} {mg : Str → Option Value} {base : Heap} {XR : Hp → Hp → Xc → Value → Option Addr → Prop}
theorem sc_halved : FnScope ["row", "place"] ["row", "place"] (defScope st_halved) := ⟨rfl, rfl, rfl, by decide +kernel, rfl, by decide +kernel, by decide +kernel⟩
theorem g_halved (T : Txt K mg) (f : Addr) (fd : FuncData) (F : Fun K "halved" "halved" st_halved f fd) : FnG P W K mg base 4 f fd ["row", "place"] (spF K XR 2 m_halved) := by
  have hh := @def_ok K P W mg base XR _ _ _ f fd _ _ 3 b_halved F sc_halved
  refine hh fun cdv A outer s H E hr hu => ?_
  exact (vss_cons (vs_if (vt_not (vt_chain op_le op_lt s_le s_lt ve_int (ve_var 1) (ve_blt c_len s_len (by rfl) T.z_len bb_len (va_cons (ve_var 0) va_nil)))) (vss_one vs_no) vss_nil) (vss_cons (vs_if (vt_cmp (op_eqU hr.units) s_eq (ve_bin op_mod s_mod (ve_ix ix_seq s_ix (ve_var 0) (ve_var 1) (fun _ _ => rfl)) ve_int) ve_int (nomark _)) (vss_one vs_no) vss_nil) (vss_one (vs_ret (ve_bin op_addU s_add (ve_bin op_addU s_add (ve_bty call_tuple_of s_tup (by rfl) T.z_tuple bb_tuple (va_cons (ve_slice rfl (ve_var 0) vo_none (vo_some (ve_var 1))) va_nil)) (ve_bin op_mulU s_mul (ve_tup (vd_cons (ve_bin op_fdivW s_div (ve_ix ix_seq s_ix (ve_var 0) (ve_var 1) (fun _ _ => rfl)) ve_int) vd_nil)) ve_int)) (ve_bty call_tuple_of s_tup (by rfl) T.z_tuple bb_tuple (va_cons (ve_slice rfl (ve_var 0) (vo_some (ve_bin op_addU s_add (ve_var 1) ve_int)) vo_none) va_nil)))))))
theorem e_halved (T : Txt K mg) : Defn P W K mg base 4 "halved" 2 (spF K XR 2 m_halved) := T.d_halved.to rfl (g_halved T)
theorem e_halved_kw_place_row (T : Txt K mg) : DefnK P W K mg base 4 "halved" ["place", "row"] [1, 0] (spF K XR 2 m_halved) := T.d_halved_kw_place_row.to (g_halved T)
end G
set_option Elab.async false
set_option linter.all false
set_option maxRecDepth 100000
set_option maxHeartbeats 8000000
namespace G
open PySem PySem.Spec PyProof.Rows L2 VI
variable {P : Program} {W : World} {K : PySem.W.Frag} {mg : Str → Option Value} {base : Heap} {XR : Hp → Hp → Xc → Value → Option Addr → Prop}
theorem sc_law_right_v35 : FnScope ["_law_box_here", "_law_line", "_law_ready", "_law_heard", "_law_kept", "_law_soft", "_law_moves_here", "_law_deed", "_law_there", "_law_word", "_law_told"] ["_law_box_here"] (defScope st_law_right_v35) := ⟨rfl, rfl, rfl, by decide +kernel, rfl, by decide +kernel, by decide +kernel⟩
theorem g_law_right_v35 (T : Txt K mg) (f : Addr) (fd : FuncData) (F : Fun K "_law_right" "_law_right" st_law_right_v35 f fd) : FnG P W K mg base 64 f fd ["_law_box_here"] (spI K XR 1 m_law_right_v35) := by
  have hh := @def_okI K P W mg base XR _ _ _ f fd _ _ 63 b_law_right_v35 F sc_law_right_v35
  refine hh fun cdv A outer s H E hr hu => ?_
  exact (vss_cons (vs_asg (i := 1) sc_law_right_v35.nd rfl (by first | exact .inl rfl | exact .inr rfl) (ve_callI (e_law_random_line T) (hr.mono (by omega)) hu (by rfl) (fun σ => passAt (takes_of rfl rfl rfl rfl) σ) rfl (ve_var 0) (vd_cons ve_int (vd_cons (ve_callI (e_law_of T) (hr.mono (by omega)) hu (by rfl) (fun σ => passAt (takes_of rfl rfl rfl rfl) σ) rfl (ve_var 0) (vd_cons (ve_lst (vd_cons ve_int (vd_cons ve_int (vd_cons ve_int vd_nil)))) vd_nil)) vd_nil)))) (vss_cons (vs_if (vt_bool (vw_and (vt_cmp (op_eqU hr.units) s_eq (ve_callI (e_law_take T) (hr.mono (by omega)) hu (by rfl) (fun σ => passAt (takes_of rfl rfl rfl rfl) σ) rfl (ve_var 0) (vd_cons ve_int vd_nil)) ve_int (nomark _)) (vw_and1 (vt_cmp (op_neU hr.units) s_ne (ve_var 1) (ve_tup vd_nil) (nomark _))))) (vss_one (vs_asg (i := 1) sc_law_right_v35.nd rfl (by first | exact .inl rfl | exact .inr rfl) (ve_slice rfl (ve_bin op_addU s_add (ve_var 1) (ve_bin op_mulU s_mul (ve_slice rfl (ve_var 1) (vo_some (ve_un un_neg s_neg ve_int)) vo_none) (ve_callI (e_law_take T) (hr.mono (by omega)) hu (by rfl) (fun σ => passAt (takes_of rfl rfl rfl rfl) σ) rfl (ve_var 0) (vd_cons ve_int vd_nil)))) vo_none (vo_some ve_int)))) vss_nil) (vss_cons (vs_parT rfl rfl (vm_cons (ve_blt (c_repr hu hr.units) s_repr (by rfl) T.z_repr bb_repr (va_cons (ve_var 1) va_nil)) (vm_cons (ve_bty call_list_of s_lst (by rfl) T.z_list bb_list (va_cons (ve_var 1) va_nil)) (vm_cons (ve_call (e_law_moves T) (hr.mono (by omega)) hu (by rfl) (fun σ => passAt (takes_of rfl rfl rfl rfl) σ) rfl (vd_cons (ve_var 1) vd_nil)) vm_nil))) (pgs_cons (pg_name (i := 4) sc_law_right_v35.nd rfl (by first | exact .inl rfl | exact .inr rfl)) (pgs_cons (pg_name (i := 5) sc_law_right_v35.nd rfl (by first | exact .inl rfl | exact .inr rfl)) (pgs_cons (pg_name (i := 6) sc_law_right_v35.nd rfl (by first | exact .inl rfl | exact .inr rfl)) pgs_nil)))) (vss_cons (vs_asgLc (i := 2) (own := [("_law_word", 9)]) rfl sc_law_right_v35.nd rfl rfl (sw_true rfl rfl rfl (by decide +kernel)) (vi_src (ve_tup (vd_cons ve_str (vd_cons ve_str vd_nil)))) (blkOk_by (own := [("_law_word", 9)]) (N := ["_law_box_here", "_law_line", "_law_ready", "_law_heard", "_law_kept", "_law_soft", "_law_moves_here", "_law_deed", "_law_there", "_law_word", "_law_told"]) (sc := defScope st_law_right_v35) (by decide +kernel)) (fun _ _ _ _ _ => (vg_name (i := 9) sc_law_right_v35.nd rfl (by first | exact .inl rfl | exact .inr rfl))) (fun _ _ _ _ _ => vts_nil) (fun _ _ _ _ _ => (ve_lc (own := [("_law_deed", 7), ("_law_there", 8)]) rfl sc_law_right_v35.nd (vi_src (ve_var 6)) (blkOk_in (own := [("_law_deed", 7), ("_law_there", 8)]) (N := ["_law_box_here", "_law_line", "_law_ready", "_law_heard", "_law_kept", "_law_soft", "_law_moves_here", "_law_deed", "_law_there", "_law_word", "_law_told"]) (sc := defScope st_law_right_v35) rfl (by decide +kernel)) (fun _ _ _ _ _ => (vg_tup rfl (vgs_cons (vg_name (i := 7) sc_law_right_v35.nd rfl (by first | exact .inl rfl | exact .inr rfl)) (vgs_cons (vg_name (i := 8) sc_law_right_v35.nd rfl (by first | exact .inl rfl | exact .inr rfl)) vgs_nil)))) (fun _ _ _ _ _ => (vts_one (vt_cmp (op_eqU hr.units) s_eq (ve_ix ix_seq s_ix (ve_var 7) ve_int (fun _ _ => rfl)) (ve_var 9) (nomark _)))) (fun _ _ _ _ _ => (ve_ix ix_seq s_ix (ve_var 7) ve_int (fun _ _ => rfl)))))) (vss_cons (vs_asgN (i := 3) sc_law_right_v35.nd rfl (by first | exact .inl rfl | exact .inr rfl) (vn_lst (vns_cons (vn_ev (ve_call (e_joins T) (hr.mono (by omega)) hu (by rfl) (fun σ => passAt (takes_of rfl rfl rfl rfl) σ) rfl (vd_cons (ve_var 1) vd_nil))) (vns_cons (vn_ev (ve_call (e_splits T) (hr.mono (by omega)) hu (by rfl) (fun σ => passAt (takes_of rfl rfl rfl rfl) σ) rfl (vd_cons (ve_var 1) vd_nil))) vns_nil)))) (vss_cons (vs_if (vt_bool (vw_or (vt_not (vt_lent (vt_val (ve_call (e_law_same T) (hr.mono (by omega)) hu (by rfl) (fun σ => passAt (takes_of rfl rfl rfl rfl) σ) rfl (vd_cons (ve_var 3) (vd_cons (ve_var 2) vd_nil)))))) (vw_or1 (vt_not (vt_val (ve_call (e_law_same T) (hr.mono (by omega)) hu (by rfl) (fun σ => passAt (takes_of rfl rfl rfl rfl) σ) rfl (vd_cons (ve_lst (vd_cons (ve_callK (e_joins_kw_row T) (hr.mono (by omega)) hu (by rfl) (fun σ => passAt (takes_of rfl rfl rfl rfl) σ) rfl (fun ds h => match ds, h with | [_], _ => rfl) (vk_cons (ve_var 5) vk_nil)) (vd_cons (ve_callK (e_splits_kw_row T) (hr.mono (by omega)) hu (by rfl) (fun σ => passAt (takes_of rfl rfl rfl rfl) σ) rfl (fun ds h => match ds, h with | [_], _ => rfl) (vk_cons (ve_var 5) vk_nil)) vd_nil))) (vd_cons (ve_var 2) vd_nil)))))))) (vss_one (vs_ret ve_bl)) vss_nil) (vss_cons (vs_expr (ve_mutAt PySem.F.slot_list_append PySem.F.type_list_append mt_append m_app rfl (ve_var 3) ve_int (fun _ _ => rfl) pc_str cst_str)) (vss_cons (vs_expr (ve_mutAt0 PySem.F.slot_list_reverse PySem.F.type_list_reverse mt_reverse m_rev rfl (ve_var 3) ve_int (fun _ _ => rfl))) (vss_cons (vs_if (vt_not (vt_val (ve_call (e_law_same T) (hr.mono (by omega)) hu (by rfl) (fun σ => passAt (takes_of rfl rfl rfl rfl) σ) rfl (vd_cons (ve_lst (vd_cons (ve_call (e_joins T) (hr.mono (by omega)) hu (by rfl) (fun σ => passAt (takes_of rfl rfl rfl rfl) σ) rfl (vd_cons (ve_var 1) vd_nil)) (vd_cons (ve_call (e_splits T) (hr.mono (by omega)) hu (by rfl) (fun σ => passAt (takes_of rfl rfl rfl rfl) σ) rfl (vd_cons (ve_var 1) vd_nil)) vd_nil))) (vd_cons (ve_var 2) vd_nil))))) (vss_one (vs_ret ve_bl)) vss_nil) (vss_cons (vs_for (passes_of rfl) rfl (vi_src (ve_var 6)) (vg_tup rfl (vgs_cons (vg_name (i := 7) sc_law_right_v35.nd rfl (by first | exact .inl rfl | exact .inr rfl)) (vgs_cons (vg_name (i := 8) sc_law_right_v35.nd rfl (by first | exact .inl rfl | exact .inr rfl)) vgs_nil))) (vss_cons (vs_if (vt_cmp (op_eqU hr.units) s_eq (ve_ix ix_seq s_ix (ve_var 7) ve_int (fun _ _ => rfl)) ve_str (nomark _)) (vss_one (vs_asg (i := 10) sc_law_right_v35.nd rfl (by first | exact .inl rfl | exact .inr rfl) (ve_lst (vd_cons (ve_call (e_joined T) (hr.mono (by omega)) hu (by rfl) (fun σ => passAt (takes_of rfl rfl rfl rfl) σ) rfl (vd_cons (ve_var 1) (vd_cons (ve_ix ix_seq s_ix (ve_var 7) ve_int (fun _ _ => rfl)) vd_nil))) (vd_cons (ve_callK (e_joined_kw_place_row T) (hr.mono (by omega)) hu (by rfl) (fun σ => passAt (takes_of rfl rfl rfl rfl) σ) rfl (fun ds h => match ds, h with | [_, _], _ => rfl) (vk_cons (ve_ix ix_seq s_ix (ve_var 7) ve_int (fun _ _ => rfl)) (vk_cons (ve_var 5) vk_nil))) vd_nil))))) (vss_one (vs_asg (i := 10) sc_law_right_v35.nd rfl (by first | exact .inl rfl | exact .inr rfl) (ve_lst (vd_cons (ve_call (e_halved T) (hr.mono (by omega)) hu (by rfl) (fun σ => passAt (takes_of rfl rfl rfl rfl) σ) rfl (vd_cons (ve_var 1) (vd_cons (ve_ix ix_seq s_ix (ve_var 7) ve_int (fun _ _ => rfl)) vd_nil))) (vd_cons (ve_callK (e_halved_kw_place_row T) (hr.mono (by omega)) hu (by rfl) (fun σ => passAt (takes_of rfl rfl rfl rfl) σ) rfl (fun ds h => match ds, h with | [_, _], _ => rfl) (vk_cons (ve_ix ix_seq s_ix (ve_var 7) ve_int (fun _ _ => rfl)) (vk_cons (ve_var 5) vk_nil))) vd_nil)))))) (vss_one (vs_if (vt_not (vt_val (ve_call (e_law_same T) (hr.mono (by omega)) hu (by rfl) (fun σ => passAt (takes_of rfl rfl rfl rfl) σ) rfl (vd_cons (ve_var 10) (vd_cons (ve_lst (vd_cons (ve_var 8) (vd_cons (ve_var 8) vd_nil))) vd_nil))))) (vss_one (vs_ret ve_bl)) vss_nil)))) (vss_one (vs_ret (ve_and (ve_cmp (op_eqU hr.units) s_eq (ve_blt (c_repr hu hr.units) s_repr (by rfl) T.z_repr bb_repr (va_cons (ve_var 1) va_nil)) (ve_var 4) (nomark _)) (ve_one (ve_cmp (op_eqU hr.units) s_eq (ve_bty call_tuple_of s_tup (by rfl) T.z_tuple bb_tuple (va_cons (ve_var 5) va_nil)) (ve_var 1) (nomark _))))))))))))))))
theorem e_law_right_v35 (T : Txt K mg) : Defn P W K mg base 64 "_law_right" 1 (spI K XR 1 m_law_right_v35) := T.d_law_right_v35.to rfl (g_law_right_v35 T)
end G
set_option Elab.async false
set_option linter.all false
set_option maxRecDepth 100000
set_option maxHeartbeats 8000000
namespace G
open PySem PySem.Spec PyProof.Rows L2 VI
variable {P : Program} {W : World} {K : PySem.W.Frag} {mg : Str → Option Value} {base : Heap} {XR : Hp → Hp → Xc → Value → Option Addr → Prop}
theorem sc_law_v36 : FnScope ["_law_script", "_law_cells_here", "_law_k", "_law_box_here", "_law_turn"] ["_law_script"] (defScope st_law_v36) := ⟨rfl, rfl, rfl, by decide +kernel, rfl, by decide +kernel, by decide +kernel⟩
theorem g_law_v36 (T : Txt K mg) (f : Addr) (fd : FuncData) (F : Fun K "law" "law" st_law_v36 f fd) : FnG P W K mg base 65 f fd ["_law_script"] (spF K XR 1 m_law_v36) := by
  have hh := @def_ok K P W mg base XR _ _ _ f fd _ _ 64 b_law_v36 F sc_law_v36
  refine hh fun cdv A outer s H E hr hu => ?_
  exact (vss_cons (vs_asg (i := 1) sc_law_v36.nd rfl (by first | exact .inl rfl | exact .inr rfl) (ve_call (e_law_cells T) (hr.mono (by omega)) hu (by rfl) (fun σ => passAt (takes_of rfl rfl rfl rfl) σ) rfl (vd_cons (ve_var 0) (vd_cons ve_int vd_nil)))) (vss_cons (vs_for (passes_of rfl) rfl (vi_rng1 (by rfl) T.z_range (ve_blt c_len s_len (by rfl) T.z_len bb_len (va_cons (ve_var 1) va_nil))) (vg_name (i := 2) sc_law_v36.nd rfl (by first | exact .inl rfl | exact .inr rfl)) (vss_cons (vs_asg (i := 3) sc_law_v36.nd rfl (by first | exact .inl rfl | exact .inr rfl) (ve_call (e_law_box T) (hr.mono (by omega)) hu (by rfl) (fun σ => passAt (takes_of rfl rfl rfl rfl) σ) rfl (vd_cons (ve_var 1) (vd_cons (ve_var 2) vd_nil)))) (vss_one (vs_if (vt_not (vt_val (ve_blt (cr_all rfl) s_all (by rfl) T.z_all bb_all (va_cons (ve_lc (own := [("_law_turn", 4)]) rfl sc_law_v36.nd (vi_rng1 (by rfl) T.z_range ve_int) (blkOk_by (own := [("_law_turn", 4)]) (N := ["_law_script", "_law_cells_here", "_law_k", "_law_box_here", "_law_turn"]) (sc := defScope st_law_v36) (by decide +kernel)) (fun _ _ _ _ _ => (vg_name (i := 4) sc_law_v36.nd rfl (by first | exact .inl rfl | exact .inr rfl))) (fun _ _ _ _ _ => vts_nil) (fun _ _ _ _ _ => (ve_callI (e_law_right_v35 T) (hr.mono (by omega)) hu (by rfl) (fun σ => passF σ) rfl (ve_var 3) vd_nil))) va_nil)))) (vss_one (vs_ret ve_bl)) vss_nil)))) (vss_one (vs_ret ve_bl))))
theorem e_law_v36 (T : Txt K mg) : Defn P W K mg base 65 "law" 1 (spF K XR 1 m_law_v36) := T.d_law_v36.to rfl (g_law_v36 T)
end G
set_option Elab.async false
set_option linter.all false
set_option maxRecDepth 100000
set_option maxHeartbeats 8000000
namespace G
open PySem PySem.Spec PyProof.Rows L2 VI
theorem all_mk {K : PySem.W.Frag} {h : Heap} {mg : Str → Option Value} {fa : Addr} (X : K.In h) (G : h.Ns mainGlobals mg) (hfa : mg "law" = some (.ref fa))
    {f0 : Addr} {od0 an0 : Option Addr} {sl0 : Array (Option Value)} {oc0 kV0 dc0 pm0 cd0 ct0 : Value}
    {f1 : Addr} {od1 an1 : Option Addr} {sl1 : Array (Option Value)} {oc1 kV1 dc1 pm1 cd1 ct1 : Value}
    {f2 : Addr} {od2 an2 : Option Addr} {sl2 : Array (Option Value)} {oc2 kV2 dc2 pm2 cd2 ct2 : Value}
    {f3 : Addr} {od3 an3 : Option Addr} {sl3 : Array (Option Value)} {oc3 kV3 dc3 pm3 cd3 ct3 : Value}
    {f4 : Addr} {od4 an4 : Option Addr} {sl4 : Array (Option Value)} {oc4 kV4 dc4 pm4 cd4 ct4 : Value}
    {f5 : Addr} {od5 an5 : Option Addr} {sl5 : Array (Option Value)} {oc5 kV5 dc5 pm5 cd5 ct5 : Value}
    {f6 : Addr} {od6 an6 : Option Addr} {sl6 : Array (Option Value)} {oc6 kV6 dc6 pm6 cd6 ct6 : Value}
    {f7 : Addr} {od7 an7 : Option Addr} {sl7 : Array (Option Value)} {oc7 kV7 dc7 pm7 cd7 ct7 : Value}
    {f8 : Addr} {od8 an8 : Option Addr} {sl8 : Array (Option Value)} {oc8 kV8 dc8 pm8 cd8 ct8 : Value}
    {f9 : Addr} {od9 an9 : Option Addr} {sl9 : Array (Option Value)} {oc9 kV9 dc9 pm9 cd9 ct9 : Value}
    {f10 : Addr} {od10 an10 : Option Addr} {sl10 : Array (Option Value)} {oc10 kV10 dc10 pm10 cd10 ct10 : Value}
    {f11 : Addr} {od11 an11 : Option Addr} {sl11 : Array (Option Value)} {oc11 kV11 dc11 pm11 cd11 ct11 : Value}
    {f12 : Addr} {od12 an12 : Option Addr} {sl12 : Array (Option Value)} {oc12 kV12 dc12 pm12 cd12 ct12 : Value}
    {f13 : Addr} {od13 an13 : Option Addr} {sl13 : Array (Option Value)} {oc13 kV13 dc13 pm13 cd13 ct13 : Value}
    (a0 : PySem.W.nsIn K mainGlobals "_law_cells" = some (some (.ref f0)))
    (l0 : K.lookup f0 = some ⟨oc0, od0, .func (PySem.W.fnOf "_law_cells" "_law_cells" (defArgs st_law_cells) (defBody st_law_cells) (defScope st_law_cells) .none kV0 dc0 pm0 an0 cd0 ct0), sl0⟩)
    (c0 : PySem.W.codeIn K cd0 "_law_cells" = true)
    (k0 : PySem.W.keepIn K (.ref f0) = true)
    (a1 : PySem.W.nsIn K mainGlobals "_law_box" = some (some (.ref f1)))
    (l1 : K.lookup f1 = some ⟨oc1, od1, .func (PySem.W.fnOf "_law_box" "_law_box" (defArgs st_law_box) (defBody st_law_box) (defScope st_law_box) .none kV1 dc1 pm1 an1 cd1 ct1), sl1⟩)
    (c1 : PySem.W.codeIn K cd1 "_law_box" = true)
    (k1 : PySem.W.keepIn K (.ref f1) = true)
    (a2 : PySem.W.nsIn K mainGlobals "_law_take" = some (some (.ref f2)))
    (l2 : K.lookup f2 = some ⟨oc2, od2, .func (PySem.W.fnOf "_law_take" "_law_take" (defArgs st_law_take) (defBody st_law_take) (defScope st_law_take) .none kV2 dc2 pm2 an2 cd2 ct2), sl2⟩)
    (c2 : PySem.W.codeIn K cd2 "_law_take" = true)
    (k2 : PySem.W.keepIn K (.ref f2) = true)
    (a3 : PySem.W.nsIn K mainGlobals "_law_of" = some (some (.ref f3)))
    (l3 : K.lookup f3 = some ⟨oc3, od3, .func (PySem.W.fnOf "_law_of" "_law_of" (defArgs st_law_of) (defBody st_law_of) (defScope st_law_of) .none kV3 dc3 pm3 an3 cd3 ct3), sl3⟩)
    (c3 : PySem.W.codeIn K cd3 "_law_of" = true)
    (k3 : PySem.W.keepIn K (.ref f3) = true)
    (a4 : PySem.W.nsIn K mainGlobals "_law_two_to" = some (some (.ref f4)))
    (l4 : K.lookup f4 = some ⟨oc4, od4, .func (PySem.W.fnOf "_law_two_to" "_law_two_to" (defArgs st_law_two_to) (defBody st_law_two_to) (defScope st_law_two_to) .none kV4 dc4 pm4 an4 cd4 ct4), sl4⟩)
    (c4 : PySem.W.codeIn K cd4 "_law_two_to" = true)
    (k4 : PySem.W.keepIn K (.ref f4) = true)
    (a5 : PySem.W.nsIn K mainGlobals "_law_random_line" = some (some (.ref f5)))
    (l5 : K.lookup f5 = some ⟨oc5, od5, .func (PySem.W.fnOf "_law_random_line" "_law_random_line" (defArgs st_law_random_line) (defBody st_law_random_line) (defScope st_law_random_line) .none kV5 dc5 pm5 an5 cd5 ct5), sl5⟩)
    (c5 : PySem.W.codeIn K cd5 "_law_random_line" = true)
    (k5 : PySem.W.keepIn K (.ref f5) = true)
    (a6 : PySem.W.nsIn K mainGlobals "_law_moves" = some (some (.ref f6)))
    (l6 : K.lookup f6 = some ⟨oc6, od6, .func (PySem.W.fnOf "_law_moves" "_law_moves" (defArgs st_law_moves) (defBody st_law_moves) (defScope st_law_moves) .none kV6 dc6 pm6 an6 cd6 ct6), sl6⟩)
    (c6 : PySem.W.codeIn K cd6 "_law_moves" = true)
    (k6 : PySem.W.keepIn K (.ref f6) = true)
    (a7 : PySem.W.nsIn K mainGlobals "joins" = some (some (.ref f7)))
    (l7 : K.lookup f7 = some ⟨oc7, od7, .func (PySem.W.fnOf "joins" "joins" (defArgs st_joins) (defBody st_joins) (defScope st_joins) .none kV7 dc7 pm7 an7 cd7 ct7), sl7⟩)
    (c7 : PySem.W.codeIn K cd7 "joins" = true)
    (k7 : PySem.W.keepIn K (.ref f7) = true)
    (a8 : PySem.W.nsIn K mainGlobals "splits" = some (some (.ref f8)))
    (l8 : K.lookup f8 = some ⟨oc8, od8, .func (PySem.W.fnOf "splits" "splits" (defArgs st_splits) (defBody st_splits) (defScope st_splits) .none kV8 dc8 pm8 an8 cd8 ct8), sl8⟩)
    (c8 : PySem.W.codeIn K cd8 "splits" = true)
    (k8 : PySem.W.keepIn K (.ref f8) = true)
    (a9 : PySem.W.nsIn K mainGlobals "_law_same" = some (some (.ref f9)))
    (l9 : K.lookup f9 = some ⟨oc9, od9, .func (PySem.W.fnOf "_law_same" "_law_same" (defArgs st_law_same) (defBody st_law_same) (defScope st_law_same) .none kV9 dc9 pm9 an9 cd9 ct9), sl9⟩)
    (c9 : PySem.W.codeIn K cd9 "_law_same" = true)
    (k9 : PySem.W.keepIn K (.ref f9) = true)
    (a10 : PySem.W.nsIn K mainGlobals "joined" = some (some (.ref f10)))
    (l10 : K.lookup f10 = some ⟨oc10, od10, .func (PySem.W.fnOf "joined" "joined" (defArgs st_joined) (defBody st_joined) (defScope st_joined) .none kV10 dc10 pm10 an10 cd10 ct10), sl10⟩)
    (c10 : PySem.W.codeIn K cd10 "joined" = true)
    (k10 : PySem.W.keepIn K (.ref f10) = true)
    (a11 : PySem.W.nsIn K mainGlobals "halved" = some (some (.ref f11)))
    (l11 : K.lookup f11 = some ⟨oc11, od11, .func (PySem.W.fnOf "halved" "halved" (defArgs st_halved) (defBody st_halved) (defScope st_halved) .none kV11 dc11 pm11 an11 cd11 ct11), sl11⟩)
    (c11 : PySem.W.codeIn K cd11 "halved" = true)
    (k11 : PySem.W.keepIn K (.ref f11) = true)
    (a12 : PySem.W.nsIn K mainGlobals "_law_right" = some (some (.ref f12)))
    (l12 : K.lookup f12 = some ⟨oc12, od12, .func (PySem.W.fnOf "_law_right" "_law_right" (defArgs st_law_right_v35) (defBody st_law_right_v35) (defScope st_law_right_v35) .none kV12 dc12 pm12 an12 cd12 ct12), sl12⟩)
    (c12 : PySem.W.codeIn K cd12 "_law_right" = true)
    (k12 : PySem.W.keepIn K (.ref f12) = true)
    (a13 : PySem.W.nsIn K mainGlobals "law" = some (some (.ref f13)))
    (l13 : K.lookup f13 = some ⟨oc13, od13, .func (PySem.W.fnOf "law" "law" (defArgs st_law_v36) (defBody st_law_v36) (defScope st_law_v36) .none kV13 dc13 pm13 an13 cd13 ct13), sl13⟩)
    (c13 : PySem.W.codeIn K cd13 "law" = true)
    (k13 : PySem.W.keepIn K (.ref f13) = true)
    (z_abs : PySem.W.nsIn K mainGlobals "abs" = some none)
    (z_all : PySem.W.nsIn K mainGlobals "all" = some none)
    (z_bool : PySem.W.nsIn K mainGlobals "bool" = some none)
    (z_enumerate : PySem.W.nsIn K mainGlobals "enumerate" = some none)
    (z_int : PySem.W.nsIn K mainGlobals "int" = some none)
    (z_isinstance : PySem.W.nsIn K mainGlobals "isinstance" = some none)
    (z_len : PySem.W.nsIn K mainGlobals "len" = some none)
    (z_list : PySem.W.nsIn K mainGlobals "list" = some none)
    (z_min : PySem.W.nsIn K mainGlobals "min" = some none)
    (z_range : PySem.W.nsIn K mainGlobals "range" = some none)
    (z_repr : PySem.W.nsIn K mainGlobals "repr" = some none)
    (z_str : PySem.W.nsIn K mainGlobals "str" = some none)
    (z_tuple : PySem.W.nsIn K mainGlobals "tuple" = some none)
    (z_zip : PySem.W.nsIn K mainGlobals "zip" = some none)
    : Txt K mg :=
  {
    d_law_cells := df_mk X G a0 l0 c0 k0 fun _ _ _ _ _ _ us hl => match us, hl with | [_, _], _ => rfl
    d_law_box := df_mk X G a1 l1 c1 k1 fun _ _ _ _ _ _ us hl => match us, hl with | [_, _], _ => rfl
    d_law_take := df_mk X G a2 l2 c2 k2 fun _ _ _ _ _ _ us hl => match us, hl with | [_, _], _ => rfl
    d_law_of := df_mk X G a3 l3 c3 k3 fun _ _ _ _ _ _ us hl => match us, hl with | [_, _], _ => rfl
    d_law_two_to := df_mk X G a4 l4 c4 k4 fun _ _ _ _ _ _ us hl => match us, hl with | [_], _ => rfl
    d_law_random_line := df_mk X G a5 l5 c5 k5 fun _ _ _ _ _ _ us hl => match us, hl with | [_, _, _], _ => rfl
    d_law_moves := df_mk X G a6 l6 c6 k6 fun _ _ _ _ _ _ us hl => match us, hl with | [_], _ => rfl
    d_joins := df_mk X G a7 l7 c7 k7 fun _ _ _ _ _ _ us hl => match us, hl with | [_], _ => rfl
    d_joins_kw_row := dfk_mk X G a7 l7 c7 k7 fun ws hl => match ws, hl with | [_], _ => rfl
    d_splits := df_mk X G a8 l8 c8 k8 fun _ _ _ _ _ _ us hl => match us, hl with | [_], _ => rfl
    d_splits_kw_row := dfk_mk X G a8 l8 c8 k8 fun ws hl => match ws, hl with | [_], _ => rfl
    d_law_same := df_mk X G a9 l9 c9 k9 fun _ _ _ _ _ _ us hl => match us, hl with | [_, _], _ => rfl
    d_joined := df_mk X G a10 l10 c10 k10 fun _ _ _ _ _ _ us hl => match us, hl with | [_, _], _ => rfl
    d_joined_kw_place_row := dfk_mk X G a10 l10 c10 k10 fun ws hl => match ws, hl with | [_, _], _ => rfl
    d_halved := df_mk X G a11 l11 c11 k11 fun _ _ _ _ _ _ us hl => match us, hl with | [_, _], _ => rfl
    d_halved_kw_place_row := dfk_mk X G a11 l11 c11 k11 fun ws hl => match ws, hl with | [_, _], _ => rfl
    d_law_right_v35 := df_mk X G a12 l12 c12 k12 fun _ _ _ _ _ _ us hl => match us, hl with | [_], _ => rfl
    d_law_v36 := df_mk X G a13 l13 c13 k13 fun _ _ _ _ _ _ us hl => match us, hl with | [_], _ => rfl
    z_abs := PySem.W.mg_none_of X G z_abs
    z_all := PySem.W.mg_none_of X G z_all
    z_bool := PySem.W.mg_none_of X G z_bool
    z_enumerate := PySem.W.mg_none_of X G z_enumerate
    z_int := PySem.W.mg_none_of X G z_int
    z_isinstance := PySem.W.mg_none_of X G z_isinstance
    z_len := PySem.W.mg_none_of X G z_len
    z_list := PySem.W.mg_none_of X G z_list
    z_min := PySem.W.mg_none_of X G z_min
    z_range := PySem.W.mg_none_of X G z_range
    z_repr := PySem.W.mg_none_of X G z_repr
    z_str := PySem.W.mg_none_of X G z_str
    z_tuple := PySem.W.mg_none_of X G z_tuple
    z_zip := PySem.W.mg_none_of X G z_zip
  }
theorem gend {P : Program} {W : World} {K : PySem.W.Frag} {h : Heap} {mg : Str → Option Value} {fa : Addr} (X : K.In h) (G : h.Ns mainGlobals mg) (hfa : mg "law" = some (.ref fa))
    {f0 : Addr} {od0 an0 : Option Addr} {sl0 : Array (Option Value)} {oc0 kV0 dc0 pm0 cd0 ct0 : Value}
    {f1 : Addr} {od1 an1 : Option Addr} {sl1 : Array (Option Value)} {oc1 kV1 dc1 pm1 cd1 ct1 : Value}
    {f2 : Addr} {od2 an2 : Option Addr} {sl2 : Array (Option Value)} {oc2 kV2 dc2 pm2 cd2 ct2 : Value}
    {f3 : Addr} {od3 an3 : Option Addr} {sl3 : Array (Option Value)} {oc3 kV3 dc3 pm3 cd3 ct3 : Value}
    {f4 : Addr} {od4 an4 : Option Addr} {sl4 : Array (Option Value)} {oc4 kV4 dc4 pm4 cd4 ct4 : Value}
    {f5 : Addr} {od5 an5 : Option Addr} {sl5 : Array (Option Value)} {oc5 kV5 dc5 pm5 cd5 ct5 : Value}
    {f6 : Addr} {od6 an6 : Option Addr} {sl6 : Array (Option Value)} {oc6 kV6 dc6 pm6 cd6 ct6 : Value}
    {f7 : Addr} {od7 an7 : Option Addr} {sl7 : Array (Option Value)} {oc7 kV7 dc7 pm7 cd7 ct7 : Value}
    {f8 : Addr} {od8 an8 : Option Addr} {sl8 : Array (Option Value)} {oc8 kV8 dc8 pm8 cd8 ct8 : Value}
    {f9 : Addr} {od9 an9 : Option Addr} {sl9 : Array (Option Value)} {oc9 kV9 dc9 pm9 cd9 ct9 : Value}
    {f10 : Addr} {od10 an10 : Option Addr} {sl10 : Array (Option Value)} {oc10 kV10 dc10 pm10 cd10 ct10 : Value}
    {f11 : Addr} {od11 an11 : Option Addr} {sl11 : Array (Option Value)} {oc11 kV11 dc11 pm11 cd11 ct11 : Value}
    {f12 : Addr} {od12 an12 : Option Addr} {sl12 : Array (Option Value)} {oc12 kV12 dc12 pm12 cd12 ct12 : Value}
    {f13 : Addr} {od13 an13 : Option Addr} {sl13 : Array (Option Value)} {oc13 kV13 dc13 pm13 cd13 ct13 : Value}
    (a0 : PySem.W.nsIn K mainGlobals "_law_cells" = some (some (.ref f0)))
    (l0 : K.lookup f0 = some ⟨oc0, od0, .func (PySem.W.fnOf "_law_cells" "_law_cells" (defArgs st_law_cells) (defBody st_law_cells) (defScope st_law_cells) .none kV0 dc0 pm0 an0 cd0 ct0), sl0⟩)
    (c0 : PySem.W.codeIn K cd0 "_law_cells" = true)
    (k0 : PySem.W.keepIn K (.ref f0) = true)
    (a1 : PySem.W.nsIn K mainGlobals "_law_box" = some (some (.ref f1)))
    (l1 : K.lookup f1 = some ⟨oc1, od1, .func (PySem.W.fnOf "_law_box" "_law_box" (defArgs st_law_box) (defBody st_law_box) (defScope st_law_box) .none kV1 dc1 pm1 an1 cd1 ct1), sl1⟩)
    (c1 : PySem.W.codeIn K cd1 "_law_box" = true)
    (k1 : PySem.W.keepIn K (.ref f1) = true)
    (a2 : PySem.W.nsIn K mainGlobals "_law_take" = some (some (.ref f2)))
    (l2 : K.lookup f2 = some ⟨oc2, od2, .func (PySem.W.fnOf "_law_take" "_law_take" (defArgs st_law_take) (defBody st_law_take) (defScope st_law_take) .none kV2 dc2 pm2 an2 cd2 ct2), sl2⟩)
    (c2 : PySem.W.codeIn K cd2 "_law_take" = true)
    (k2 : PySem.W.keepIn K (.ref f2) = true)
    (a3 : PySem.W.nsIn K mainGlobals "_law_of" = some (some (.ref f3)))
    (l3 : K.lookup f3 = some ⟨oc3, od3, .func (PySem.W.fnOf "_law_of" "_law_of" (defArgs st_law_of) (defBody st_law_of) (defScope st_law_of) .none kV3 dc3 pm3 an3 cd3 ct3), sl3⟩)
    (c3 : PySem.W.codeIn K cd3 "_law_of" = true)
    (k3 : PySem.W.keepIn K (.ref f3) = true)
    (a4 : PySem.W.nsIn K mainGlobals "_law_two_to" = some (some (.ref f4)))
    (l4 : K.lookup f4 = some ⟨oc4, od4, .func (PySem.W.fnOf "_law_two_to" "_law_two_to" (defArgs st_law_two_to) (defBody st_law_two_to) (defScope st_law_two_to) .none kV4 dc4 pm4 an4 cd4 ct4), sl4⟩)
    (c4 : PySem.W.codeIn K cd4 "_law_two_to" = true)
    (k4 : PySem.W.keepIn K (.ref f4) = true)
    (a5 : PySem.W.nsIn K mainGlobals "_law_random_line" = some (some (.ref f5)))
    (l5 : K.lookup f5 = some ⟨oc5, od5, .func (PySem.W.fnOf "_law_random_line" "_law_random_line" (defArgs st_law_random_line) (defBody st_law_random_line) (defScope st_law_random_line) .none kV5 dc5 pm5 an5 cd5 ct5), sl5⟩)
    (c5 : PySem.W.codeIn K cd5 "_law_random_line" = true)
    (k5 : PySem.W.keepIn K (.ref f5) = true)
    (a6 : PySem.W.nsIn K mainGlobals "_law_moves" = some (some (.ref f6)))
    (l6 : K.lookup f6 = some ⟨oc6, od6, .func (PySem.W.fnOf "_law_moves" "_law_moves" (defArgs st_law_moves) (defBody st_law_moves) (defScope st_law_moves) .none kV6 dc6 pm6 an6 cd6 ct6), sl6⟩)
    (c6 : PySem.W.codeIn K cd6 "_law_moves" = true)
    (k6 : PySem.W.keepIn K (.ref f6) = true)
    (a7 : PySem.W.nsIn K mainGlobals "joins" = some (some (.ref f7)))
    (l7 : K.lookup f7 = some ⟨oc7, od7, .func (PySem.W.fnOf "joins" "joins" (defArgs st_joins) (defBody st_joins) (defScope st_joins) .none kV7 dc7 pm7 an7 cd7 ct7), sl7⟩)
    (c7 : PySem.W.codeIn K cd7 "joins" = true)
    (k7 : PySem.W.keepIn K (.ref f7) = true)
    (a8 : PySem.W.nsIn K mainGlobals "splits" = some (some (.ref f8)))
    (l8 : K.lookup f8 = some ⟨oc8, od8, .func (PySem.W.fnOf "splits" "splits" (defArgs st_splits) (defBody st_splits) (defScope st_splits) .none kV8 dc8 pm8 an8 cd8 ct8), sl8⟩)
    (c8 : PySem.W.codeIn K cd8 "splits" = true)
    (k8 : PySem.W.keepIn K (.ref f8) = true)
    (a9 : PySem.W.nsIn K mainGlobals "_law_same" = some (some (.ref f9)))
    (l9 : K.lookup f9 = some ⟨oc9, od9, .func (PySem.W.fnOf "_law_same" "_law_same" (defArgs st_law_same) (defBody st_law_same) (defScope st_law_same) .none kV9 dc9 pm9 an9 cd9 ct9), sl9⟩)
    (c9 : PySem.W.codeIn K cd9 "_law_same" = true)
    (k9 : PySem.W.keepIn K (.ref f9) = true)
    (a10 : PySem.W.nsIn K mainGlobals "joined" = some (some (.ref f10)))
    (l10 : K.lookup f10 = some ⟨oc10, od10, .func (PySem.W.fnOf "joined" "joined" (defArgs st_joined) (defBody st_joined) (defScope st_joined) .none kV10 dc10 pm10 an10 cd10 ct10), sl10⟩)
    (c10 : PySem.W.codeIn K cd10 "joined" = true)
    (k10 : PySem.W.keepIn K (.ref f10) = true)
    (a11 : PySem.W.nsIn K mainGlobals "halved" = some (some (.ref f11)))
    (l11 : K.lookup f11 = some ⟨oc11, od11, .func (PySem.W.fnOf "halved" "halved" (defArgs st_halved) (defBody st_halved) (defScope st_halved) .none kV11 dc11 pm11 an11 cd11 ct11), sl11⟩)
    (c11 : PySem.W.codeIn K cd11 "halved" = true)
    (k11 : PySem.W.keepIn K (.ref f11) = true)
    (a12 : PySem.W.nsIn K mainGlobals "_law_right" = some (some (.ref f12)))
    (l12 : K.lookup f12 = some ⟨oc12, od12, .func (PySem.W.fnOf "_law_right" "_law_right" (defArgs st_law_right_v35) (defBody st_law_right_v35) (defScope st_law_right_v35) .none kV12 dc12 pm12 an12 cd12 ct12), sl12⟩)
    (c12 : PySem.W.codeIn K cd12 "_law_right" = true)
    (k12 : PySem.W.keepIn K (.ref f12) = true)
    (a13 : PySem.W.nsIn K mainGlobals "law" = some (some (.ref f13)))
    (l13 : K.lookup f13 = some ⟨oc13, od13, .func (PySem.W.fnOf "law" "law" (defArgs st_law_v36) (defBody st_law_v36) (defScope st_law_v36) .none kV13 dc13 pm13 an13 cd13 ct13), sl13⟩)
    (c13 : PySem.W.codeIn K cd13 "law" = true)
    (k13 : PySem.W.keepIn K (.ref f13) = true)
    (z_abs : PySem.W.nsIn K mainGlobals "abs" = some none)
    (z_all : PySem.W.nsIn K mainGlobals "all" = some none)
    (z_bool : PySem.W.nsIn K mainGlobals "bool" = some none)
    (z_enumerate : PySem.W.nsIn K mainGlobals "enumerate" = some none)
    (z_int : PySem.W.nsIn K mainGlobals "int" = some none)
    (z_isinstance : PySem.W.nsIn K mainGlobals "isinstance" = some none)
    (z_len : PySem.W.nsIn K mainGlobals "len" = some none)
    (z_list : PySem.W.nsIn K mainGlobals "list" = some none)
    (z_min : PySem.W.nsIn K mainGlobals "min" = some none)
    (z_range : PySem.W.nsIn K mainGlobals "range" = some none)
    (z_repr : PySem.W.nsIn K mainGlobals "repr" = some none)
    (z_str : PySem.W.nsIn K mainGlobals "str" = some none)
    (z_tuple : PySem.W.nsIn K mainGlobals "tuple" = some none)
    (z_zip : PySem.W.nsIn K mainGlobals "zip" = some none)
    : ∃ fd : FuncData, Binds K fd ["_law_script"] [] ∧ ∀ base : Heap, K.In base → base.Ns mainGlobals mg → FnG P W K mg base 65 fa fd ["_law_script"] (spLaw 63) := by
  have T := all_mk X G hfa a0 l0 c0 k0 a1 l1 c1 k1 a2 l2 c2 k2 a3 l3 c3 k3 a4 l4 c4 k4 a5 l5 c5 k5 a6 l6 c6 k6 a7 l7 c7 k7 a8 l8 c8 k8 a9 l9 c9 k9 a10 l10 c10 k10 a11 l11 c11 k11 a12 l12 c12 k12 a13 l13 c13 k13 z_abs z_all z_bool z_enumerate z_int z_isinstance z_len z_list z_min z_range z_repr z_str z_tuple z_zip
  obtain ⟨f, fd, h1, h2, h3, h4⟩ := T.d_law_v36.ex
  have e := hfa.symm.trans h1
  cases e
  exact ⟨fd, h3, fun base _ _ => law_fn (g_law_v36 (XR := fun _ _ _ _ _ => False) T _ fd h4) pure_law⟩
end G
open PySem PySem.W PyProof.Rows in
set_option maxRecDepth 100000 in
set_option maxHeartbeats 0 in
theorem PySem.Challenge.cw_twinheaps_k02_joins_and_splits_holds : PySem.Challenge.rw_twinheaps_k02_joins_and_splits.Holds := by
  w_on; o_law; k_head; (case hw => w_witness2)
  k_fill
  refine VI.law_end (l := PySem.Challenge.rw_twinheaps_k02_joins_and_splits) (n := 63) (k := 65) (x := "_law_script") rfl (by decide) rfl ⟨rfl, by decide, by decide⟩ (fun w h Y => PySem.W.kIn_of Y) (fun w => ?hL) ?F
  case hL => rfl
  case F =>
    intro w mg fa h KX GG hmg
    refine' G.gend KX GG hmg ?a0 ?l0 ?c0 ?k0 ?a1 ?l1 ?c1 ?k1 ?a2 ?l2 ?c2 ?k2 ?a3 ?l3 ?c3 ?k3 ?a4 ?l4 ?c4 ?k4 ?a5 ?l5 ?c5 ?k5 ?a6 ?l6 ?c6 ?k6 ?a7 ?l7 ?c7 ?k7 ?a8 ?l8 ?c8 ?k8 ?a9 ?l9 ?c9 ?k9 ?a10 ?l10 ?c10 ?k10 ?a11 ?l11 ?c11 ?k11 ?a12 ?l12 ?c12 ?k12 ?a13 ?l13 ?c13 ?k13 ?z_abs ?z_all ?z_bool ?z_enumerate ?z_int ?z_isinstance ?z_len ?z_list ?z_min ?z_range ?z_repr ?z_str ?z_tuple ?z_zip
    (case a0 => k_is)
    (case l0 => k_is)
    (case c0 => k_is)
    (case k0 => k_is)
    (case a1 => k_is)
    (case l1 => k_is)
    (case c1 => k_is)
    (case k1 => k_is)
    (case a2 => k_is)
    (case l2 => k_is)
    (case c2 => k_is)
    (case k2 => k_is)
    (case a3 => k_is)
    (case l3 => k_is)
    (case c3 => k_is)
    (case k3 => k_is)
    (case a4 => k_is)
    (case l4 => k_is)
    (case c4 => k_is)
    (case k4 => k_is)
    (case a5 => k_is)
    (case l5 => k_is)
    (case c5 => k_is)
    (case k5 => k_is)
    (case a6 => k_is)
    (case l6 => k_is)
    (case c6 => k_is)
    (case k6 => k_is)
    (case a7 => k_is)
    (case l7 => k_is)
    (case c7 => k_is)
    (case k7 => k_is)
    (case a8 => k_is)
    (case l8 => k_is)
    (case c8 => k_is)
    (case k8 => k_is)
    (case a9 => k_is)
    (case l9 => k_is)
    (case c9 => k_is)
    (case k9 => k_is)
    (case a10 => k_is)
    (case l10 => k_is)
    (case c10 => k_is)
    (case k10 => k_is)
    (case a11 => k_is)
    (case l11 => k_is)
    (case c11 => k_is)
    (case k11 => k_is)
    (case a12 => k_is)
    (case l12 => k_is)
    (case c12 => k_is)
    (case k12 => k_is)
    (case a13 => k_is)
    (case l13 => k_is)
    (case c13 => k_is)
    (case k13 => k_is)
    (case z_abs => k_is)
    (case z_all => k_is)
    (case z_bool => k_is)
    (case z_enumerate => k_is)
    (case z_int => k_is)
    (case z_isinstance => k_is)
    (case z_len => k_is)
    (case z_list => k_is)
    (case z_min => k_is)
    (case z_range => k_is)
    (case z_repr => k_is)
    (case z_str => k_is)
    (case z_tuple => k_is)
    (case z_zip => k_is)
