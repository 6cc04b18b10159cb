import PyProof.Rows.All
import Wide.All
import OpenK.AllK
import Wide.FinOn
import HandS.ForMost
import HandS.ForExc
import HandS.Walk
import HandS.EndBits
import KE.KExcIs
import HandS.ExcIs
import HandS.Style
import HandS.TryOnly
import HandS.TupMul
import HandS.Wide
import HandS.WideBits
import HandS.TupAny
import HandS.IsInst
import HandS.Deep
import KE.DataMinMax
import KE.SortData
import KE.KTupSum
import KE.GoesNew
import KE.GoesMore
import HandS.Words
import HandS.WordsExc
import OpenK.KMore
import KE.IntBitsLaws
import PyProof.ReprLen
import PyProof.P3Eq
import KE.KItemsList
import HandS.ListItems
import HandS.Flow
import HandS.ExcInit
import HandS.ExcOwn
import KE.KExcInit
import HandS.ExcValue
import HandS.Dict
import HandS.Iter
import KE.KDictDisplayH
import KE.KDictPairs
import HandS.TupLen
import HandS.Conv
import KE.KDictSum
import KE.KDictCopyH
import HandS.Finally
import KE.KUnpackStar
import OpenK.KOps
import HandS.Defaults
import HandS.Text
import HandS.More
import HandS.HeadHook2
import HandS.HeadHook3
import HandS.Head2
import PySem.Challenge.RW_twinheaps_k64_texts_and_back
set_option Elab.async false
set_option linter.all false
set_option maxRecDepth 100000
set_option maxHeartbeats 4000000
namespace VI
open PySem PySem.Spec PyProof.Rows L2
/-- a def's promise, kept where nothing guards -/
structure FnG (P : Program) (W : World) (K : PySem.W.Frag) (mg : Str → Option Value) (base : Heap) (k : Nat) (f : Addr) (fd : FuncData) (ps : List Str) (sp : Sp) : Prop where
  len : ∀ vs H Q E, sp vs H Q E → vs.length = ps.length
  run : ∀ (A : Around) (out : List PySem.Env) (s : Shared) (H : Hp) (given : Args) (us : List Value) (vs : List V) (Q : VK) (E : XK), Room k A → A.guards = some [] → Env0 P W K mg base A out s H →
    BindsTo s fd given (ps.zip us) → Vals vs us → sp vs H Q E → codeAny (model P W) A (.call (.ref f) given) (CR (L2.CX P W) out P W H s Q E) s
theorem FnG.mono {P : Program} {W : World} {K : PySem.W.Frag} {mg : Str → Option Value} {base : Heap} {j k : Nat} {f : Addr} {fd : FuncData} {ps : List Str} {sp : Sp} (G : FnG P W K mg base j f fd ps sp) (h : j ≤ k) : FnG P W K mg base k f fd ps sp where
  len := G.len
  run := fun A out s H given us vs Q E hr => G.run A out s H given us vs Q E (hr.mono h)
section
variable {X : Cx} {k : Nat} {f : Addr} {fd : FuncData} {ps : List Str} {sp : Sp} {E : L2.St → XK} {x : Str} {p pos : Pos} {e : Expr} {es : List Expr} {t : TA}
/-- the body's own end, told to its caller -/
theorem cr_ends {pins : List (Addr × Obj)} {σ : L2.St} {H : Hp} {s : Shared} {Q : VK} {XE : XK} (I : Inv X pins σ H s) (hx : PassesAt (L2.CX X.prog X.w) X σ XE) {r : Result} {s' : Shared} (h : CR (L2.CX X.prog X.w) X.stack X.prog X.w H s Q XE r s') :
    (match r with | .ok (.ret u) => EP X pins σ Q u s' | .ok _ => False | .error z => X.xe z s') := by
  match r, h with
  | .ok (.ret u), h => exact I.after h
  | .ok .next, h => exact h
  | .ok .brk, h => exact h
  | .ok .cont, h => exact h
  | .error z, h => exact hx pins H s z s' I h
theorem pe_callG (G : FnG X.prog X.w X.K X.mg X.base k f fd ps sp) (hr : Room k X.A) (hu : X.A.guards = some []) (hg : Gl X x) (hm : X.mg x = some (.ref f)) (hk : PySem.W.keepIn X.K (.ref f) = true) (hb : Binds X.K fd ps []) (hx : ∀ σ, PassesAt (L2.CX X.prog X.w) X σ (E σ))
    (ha : PA X (e :: es) t) (hdb : (x == ("__debug__" : Str)) = false := by decide) (he : starEach (e :: es) X.env = (false, eval e X.env) :: starEach es X.env := by rfl) (hpl : (backTo pos (starEach es X.env)).any (·.1) = false := by rfl) :
    PE X (.Call (.Name x p) (e :: es) [] pos) (tCallS sp E t) where
  run := fun pins s σ H Q I h => wpAny_Call_Name_kw (ld_glob I hg hm (PySem.W.callWith_K (h₀ := X.base) I.ok.mod.kin hk (thn (ha.run pos pins s σ H _ I h) fun us s1 q => by
    obtain ⟨vs, H1, J, rv, hs⟩ := q
    refine ⟨J.kIn, ?_⟩
    have hl : us.length = ps.length := rv.length ▸ G.len _ _ _ _ hs
    have bb := hb s1 us J.kIn (by simpa using hl)
    simp only [List.append_nil] at bb
    refine wpAny_call (codeAny_mono (G.run X.A X.stack s1 H1 ⟨us, []⟩ us vs Q (E σ) hr hu J.env0 bb rv hs) fun r s2 hc => ?_)
    match r, hc with
    | .ok (.ret u), hc => exact cr_ends J (hx σ) hc
    | .ok .next, hc => exact False.elim hc
    | .ok .brk, hc => exact False.elim hc
    | .ok .cont, hc => exact False.elim hc
    | .error w, hc => exact cr_ends J (hx σ) hc) he hpl) hdb)
end
/-- the rule for a def of the text -/
theorem fn_ofG {P : Program} {W : World} {K : PySem.W.Frag} {mg : Str → Option Value} {base : Heap} {k : Nat} {f : Addr} {name qual : Str} {params : Arguments} {body : List Stmt} {scope : Scope} {dV kV doc pm cdv ct oc : Value} {an od : Option Addr}
    {osl : Array (Option Value)} {N ps : List Str} {sp : Sp} (lk : K.lookup f = some ⟨oc, od, .func (PySem.W.fnOf name qual params body scope dV kV doc pm an cdv ct), osl⟩) (hcd : PySem.W.codeIn K cdv qual = true) (S : FnScope N ps scope)
    (len : ∀ vs H Q E, sp vs H Q E → vs.length = ps.length)
    (hbody : ∀ (A : Around) (out : List PySem.Env) (s : Shared) (H : Hp) (vs : List V) (Q : VK) (E : XK), Room k (A.deeper (envOfC qual scope s.heap.objs.size f cdv)) → A.guards = some [] → sp vs H Q E →
      ∃ t, PSs (cxOf (L2.CX P W) P W K mg base N qual scope f cdv A out s H E) body t ∧ t { nx := fun _ H' => Q .non H', rt := Q } (L2.start N vs) H) :
    FnG P W K mg base (k + 1) f (PySem.W.fnOf name qual params body scope dV kV doc pm an cdv ct) ps sp where
  len := len
  run := by
    intro A out s H given us vs Q E hr hgd e0 bnd rv hsp
    have kin := e0.mod.kin.keeps fun b o z => (e0.bs b o z).1
    have lim := e0.mod.nolimit.keeps fun b o z => (e0.bs b o z).1
    have kinds : ∀ y ∈ ps.zip us, scope.names.lookup y.1 = some .local ∨ (scope.names.lookup y.1 = some .cell ∧ ((cellsFrom (s.heap.objs.size + 1) scope.names []).lookup y.1).isSome = true) := by
      intro y hy
      have hp := S.par y.1 (List.of_mem_zip (a := y.1) (b := y.2) hy).1
      exact hp.imp id fun q => ⟨q, PySem.W.cellsFrom_some _ _ _ (.inl q)⟩
    refine codeAny_call_function hr.depth (kin _ _ lk) rfl S.co S.gen rfl (PySem.W.codeRec_of kin hcd) (bnd _ _ _ _ (wpAny_newFunctionEnv_cells S.kind kinds ?_))
    intro env he s1 made
    cases he
    refine ⟨lim.keeps made.toInCall.keep, codeAny_func ?_⟩
    obtain ⟨t, ht, hq⟩ := hbody A out s H vs Q E (hr.deeper _) hgd hsp
    have J := inv_start (CX := L2.CX P W) (E := E) (H := H) S hr.hd e0 (len _ _ _ _ hsp) rv made
    refine wpAny_mono (ht.run [] s1 _ H _ J hq) ?_ fun _ _ z => z
    intro fl s2 hs
    have told : ∀ {σ2 : L2.St} {H2 : Hp} {v : V} {u : Value}, Inv (cxOf (L2.CX P W) P W K mg base N qual scope f cdv A out s H E) [] σ2 H2 s2 → RelV v u → Q v H2 → CE out P W H s Q u s2 := by
      intro σ2 H2 v u J2 r2 q2
      exact ⟨v, H2, J2.os, J2.bare, J2.base, J2.hok, r2, q2⟩
    match fl, hs with
    | .ret u, ⟨v, σ2, H2, J2, r2, q2⟩ => exact told J2 r2 q2
    | .next, ⟨σ2, H2, J2, q2⟩ => exact told (v := V.non) J2 rfl q2
    | .brk, ⟨_, _, _, q2⟩ => exact q2.elim
    | .cont, ⟨_, _, _, q2⟩ => exact q2.elim
theorem Fun.okG {P : Program} {W : World} {K : PySem.W.Frag} {mg : Str → Option Value} {base : Heap} {x qual : Str} {st : Stmt} {f : Addr} {fd : FuncData} {N ps : List Str} {k : Nat} {sp : Sp} (FF : Fun K x qual st f fd) (S : FnScope N ps (defScope st)) (len : ∀ vs H Q E, sp vs H Q E → vs.length = ps.length)
    (hbody : ∀ (cdv : Value) (A : Around) (out : List PySem.Env) (s : Shared) (H : Hp) (vs : List V) (Q : VK) (E : XK), Room k (A.deeper (envOfC qual (defScope st) s.heap.objs.size f cdv)) → A.guards = some [] → sp vs H Q E →
      ∃ t, PSs (cxOf (L2.CX P W) P W K mg base N qual (defScope st) f cdv A out s H E) (defBody st) t ∧ t { nx := fun _ H' => Q .non H', rt := Q } (L2.start N vs) H) : FnG P W K mg base (k + 1) f fd ps sp := by
  obtain ⟨oc, od, kV, doc, pm, an, cdv, ct, osl, rfl, lk, hcd⟩ := FF.ex
  exact fn_ofG lk hcd S len fun A out s H vs Q E => hbody cdv A out s H vs Q E
/-- the written part holds no list: the script is none of the module's own -/
def noLst (K : PySem.W.Frag) : Bool := K.all fun p => match p.2.cls with
  | .type n => n != "list"
  | _ => true
theorem lookup_mem {α β : Type} [BEq α] [LawfulBEq α] {l : List (α × β)} {a : α} {b : β} (h : l.lookup a = some b) : (a, b) ∈ l := by
  induction l with
  | nil => cases h
  | cons p r ih =>
    obtain ⟨c, d⟩ := p
    by_cases q : a = c
    · subst q
      simp only [List.lookup, beq_self_eq_true] at h
      cases h; exact List.mem_cons_self
    · have : (a == c) = false := by simpa using q
      simp only [List.lookup, this] at h
      exact List.mem_cons_of_mem _ (ih h)
theorem noLst_at {K : PySem.W.Frag} (h : noLst K = true) {a : Addr} {o : Obj} (e : K.lookup a = some o) : o.cls ≠ .type "list" := by
  intro z
  have := List.all_eq_true.mp h _ (lookup_mem e)
  simp only [z] at this
  simp at this
/-- the heap in which nothing is known but the script -/
def scriptHp (a : Addr) (o : Obj) (ns : List Int) : Hp := fun b => if b = a then some (.frz o (.lst (ns.map V.int))) else none
theorem scriptHp_at {a : Addr} {o : Obj} {ns : List Int} : scriptHp a o ns a = some (.frz o (.lst (ns.map V.int))) := if_pos rfl
theorem scriptHp_ne {a b : Addr} {o : Obj} {ns : List Int} (h : b ≠ a) : scriptHp a o ns b = none := if_neg h
def spLaw (n : Nat) : Sp := fun vs H Q _ => ∃ a o ns, vs = [.ref a] ∧ ns.length ≤ n ∧ (∀ k ∈ ns, Builtin.Int.intBits k ≤ 1048576) ∧ H = scriptHp a o ns ∧ ∀ H', Q (.bl true) H'
end VI
set_option Elab.async false
set_option linter.all false
set_option maxRecDepth 100000
set_option maxHeartbeats 4000000
namespace VI
open PySem PySem.Spec PyProof.Rows L2
/-- an error of the class at C, its dict at d -/
def exk (a C d : Addr) : HO := .ext fun h => ∃ oe vs, h.get? a = some oe ∧ Zc (.ref C) (some d) oe ∧ oe.data = .fields vs
theorem exk_at {P : Program} {w : World} {H : Hp} {h : Heap} {a C d : Addr} (hok : HOk P w H h) (e : H a = some (exk a C d)) : ∃ oe vs, h.get? a = some oe ∧ Zc (.ref C) (some d) oe ∧ oe.data = .fields vs := by
  have x : ObjOk P w H h a (.ext fun h => ∃ oe vs, h.get? a = some oe ∧ Zc (.ref C) (some d) oe ∧ oe.data = .fields vs) := hok a _ e
  exact x.1
/-- the base of an own class of error, by name -/
def excBase (n : Str) : String :=
  if n = "NoStone" ∨ n = "NoPlace" ∨ n = "NoNumber" ∨ n = "NoDeed" then "LookupError"
  else if n = "Unlike" ∨ n = "Odd" ∨ n = "Barred" then "RuntimeError"
  else if n = "TooMany" ∨ n = "Full" then "OverflowError" else "ValueError"
/-- the built-in classes that are asked for -/
def askedB : List String := ["int", "bool", "str", "list", "tuple", "LookupError", "ValueError", "RuntimeError", "OverflowError", "KeyError", "IndexError", "NotImplementedError"]
/-- the own classes of the written part, by name -/
def clsNm (K : PySem.W.Frag) (C : Addr) : Option Str := (PySem.W.clsIn K C).map (·.qualname)
/-- the fields of own errors -/
def excFlds : List Str := ["stone", "place", "number", "many", "heap", "other", "index", "at", "text", "stones"]
/-- what the written part says of an own class of error -/
structure ExK (K : PySem.W.Frag) (C : Addr) (n : Str) : Prop where
  nm : clsNm K C = some n
  ex : ExcC K C
  ty : PySem.W.typeIn K (.ref C) = some (.type "type")
  asked : ∀ T ∈ askedB, PySem.W.kitOne K (.ref C) (.type T) = some (decide (T = excBase n))
  fl : ∀ f ∈ excFlds, PySem.W.findIn K (.ref C) f = some none
  own : ∀ S m, clsNm K S = some m → PySem.W.typeIn K (.ref S) = some (.type "type") → PySem.W.subIn K (.ref C) (.ref S) = some (decide (n = m))
/-- keys of a dict, as data -/
def keyD : Key → PyData
  | .inl i => .int i
  | .inr s => .str s
def keysD (l : List Key) : PyData := .tuple (l.map keyD)
end VI
set_option Elab.async false
set_option linter.all false
set_option maxRecDepth 100000
set_option maxHeartbeats 4000000
namespace VI
open PySem PySem.Spec PyProof.Rows L2
abbrev D := PyData
abbrev Ext (H H' : Hp) : Prop := ∀ a o, H a = some o → H' a = some o
theorem Ext.refl (H : Hp) : Ext H H := fun _ _ h => h
theorem Ext.trans {H H1 H2 : Hp} (a : Ext H H1) (b : Ext H1 H2) : Ext H H2 := fun x o h => b x o (a x o h)
theorem Ext.new {H : Hp} {p : Addr} {o : HO} (h : H p = none) : Ext H (upd H p o) := fun a u e => by
  rw [upd_ne (ne_of_none e h)]; exact e
/-- an object that F does not know may change -/
theorem Ext.mut {F H : Hp} {p : Addr} {o : HO} (e : Ext F H) (h : F p = none) : Ext F (upd H p o) := fun a u ha => by
  rw [upd_ne (ne_of_none ha h)]; exact e a u ha
theorem Ext.free {H H' : Hp} {p : Addr} (e : Ext H H') (h : H' p = none) : H p = none := by
  cases h1 : H p with
  | none => rfl
  | some o => rw [e p o h1] at h; cases h
theorem Ext.both {F H : Hp} {p : Addr} {o : HO} (e : Ext F H) : Ext (upd F p o) (upd H p o) := fun a u ha => by
  by_cases hp : a = p
  · subst hp; rw [upd_same] at ha ⊢; exact ha
  · rw [upd_ne hp] at ha ⊢; exact e a u ha
theorem ext_rd {H H' : Hp} {a : Addr} {u : HO} (e : Ext H H') (h : Rd H a u) : Rd H' a u := by
  rcases h with h | ⟨o, h⟩
  · exact .inl (e a _ h)
  · exact .inr ⟨o, e a _ h⟩
variable {K : PySem.W.Frag}
theorem ext_t {H H' : Hp} {a : Addr} {xs : List V} (e : Ext H H') (h : H a = some (.tup xs)) : SqT K H' a xs := .inl (.inl (e _ _ h))
mutual
/-- data at a heap: lists that are tracked (or locked), tuples (the module's own too) -/
inductive Dp (K : PySem.W.Frag) (H : Hp) : V → PyData → Prop
  | non : Dp K H .non .none
  | bl (b : Bool) : Dp K H (.bl b) (.bool b)
  | int (i : Int) : Dp K H (.int i) (.int i)
  | str (x : Str) : Dp K H (.str x) (.str x)
  | lst {a : Addr} {xs : List V} {ds : List PyData} : Rd H a (.lst xs) → DpAll K H xs ds → Dp K H (.ref a) (.list ds)
  | tup {a : Addr} {xs : List V} {ds : List PyData} : H a = some (.tup xs) → DpAll K H xs ds → Dp K H (.ref a) (.tuple ds)
  | exc {a C d : Addr} {n : Str} {fs : List (Str × V)} {ds : List PyData} : ExK K C n → H a = some (exk a C d) → H d = some (.xd fs) → DpAll K H (fs.map (·.2)) ds → Dp K H (.ref a) (.dict ((.none, .str n) :: (fs.map fun p => PyData.str p.1).zip ds))
  | dcT {a : Addr} {od : Obj} {kvs : List (List Key × V)} {ds : List PyData} : H a = some (.frz od (.dT kvs)) → DpAll K H (kvs.map (·.2)) ds → Dp K H (.ref a) (.dict ((kvs.map fun p => keysD p.1).zip ds))
  | dcK {a : Addr} {od : Obj} {kvs : List (Key × V)} {ds : List PyData} : H a = some (.frz od (.dK kvs)) → DpAll K H (kvs.map (·.2)) ds → Dp K H (.ref a) (.dict ((.none, .none) :: (kvs.map fun p => keyD p.1).zip ds))
inductive DpAll (K : PySem.W.Frag) (H : Hp) : List V → List PyData → Prop
  | nil : DpAll K H [] []
  | cons {v : V} {vs : List V} {d : PyData} {ds : List PyData} : Dp K H v d → DpAll K H vs ds → DpAll K H (v :: vs) (d :: ds)
end
mutual
/-- no dict, no error within -/
def plainD : D → Bool
  | .none => true
  | .bool _ => true
  | .int _ => true
  | .str _ => true
  | .list ds => plainA ds
  | .tuple ds => plainA ds
  | .dict _ => false
def plainA : List D → Bool
  | [] => true
  | d :: ds => plainD d && plainA ds
end
mutual
theorem Dp.l2 {H : Hp} : ∀ {d : D} {v : V}, Dp K H v d → plainD d = true → L2.Dp K H v d
  | _, _, .non, _ => .non
  | _, _, .bl b, _ => .bl b
  | _, _, .int i, _ => .int i
  | _, _, .str x, _ => .str x
  | _, _, .lst h r, p => .lst (.inl h) (DpAll.l2 r (by unfold plainD at p; exact p))
  | _, _, .tup h r, p => .tup (.inl (.inl h)) (DpAll.l2 r (by unfold plainD at p; exact p))
  | _, _, .exc _ _ _ _, p => by unfold plainD at p; cases p
  | _, _, .dcT _ _, p => by unfold plainD at p; cases p
  | _, _, .dcK _ _, p => by unfold plainD at p; cases p
theorem DpAll.l2 {H : Hp} : ∀ {ds : List D} {vs : List V}, DpAll K H vs ds → plainA ds = true → L2.DpAll K H vs ds
  | _, _, .nil, _ => .nil
  | _, _, .cons h r, p => by
    unfold plainA at p
    rw [Bool.and_eq_true] at p
    exact .cons (Dp.l2 h p.1) (DpAll.l2 r p.2)
end
mutual
theorem plain_lay : ∀ d : D, d.canLay0 = true → plainD d = true
  | .none, _ => by unfold plainD; rfl
  | .bool _, _ => by unfold plainD; rfl
  | .int _, _ => by unfold plainD; rfl
  | .str _, _ => by unfold plainD; rfl
  | .list ds, h => by unfold plainD; unfold PyData.canLay0 at h; exact plainA_lay ds h
  | .tuple ds, h => by unfold plainD; unfold PyData.canLay0 at h; exact plainA_lay ds h
  | .dict _, h => by unfold PyData.canLay0 at h; cases h
theorem plainA_lay : ∀ ds : List D, PyData.canLayAll0 ds = true → plainA ds = true
  | [], _ => by unfold plainA; rfl
  | d :: ds, h => by
    unfold PyData.canLayAll0 at h
    rw [Bool.and_eq_true] at h
    unfold plainA
    rw [plain_lay d h.1, plainA_lay ds h.2]; rfl
end
theorem plain_shaped {d : D} (h : SeqAt.shaped d = true) : plainD d = true := by
  unfold SeqAt.shaped at h
  rw [Bool.and_eq_true] at h
  exact plain_lay d h.1
mutual
theorem plain_hd : ∀ d : D, d.hasDict = false → plainD d = true
  | .none, _ => by unfold plainD; rfl
  | .bool _, _ => by unfold plainD; rfl
  | .int _, _ => by unfold plainD; rfl
  | .str _, _ => by unfold plainD; rfl
  | .list ds, h => by unfold plainD; unfold PyData.hasDict at h; exact plainA_hd ds h
  | .tuple ds, h => by unfold plainD; unfold PyData.hasDict at h; exact plainA_hd ds h
  | .dict _, h => by unfold PyData.hasDict at h; cases h
theorem plainA_hd : ∀ ds : List D, PyData.hasDictAll ds = false → plainA ds = true
  | [], _ => by unfold plainA; rfl
  | d :: ds, h => by
    unfold PyData.hasDictAll at h
    rw [Bool.or_eq_false_iff] at h
    unfold plainA
    rw [plain_hd d h.1, plainA_hd ds h.2]; rfl
end
mutual
theorem Dp.ext {H H' : Hp} (e : Ext H H') : ∀ {d : D} {v : V}, Dp K H v d → Dp K H' v d
  | _, _, .non => .non
  | _, _, .bl b => .bl b
  | _, _, .int i => .int i
  | _, _, .str x => .str x
  | _, _, .lst h r => .lst (ext_rd e h) (DpAll.ext e r)
  | _, _, .tup h r => .tup (e _ _ h) (DpAll.ext e r)
  | _, _, .exc x h1 h2 r => .exc x (e _ _ h1) (e _ _ h2) (DpAll.ext e r)
  | _, _, .dcT h r => .dcT (e _ _ h) (DpAll.ext e r)
  | _, _, .dcK h r => .dcK (e _ _ h) (DpAll.ext e r)
theorem DpAll.ext {H H' : Hp} (e : Ext H H') : ∀ {ds : List D} {vs : List V}, DpAll K H vs ds → DpAll K H' vs ds
  | _, _, .nil => .nil
  | _, _, .cons h r => .cons (Dp.ext e h) (DpAll.ext e r)
end
theorem DpAll.length {H : Hp} : ∀ {vs : List V} {ds : List D}, DpAll K H vs ds → vs.length = ds.length
  | _, _, .nil => rfl
  | _, _, .cons _ r => by rw [List.length_cons, List.length_cons, r.length]
theorem DpAll.append {H : Hp} : ∀ {vs : List V} {ds : List D} {ws : List V} {es : List D}, DpAll K H vs ds → DpAll K H ws es → DpAll K H (vs ++ ws) (ds ++ es)
  | _, _, _, _, .nil, q => q
  | _, _, _, _, .cons h r, q => .cons h (DpAll.append r q)
theorem DpAll.get {H : Hp} : ∀ {vs : List V} {ds : List D} {i : Nat} {d : D}, DpAll K H vs ds → ds[i]? = some d → ∃ v, vs[i]? = some v ∧ Dp K H v d
  | _, _, _, _, .nil, e => by simp at e
  | _, _, 0, d, .cons h _, e => by simp at e; subst e; exact ⟨_, rfl, h⟩
  | _, _, i + 1, d, .cons _ r, e => by
    obtain ⟨v, h1, h2⟩ := DpAll.get (i := i) (d := d) r (by simpa using e)
    exact ⟨v, by simpa using h1, h2⟩
theorem DpAll.get' {H : Hp} : ∀ {vs : List V} {ds : List D} {i : Nat} {v : V}, DpAll K H vs ds → vs[i]? = some v → ∃ d, ds[i]? = some d ∧ Dp K H v d
  | _, _, _, _, .nil, e => by simp at e
  | _, _, 0, d, .cons h _, e => by simp at e; subst e; exact ⟨_, rfl, h⟩
  | _, _, i + 1, d, .cons _ r, e => by
    obtain ⟨v, h1, h2⟩ := DpAll.get' (i := i) (v := d) r (by simpa using e)
    exact ⟨v, by simpa using h1, h2⟩
theorem DpAll.take {H : Hp} : ∀ {vs : List V} {ds : List D} (n : Nat), DpAll K H vs ds → DpAll K H (vs.take n) (ds.take n)
  | _, _, 0, _ => .nil
  | _, _, _ + 1, .nil => .nil
  | _, _, n + 1, .cons h r => .cons h (DpAll.take n r)
theorem DpAll.drop {H : Hp} : ∀ {vs : List V} {ds : List D} (n : Nat), DpAll K H vs ds → DpAll K H (vs.drop n) (ds.drop n)
  | _, _, 0, r => r
  | _, _, _ + 1, .nil => .nil
  | _, _, n + 1, .cons _ r => DpAll.drop n r
theorem DpAll.set {H : Hp} {v : V} {d : D} (h : Dp K H v d) : ∀ {vs : List V} {ds : List D} (n : Nat), DpAll K H vs ds → DpAll K H (vs.set n v) (ds.set n d)
  | _, _, _, .nil => .nil
  | _, _, 0, .cons _ r => .cons h r
  | _, _, n + 1, .cons q r => .cons q (DpAll.set h n r)
theorem DpAll.reverse {H : Hp} {vs : List V} {ds : List D} (h : DpAll K H vs ds) : DpAll K H vs.reverse ds.reverse := by
  induction ds generalizing vs with
  | nil => cases h; exact .nil
  | cons d ds ih =>
    cases h with
    | cons a r =>
      rw [List.reverse_cons, List.reverse_cons]
      exact (ih r).append (.cons a .nil)
theorem DpAll.ints {H : Hp} : ∀ {ns : List Int} {vs : List V}, DpAll K H vs (ns.map PyData.int) → vs = ns.map V.int
  | [], _, h => by cases h; rfl
  | n :: ns, _, h => by
    cases h with
    | cons a r => cases a; rw [DpAll.ints r]; rfl
theorem DpAll.of_ints {H : Hp} : ∀ (ns : List Int), DpAll K H (ns.map V.int) (ns.map PyData.int)
  | [] => .nil
  | n :: ns => .cons (.int n) (DpAll.of_ints ns)
theorem DpAll.bls {H : Hp} : ∀ {ns : List Bool} {vs : List V}, DpAll K H vs (ns.map PyData.bool) → vs = ns.map V.bl
  | [], _, h => by cases h; rfl
  | n :: ns, _, h => by
    cases h with
    | cons a r => cases a; rw [DpAll.bls r]; rfl
/-- data whose first level may be a thing of our own (H), the rest lies still (F) -/
inductive Dh (K : PySem.W.Frag) (F H : Hp) : V → D → Prop
  | non : Dh K F H .non .none
  | bl (b : Bool) : Dh K F H (.bl b) (.bool b)
  | int (i : Int) : Dh K F H (.int i) (.int i)
  | str (x : Str) : Dh K F H (.str x) (.str x)
  | lst {a : Addr} {xs : List V} {ds : List D} : Rd H a (.lst xs) → DpAll K F xs ds → Dh K F H (.ref a) (.list ds)
  | tup {a : Addr} {xs : List V} {ds : List D} : F a = some (.tup xs) → DpAll K F xs ds → Dh K F H (.ref a) (.tuple ds)
  | oth {v : V} {kvs : List (D × D)} : Dp K F v (.dict kvs) → Dh K F H v (.dict kvs)
theorem Dp.dh {F H : Hp} (e : Ext F H) {v : V} {d : D} (h : Dp K F v d) : Dh K F H v d := by
  cases h with
  | non => exact .non
  | bl b => exact .bl b
  | int i => exact .int i
  | str x => exact .str x
  | lst h r => exact .lst (ext_rd e h) r
  | tup h r => exact .tup h r
  | exc x h1 h2 r => exact .oth (.exc x h1 h2 r)
  | dcT h r => exact .oth (.dcT h r)
  | dcK h r => exact .oth (.dcK h r)
theorem Dh.dp {F H : Hp} (e : Ext F H) {v : V} {d : D} (h : Dh K F H v d) : Dp K H v d := by
  cases h with
  | non => exact .non
  | bl b => exact .bl b
  | int i => exact .int i
  | str x => exact .str x
  | lst h r => exact .lst h (r.ext e)
  | tup h r => exact .tup (e _ _ h) (r.ext e)
  | oth h => exact h.ext e
theorem Dh.ext {F F' H H' : Hp} (e : Ext F F') (e' : Ext H H') {v : V} {d : D} (h : Dh K F H v d) : Dh K F' H' v d := by
  cases h with
  | non => exact .non
  | bl b => exact .bl b
  | int i => exact .int i
  | str x => exact .str x
  | lst h r => exact .lst (ext_rd e' h) (r.ext e)
  | tup h r => exact .tup (e _ _ h) (r.ext e)
  | oth h => exact .oth (h.ext e)
/-- a thing of our own, at every depth: data that lies still; a list; a dict; an instance of an own class -/
inductive OT where
  | fz (d : D)
  | lst (ts : List OT)
  | dT (ks : List (List Key)) (ts : List OT)
  | dK (ks : List Key) (ts : List OT)
  | ins (n : Str) (fs : List Str) (ts : List OT)
mutual
/-- t stands at v, made of the objects at fp (each once); its data lies still in F -/
inductive Ow (K : PySem.W.Frag) (F H : Hp) : OT → V → List Addr → Prop
  | fz {d : D} {v : V} : Dp K F v d → Ow K F H (.fz d) v []
  | lst {p : Addr} {ts : List OT} {vs : List V} {fp : List Addr} : H p = some (.lst vs) → OwL K F H ts vs fp → Ow K F H (.lst ts) (.ref p) (p :: fp)
  | dT {p : Addr} {ks : List (List Key)} {ts : List OT} {vs : List V} {fp : List Addr} : H p = some (.dT (ks.zip vs)) → ks.length = vs.length → OwL K F H ts vs fp → Ow K F H (.dT ks ts) (.ref p) (p :: fp)
  | dK {p : Addr} {ks : List Key} {ts : List OT} {vs : List V} {fp : List Addr} : H p = some (.dK (ks.zip vs)) → ks.length = vs.length → OwL K F H ts vs fp → Ow K F H (.dK ks ts) (.ref p) (p :: fp)
  | ins {p C dx : Addr} {n : Str} {fs : List Str} {ts : List OT} {vs : List V} {fp : List Addr} : clsNm K C = some n → H p = some (.ins C dx (fs.zip vs)) → H dx = some (.own p) → fs.length = vs.length → OwL K F H ts vs fp → Ow K F H (.ins n fs ts) (.ref p) (p :: dx :: fp)
inductive OwL (K : PySem.W.Frag) (F H : Hp) : List OT → List V → List Addr → Prop
  | nil : OwL K F H [] [] []
  | cons {t : OT} {v : V} {ts : List OT} {vs : List V} {f1 f2 : List Addr} : Ow K F H t v f1 → OwL K F H ts vs f2 → OwL K F H (t :: ts) (v :: vs) (f1 ++ f2)
end
theorem OwL.length {F H : Hp} : ∀ {ts : List OT} {vs : List V} {fp : List Addr}, OwL K F H ts vs fp → ts.length = vs.length
  | _, _, _, .nil => rfl
  | _, _, _, .cons _ r => by rw [List.length_cons, List.length_cons, r.length]
theorem zip_inj {α β : Type} : ∀ {ks : List α} {xs ys : List β}, ks.length = xs.length → ks.length = ys.length → ks.zip xs = ks.zip ys → xs = ys
  | [], [], [], _, _, _ => rfl
  | [], _ :: _, _, h, _, _ => by simp at h
  | [], [], _ :: _, _, h, _ => by simp at h
  | k :: ks, [], _, h, _, _ => by simp at h
  | k :: ks, _ :: _, [], _, h, _ => by simp at h
  | k :: ks, x :: xs, y :: ys, h, h', e => by
    simp only [List.zip_cons_cons, List.cons.injEq, Prod.mk.injEq] at e
    rw [e.1.2, zip_inj (by simpa using h) (by simpa using h') e.2]
mutual
/-- where it stands is told by the heap alone -/
theorem Ow.uniq {F F' H : Hp} : ∀ {t : OT} {v : V} {f1 f2 : List Addr}, Ow K F H t v f1 → Ow K F' H t v f2 → f1 = f2
  | _, _, _, _, .fz _, .fz _ => rfl
  | _, _, _, _, .lst h r, .lst h' r' => by
    rw [h] at h'; cases h'
    rw [OwL.uniq r r']
  | _, _, _, _, .dT h l r, .dT h' l' r' => by
    rw [h] at h'
    have := zip_inj l l' (by injection (Option.some.inj h'))
    subst this
    rw [OwL.uniq r r']
  | _, _, _, _, .dK h l r, .dK h' l' r' => by
    rw [h] at h'
    have := zip_inj l l' (by injection (Option.some.inj h'))
    subst this
    rw [OwL.uniq r r']
  | _, _, _, _, .ins _ h _ l r, .ins _ h' _ l' r' => by
    rw [h] at h'
    have q := Option.some.inj h'
    injection q with q1 q2 q3
    have := zip_inj l l' q3
    subst this; subst q2
    rw [OwL.uniq r r']
theorem OwL.uniq {F F' H : Hp} : ∀ {ts : List OT} {vs : List V} {f1 f2 : List Addr}, OwL K F H ts vs f1 → OwL K F' H ts vs f2 → f1 = f2
  | _, _, _, _, .nil, .nil => rfl
  | _, _, _, _, .cons h r, .cons h' r' => by rw [Ow.uniq h h', OwL.uniq r r']
end
mutual
theorem Ow.ext {F F' H H' : Hp} (E : Ext F F') : ∀ {t : OT} {v : V} {fp : List Addr}, Ow K F H t v fp → (∀ a ∈ fp, H' a = H a) → Ow K F' H' t v fp
  | _, _, _, .fz q, _ => .fz (q.ext E)
  | _, _, _, .lst h r, k => .lst ((k _ List.mem_cons_self).trans h) (OwL.ext E r fun a ha => k a (List.mem_cons_of_mem _ ha))
  | _, _, _, .dT h l r, k => .dT ((k _ List.mem_cons_self).trans h) l (OwL.ext E r fun a ha => k a (List.mem_cons_of_mem _ ha))
  | _, _, _, .dK h l r, k => .dK ((k _ List.mem_cons_self).trans h) l (OwL.ext E r fun a ha => k a (List.mem_cons_of_mem _ ha))
  | _, _, _, .ins c h h2 l r, k => .ins c ((k _ List.mem_cons_self).trans h) ((k _ (List.mem_cons_of_mem _ List.mem_cons_self)).trans h2) l (OwL.ext E r fun a ha => k a (List.mem_cons_of_mem _ (List.mem_cons_of_mem _ ha)))
theorem OwL.ext {F F' H H' : Hp} (E : Ext F F') : ∀ {ts : List OT} {vs : List V} {fp : List Addr}, OwL K F H ts vs fp → (∀ a ∈ fp, H' a = H a) → OwL K F' H' ts vs fp
  | _, _, _, .nil, _ => .nil
  | _, _, _, .cons h r, k => .cons (Ow.ext E h fun a ha => k a (List.mem_append_left _ ha)) (OwL.ext E r fun a ha => k a (List.mem_append_right _ ha))
end
mutual
theorem Ow.some {F H : Hp} : ∀ {t : OT} {v : V} {fp : List Addr}, Ow K F H t v fp → ∀ a ∈ fp, H a ≠ none
  | _, _, _, .fz _, a, h => by cases h
  | _, _, _, .lst h r, a, ha => by
    rcases List.mem_cons.mp ha with rfl | ha
    · rw [h]; exact fun z => by cases z
    · exact OwL.some r a ha
  | _, _, _, .dT h _ r, a, ha => by
    rcases List.mem_cons.mp ha with rfl | ha
    · rw [h]; exact fun z => by cases z
    · exact OwL.some r a ha
  | _, _, _, .dK h _ r, a, ha => by
    rcases List.mem_cons.mp ha with rfl | ha
    · rw [h]; exact fun z => by cases z
    · exact OwL.some r a ha
  | _, _, _, .ins _ h h2 _ r, a, ha => by
    rcases List.mem_cons.mp ha with rfl | ha
    · rw [h]; exact fun z => by cases z
    · rcases List.mem_cons.mp ha with rfl | ha
      · rw [h2]; exact fun z => by cases z
      · exact OwL.some r a ha
theorem OwL.some {F H : Hp} : ∀ {ts : List OT} {vs : List V} {fp : List Addr}, OwL K F H ts vs fp → ∀ a ∈ fp, H a ≠ none
  | _, _, _, .nil, a, h => by cases h
  | _, _, _, .cons h r, a, ha => by
    rcases List.mem_append.mp ha with ha | ha
    · exact Ow.some h a ha
    · exact OwL.some r a ha
end
/-- what a name holds: data that lies still; a list of our own; one that is being walked; one that was handed in and may be changed -/
inductive Sv where
  | fz (d : D)
  | own (ds : List D)
  | lent (ds : List D)
  | io (ds : List D)
  | tr (io : Bool) (t : OT)
abbrev Env := List (Option Sv)
def Sv.mu : Sv → Bool
  | .own _ => true
  | .io _ => true
  | _ => false
/-- M: what others own (as in G); lam: where the lent (Ml) and the handed in lists stand -/
structure Cf where
  M : Addr → Prop
  G : Hp
  lam : Nat → Addr
  Ml : Nat → Prop
/-- F: what lies still; M: what others own (as in G); lam: where the lent and the handed in lists stand -/
def SvR (K : PySem.W.Frag) (C : Cf) (F H : Hp) (i : Nat) : Sv → V → Prop
  | .fz d, v => Dp K F v d
  | .own ds, v => ∃ p vs, v = .ref p ∧ H p = some (.lst vs) ∧ DpAll K F vs ds ∧ F p = none ∧ ¬ C.M p
  | .lent ds, v => ∃ vs, v = .ref (C.lam i) ∧ H (C.lam i) = some (.lst vs) ∧ DpAll K F vs ds ∧ C.Ml i
  | .io ds, v => ∃ vs, v = .ref (C.lam i) ∧ H (C.lam i) = some (.lst vs) ∧ DpAll K F vs ds ∧ F (C.lam i) = none ∧ ¬ C.M (C.lam i)
  | .tr b t, v => ∃ fp, Ow K F H t v fp ∧ fp.Nodup ∧ (∀ a ∈ fp, F a = none ∧ ¬ C.M a) ∧ (b = true → v = .ref (C.lam i) ∧ C.lam i ∈ fp)
/-- the thing at slot i is made of the objects at fp -/
def TrAt (K : PySem.W.Frag) (H : Hp) (e : Env) (σ : L2.St) (i : Nat) (fp : List Addr) : Prop := ∃ b t v F', e[i]? = some (some (.tr b t)) ∧ σ[i]? = some (some v) ∧ Ow K F' H t v fp
/-- no changeable name but those that i lies in stands at p -/
def Apart (e : Env) (σ : L2.St) (v : V) : Prop := ∀ (i : Nat) (x : Sv), e[i]? = some (some x) → x.mu = true → σ[i]? ≠ some (some v)
/-- .. nor is a thing of our own made of it -/
def ApT (K : PySem.W.Frag) (H : Hp) (e : Env) (σ : L2.St) (p : Addr) : Prop := ∀ i fp, TrAt K H e σ i fp → p ∉ fp
abbrev Apar (K : PySem.W.Frag) (H : Hp) (e : Env) (σ : L2.St) (p : Addr) : Prop := Apart e σ (.ref p) ∧ ApT K H e σ p
/-- every tuple lies still -/
def TupIn (F H : Hp) : Prop := ∀ a xs, H a = some (.tup xs) → F a = some (.tup xs)
theorem TupIn.mut {F H : Hp} {p : Addr} {o : HO} (h : TupIn F H) (ho : ∀ xs, o ≠ .tup xs) : TupIn F (upd H p o) := fun a xs e => by
  by_cases q : a = p
  · subst q; rw [upd_same] at e; exact absurd (Option.some.inj e) (ho xs)
  · rw [upd_ne q] at e; exact h a xs e
theorem TupIn.both {F H : Hp} {p : Addr} {o : HO} (h : TupIn F H) : TupIn (upd F p o) (upd H p o) := fun a xs e => by
  by_cases q : a = p
  · subst q; rw [upd_same] at e ⊢; exact e
  · rw [upd_ne q] at e ⊢; exact h a xs e
theorem TupIn.more {F H : Hp} {p : Addr} {o : HO} (h : TupIn F H) (hp : H p = some o) : TupIn (upd F p o) H := fun a xs e => by
  by_cases q : a = p
  · subst q; rw [upd_same, ← hp]; exact e
  · rw [upd_ne q]; exact h a xs e
structure Rp (K : PySem.W.Frag) (C : Cf) (F H : Hp) (e : Env) (σ : L2.St) : Prop where
  len : e.length = σ.length
  ext : Ext F H
  off : ∀ a, C.M a → F a = none
  frm : ∀ a, C.M a → H a = C.G a ∧ C.G a ≠ none
  sl : ∀ (i : Nat) (x : Sv), e[i]? = some (some x) → ∃ v, σ[i]? = some (some v) ∧ SvR K C F H i x v
  ml : ∀ i, C.Ml i → C.M (C.lam i)
  ne : ∀ (i j : Nat) (x y : Sv), i ≠ j → e[i]? = some (some x) → e[j]? = some (some y) → x.mu = true → y.mu = true → σ[i]? ≠ σ[j]?
  tn : ∀ (i : Nat) (fp : List Addr), TrAt K H e σ i fp → (∀ a ∈ fp, Apart e σ (.ref a)) ∧ ∀ (j : Nat) (fp' : List Addr), i ≠ j → TrAt K H e σ j fp' → ∀ a ∈ fp, a ∉ fp'
  tup : TupIn F H
/-- an expression's worth: data that lies still; a new list; a name whose list is read -/
inductive Rv where
  | fz (d : D)
  | fresh (ds : List D)
  | bor (i : Nat)
def RvR (K : PySem.W.Frag) (C : Cf) (F H : Hp) (e : Env) (σ : L2.St) : Rv → V → Prop
  | .fz d, v => Dp K F v d
  | .fresh ds, v => ∃ p vs, v = .ref p ∧ H p = some (.lst vs) ∧ DpAll K F vs ds ∧ F p = none ∧ ¬ C.M p ∧ Apar K H e σ p
  | .bor i, v => σ[i]? = some (some v)
variable {C : Cf} {F H : Hp} {e : Env} {σ : L2.St}
theorem Rp.trFp (R : Rp K C F H e σ) {i : Nat} {fp : List Addr} (h : TrAt K H e σ i fp) : (∀ a ∈ fp, F a = none ∧ ¬ C.M a ∧ H a ≠ none) ∧ fp.Nodup := by
  obtain ⟨b, t, v, F', he, hv, o⟩ := h
  obtain ⟨u, hu, fp', o', nd, hF, _⟩ := R.sl _ _ he
  rw [hv] at hu; cases hu
  cases o.uniq o'
  exact ⟨fun a ha => ⟨(hF a ha).1, (hF a ha).2, o'.some a ha⟩, nd⟩
/-- where the things stand is told alike in a later heap that keeps their objects -/
theorem Rp.trBack (R : Rp K C F H e σ) {H' : Hp} (k : ∀ a, H a ≠ none → F a = none → ¬ C.M a → (∃ i fp, TrAt K H e σ i fp ∧ a ∈ fp) → H' a = H a) {i : Nat} {fp : List Addr} (h : TrAt K H' e σ i fp) : TrAt K H e σ i fp := by
  obtain ⟨b, t, v, F', he, hv, o⟩ := h
  obtain ⟨u, hu, fp', o', nd, hF, _⟩ := R.sl _ _ he
  rw [hv] at hu; cases hu
  have T : TrAt K H e σ i fp' := ⟨b, t, v, F, he, hv, o'⟩
  have o2 : Ow K F H' t v fp' := o'.ext (.refl F) fun a ha => k a (o'.some a ha) (hF a ha).1 (hF a ha).2 ⟨i, fp', T, ha⟩
  cases o.uniq o2
  exact T
end VI
set_option Elab.async false
set_option linter.all false
set_option maxRecDepth 100000
set_option maxHeartbeats 4000000
namespace VI
open PySem PySem.Spec PyProof.Rows L2
variable {K : PySem.W.Frag} {C : Cf} {F H : Hp} {e e' : Env} {σ : L2.St}
/-- an error: its class by name, its fields -/
structure Xc where
  cls : Str
  fs : List (Str × D)
/-- what a step comes to -/
inductive Rs (α : Type) where
  | no
  | ok (a : α) (e : Env)
  | ex (x : Xc) (e : Env)
def Rs.bind {α β : Type} (r : Rs α) (f : α → Env → Rs β) : Rs β := match r with
  | .no => .no
  | .ok a e => f a e
  | .ex x e => .ex x e
def ofO {α : Type} (o : Option α) (e : Env) : Rs α := match o with
  | none => .no
  | some a => .ok a e
abbrev Sem1 (α : Type) := Env → Rs α
abbrev Ev := Sem1 Rv
theorem getset {α : Type} {l : List α} {i j : Nat} {x y : α} (h : (l.set i x)[j]? = some y) : (i = j ∧ x = y) ∨ (i ≠ j ∧ l[j]? = some y) := by
  by_cases q : i = j
  · subst q
    refine .inl ⟨rfl, ?_⟩
    rw [List.getElem?_set] at h
    simp only [if_true] at h
    split at h
    · exact Option.some.inj h
    · cases h
  · exact .inr ⟨q, by rw [List.getElem?_set_ne q] at h; exact h⟩
theorem SvR.ext {F' : Hp} (E : Ext F F') (hf : ∀ a, F a = none → ((C.M a ∨ ∃ (j : Nat) (y : Sv), e[j]? = some (some y) ∧ y.mu = true ∧ σ[j]? = some (some (V.ref a))) ∨ ∃ j fp, TrAt K H e σ j fp ∧ a ∈ fp) → F' a = none) {i : Nat} {x : Sv} {v : V} (he : e[i]? = some (some x)) (hv : σ[i]? = some (some v))
    (q : SvR K C F H i x v) : SvR K C F' H i x v := by
  cases x with
  | fz d => exact Dp.ext E q
  | own ds => obtain ⟨p, vs, rfl, h1, h2, h3, h4⟩ := q; exact ⟨p, vs, rfl, h1, h2.ext E, hf p h3 (.inl (.inr ⟨i, _, he, rfl, hv⟩)), h4⟩
  | lent ds => obtain ⟨vs, rfl, h1, h2, h3⟩ := q; exact ⟨vs, rfl, h1, h2.ext E, h3⟩
  | io ds => obtain ⟨vs, rfl, h1, h2, h3, h4⟩ := q; exact ⟨vs, rfl, h1, h2.ext E, hf _ h3 (.inl (.inr ⟨i, _, he, rfl, hv⟩)), h4⟩
  | tr b t => obtain ⟨fp, o, nd, h, hb⟩ := q; exact ⟨fp, o.ext E fun _ _ => rfl, nd, fun a ha => ⟨hf a (h a ha).1 (.inr ⟨i, fp, ⟨b, t, v, F, he, hv, o⟩, ha⟩), (h a ha).2⟩, hb⟩
/-- fewer things, no other -/
theorem tn_sub {e2 : Env} {σ2 : L2.St} (tn : ∀ (i : Nat) (fp : List Addr), TrAt K H e σ i fp → (∀ a ∈ fp, Apart e σ (.ref a)) ∧ ∀ (j : Nat) (fp' : List Addr), i ≠ j → TrAt K H e σ j fp' → ∀ a ∈ fp, a ∉ fp')
    (ht : ∀ (j : Nat) (y : Bool × OT), e2[j]? = some (some (Sv.tr y.1 y.2)) → e[j]? = some (some (Sv.tr y.1 y.2))) (hm : ∀ (j : Nat) (y : Sv), e2[j]? = some (some y) → y.mu = true → ∃ y' : Sv, e[j]? = some (some y') ∧ y'.mu = true ∧ σ2[j]? = σ[j]?)
    (hv : ∀ (j : Nat) (y : Bool × OT), e2[j]? = some (some (Sv.tr y.1 y.2)) → σ2[j]? = σ[j]? := by intros; rfl) :
    ∀ (i : Nat) (fp : List Addr), TrAt K H e2 σ2 i fp → (∀ a ∈ fp, Apart e2 σ2 (.ref a)) ∧ ∀ (j : Nat) (fp' : List Addr), i ≠ j → TrAt K H e2 σ2 j fp' → ∀ a ∈ fp, a ∉ fp' := fun i fp h => by
  have up : ∀ {i fp}, TrAt K H e2 σ2 i fp → TrAt K H e σ i fp := fun {i fp} h => by
    obtain ⟨b, t, v, F', he, hv', o⟩ := h
    exact ⟨b, t, v, F', ht i (b, t) he, by rw [← hv i (b, t) he]; exact hv', o⟩
  obtain ⟨h1, h2⟩ := tn i fp (up h)
  refine ⟨fun a ha j y hy my hs => ?_, fun j fp' hj h' => h2 j fp' hj (up h')⟩
  obtain ⟨y', k1, k2, k3⟩ := hm j y hy my
  exact h1 a ha j y' k1 k2 (by rw [← k3]; exact hs)
/-- what lies still grows by the object at p -/
theorem Rp.more (R : Rp K C F H e σ) {p : Addr} {o : HO} (hp : H p = some o) (hF : F p = none) (hM : ¬ C.M p) (ap : Apar K H e σ p) : Rp K C (upd F p o) H e σ := by
  refine ⟨R.len, fun a u h => ?_, fun a ha => ?_, R.frm, fun i x hx => ?_, R.ml, R.ne, R.tn, R.tup.more hp⟩
  · by_cases q : a = p
    · subst q; rw [upd_same] at h; rw [hp]; exact h
    · rw [upd_ne q] at h; exact R.ext a u h
  · rw [upd_ne (show a ≠ p from fun z => hM (z ▸ ha))]; exact R.off a ha
  · obtain ⟨v, hv, q⟩ := R.sl i x hx
    refine ⟨v, hv, SvR.ext (e := e) (σ := σ) (Ext.new hF) (fun a h0 h1 => ?_) hx hv q⟩
    rcases h1 with (h1 | ⟨j, y, h2, h3, h4⟩) | ⟨j, fp, h2, h3⟩
    · rw [upd_ne (show a ≠ p from fun z => hM (z ▸ h1))]; exact h0
    · rw [upd_ne (show a ≠ p from fun z => ap.1 j y h2 h3 (z ▸ h4))]; exact h0
    · rw [upd_ne (show a ≠ p from fun z => ap.2 j fp h2 (z ▸ h3))]; exact h0
/-- a name's own list comes to rest -/
theorem Rp.rest (R : Rp K C F H e σ) {i : Nat} {ds : List D} (h : e[i]? = some (some (.own ds))) : ∃ F' v, Rp K C F' H (e.set i (some (.fz (.list ds)))) σ ∧ Ext F F' ∧ σ[i]? = some (some v) ∧ Dp K F' v (.list ds) := by
  obtain ⟨v, hv, p, vs, rfl, hp, hd, hF, hM⟩ := R.sl _ _ h
  have E : Ext F (upd F p (.lst vs)) := Ext.new hF
  have dp : Dp K (upd F p (.lst vs)) (.ref p) (.list ds) := .lst (.of upd_same) (hd.ext E)
  refine ⟨upd F p (.lst vs), .ref p, ⟨by rw [List.length_set]; exact R.len, fun a u ha => ?_, fun a ha => ?_, R.frm, fun j x hx => ?_, R.ml, fun j k x y hjk hx hy mx my => ?_, tn_sub R.tn (fun j y hy => ?_) (fun j y hy my => ?_), R.tup.more hp⟩, E, hv, dp⟩
  · by_cases q : a = p
    · subst q; rw [upd_same] at ha; rw [hp]; exact ha
    · rw [upd_ne q] at ha; exact R.ext a u ha
  · rw [upd_ne (show a ≠ p from fun z => hM (z ▸ ha))]; exact R.off a ha
  · rcases getset hx with ⟨rfl, hx'⟩ | ⟨hj, hx⟩
    · cases hx'; exact ⟨_, hv, dp⟩
    · obtain ⟨w, hw, q⟩ := R.sl j x hx
      refine ⟨w, hw, ?_⟩
      cases x with
      | fz d => exact Dp.ext E q
      | own ds' =>
        obtain ⟨p', vs', rfl, h1, h2, h3, h4⟩ := q
        have : p' ≠ p := fun z => R.ne i j _ _ hj h hx rfl rfl (by rw [hv, hw, z])
        exact ⟨p', vs', rfl, h1, h2.ext E, by rw [upd_ne this]; exact h3, h4⟩
      | lent ds' => obtain ⟨vs', rfl, h1, h2, h3⟩ := q; exact ⟨vs', rfl, h1, h2.ext E, h3⟩
      | io ds' =>
        obtain ⟨vs', rfl, h1, h2, h3, h4⟩ := q
        have : C.lam j ≠ p := fun z => R.ne i j _ _ hj h hx rfl rfl (by rw [hv, hw, z])
        exact ⟨vs', rfl, h1, h2.ext E, by rw [upd_ne this]; exact h3, h4⟩
      | tr b t =>
        obtain ⟨fp, o, nd, h, hb⟩ := q
        refine ⟨fp, o.ext E fun _ _ => rfl, nd, fun a ha => ⟨?_, (h a ha).2⟩, hb⟩
        have : a ≠ p := fun z => (R.tn j fp ⟨b, t, w, F, hx, hw, o⟩).1 a ha i _ ‹_› rfl (by rw [hv, z])
        rw [upd_ne this]; exact (h a ha).1
  · rcases getset hx with ⟨rfl, hx'⟩ | ⟨hj, hx⟩
    · cases hx'; cases mx
    · rcases getset hy with ⟨rfl, hy'⟩ | ⟨hk, hy⟩
      · cases hy'; cases my
      · exact R.ne j k x y hjk hx hy mx my
  · rcases getset hy with ⟨rfl, hy'⟩ | ⟨hj, hy⟩
    · cases hy'
    · exact hy
  · rcases getset hy with ⟨rfl, hy'⟩ | ⟨hj, hy⟩
    · cases hy'; cases my
    · exact ⟨_, hy, my, rfl⟩
def look (e : Env) (i : Nat) : Option D := match e[i]? with
  | some (some (.fz d)) => some d
  | some (some (.own ds)) => some (.list ds)
  | some (some (.lent ds)) => some (.list ds)
  | some (some (.io ds)) => some (.list ds)
  | _ => none
def peek : Rv → Env → Option D
  | .fz d, _ => some d
  | .fresh ds, _ => some (.list ds)
  | .bor i, e => look e i
def frz : Rv → Env → Rs D
  | .fz d, e => .ok d e
  | .fresh ds, e => .ok (.list ds) e
  | .bor i, e => match e[i]? with
    | some (some (.fz d)) => .ok d e
    | some (some (.own ds)) => .ok (.list ds) (e.set i (some (.fz (.list ds))))
    | _ => .no
def toD (a : Ev) : Sem1 D := fun e => (a e).bind frz
/-- as an operand: a new list has come to rest -/
def calmR : Rv → Rv
  | .fresh ds => .fz (.list ds)
  | r => r
def opd (a : Ev) : Ev := fun e => (a e).bind fun x e1 => .ok (calmR x) e1
/-- no new list -/
def Rv.still : Rv → Bool
  | .fresh _ => false
  | _ => true
theorem calm_still (r : Rv) : (calmR r).still = true := by cases r <;> rfl
/-- the written part, what is wanted of an error at given slots, how an error lies -/
structure Wd where
  K : PySem.W.Frag
  W : WX
  XR : Hp → Hp → Xc → Value → Option Addr → Prop
def Post {α β : Type} (w : Wd) (RA : Cf → Hp → Hp → Env → L2.St → α → β → Prop) (C : Cf) (F : Hp) (σ : L2.St) (Q : β → Hp → Prop) : Rs α → Prop
  | .no => False
  | .ok a e' => ∀ v F' H', Rp w.K C F' H' e' σ → Ext F F' → RA C F' H' e' σ a v → Q v H'
  | .ex x e' => ∀ F' H' cv od, Rp w.K C F' H' e' σ → Ext F F' → w.XR F' H' x cv od → w.W cv od σ H'
def Rd {α β : Type} (w : Wd) (RA : Cf → Hp → Hp → Env → L2.St → α → β → Prop) (a : Sem1 α) : L2.St → Hp → (β → Hp → Prop) → Prop := fun σ H Q =>
  ∃ C F e, Rp w.K C F H e σ ∧ Post w RA C F σ Q (a e)
section
variable {w : Wd} {α β γ δ : Type} {RA : Cf → Hp → Hp → Env → L2.St → α → β → Prop} {RB : Cf → Hp → Hp → Env → L2.St → γ → δ → Prop}
theorem Post.mono {F1 : Hp} (E : Ext F F1) {Q : β → Hp → Prop} {r : Rs α} (h : Post w RA C F σ Q r) : Post w RA C F1 σ Q r := by
  cases r with
  | no => exact h
  | ok a e' => exact fun v F' H' R E' q => h v F' H' R (E.trans E') q
  | ex x e' => exact fun F' H' cv od R E' q => h F' H' cv od R (E.trans E') q
theorem bindP {Q : δ → Hp → Prop} {Q1 : β → Hp → Prop} {a : Sem1 α} {f : α → Env → Rs γ} (R : Rp w.K C F H e σ) (P : Post w RB C F σ Q ((a e).bind f))
    (k : ∀ F1 H1 e1 x v, a e = .ok x e1 → Rp w.K C F1 H1 e1 σ → Ext F F1 → RA C F1 H1 e1 σ x v → Post w RB C F1 σ Q (f x e1) → Q1 v H1) : Rd w RA a σ H Q1 := by
  refine ⟨C, F, e, R, ?_⟩
  cases h1 : a e with
  | no => rw [h1] at P; exact False.elim P
  | ok x e1 =>
    rw [h1] at P
    exact fun v F' H' R' E q => k F' H' e1 x v h1 R' E q (Post.mono E P)
  | ex x e1 => rw [h1] at P; exact fun F' H' cv od R E q => P F' H' cv od R E q
end
abbrev RD (K : PySem.W.Frag) : Cf → Hp → Hp → Env → L2.St → D → V → Prop := fun _ F _ _ _ d v => Dp K F v d
abbrev RB : Cf → Hp → Hp → Env → L2.St → Bool → Bool → Prop := fun _ _ _ _ _ a b => a = b
abbrev RR (K : PySem.W.Frag) : Cf → Hp → Hp → Env → L2.St → Rv → V → Prop := fun C F H e σ r v => RvR K C F H e σ r v
abbrev rdR (w : Wd) (a : Ev) : TE := Rd w (RR w.K) a
abbrev rdD (w : Wd) (a : Sem1 D) : TE := Rd w (RD w.K) a
abbrev rdT (w : Wd) (a : Sem1 Bool) : TT := Rd w RB a
theorem pe_mono {X : Cx} {ex : Expr} {t t' : TE} (h : PE X ex t) (w : ∀ σ H Q, t' σ H Q → t σ H Q) : PE X ex t' := ⟨fun pins s σ H Q I q => h.run pins s σ H Q I (w σ H Q q)⟩
theorem pt_mono {X : Cx} {ex : Expr} {t t' : TT} (h : PT X ex t) (w : ∀ σ H Q, t' σ H Q → t σ H Q) : PT X ex t' := ⟨fun pins s σ H Q I q => h.run pins s σ H Q I (w σ H Q q)⟩
theorem pa_mono {X : Cx} {ex : List Expr} {t t' : TA} (h : PA X ex t) (w : ∀ σ H Q, t' σ H Q → t σ H Q) : PA X ex t' := ⟨fun pos pins s σ H Q I q => h.run pos pins s σ H Q I (w σ H Q q)⟩
theorem ps_mono {X : Cx} {st : Stmt} {t t' : TS} (h : PS X st t) (w : ∀ D σ H, t' D σ H → t D σ H) : PS X st t' := ⟨fun pins s σ H Q I q => h.run pins s σ H Q I (w Q σ H q)⟩
theorem pss_mono {X : Cx} {st : List Stmt} {t t' : TS} (h : PSs X st t) (w : ∀ D σ H, t' D σ H → t D σ H) : PSs X st t' := ⟨fun pins s σ H Q I q => h.run pins s σ H Q I (w Q σ H q)⟩
/-- a new list comes to rest -/
theorem RvR.rest (R : Rp K C F H e σ) {ds : List D} {v : V} (h : RvR K C F H e σ (.fresh ds) v) : ∃ F', Rp K C F' H e σ ∧ Ext F F' ∧ Dp K F' v (.list ds) := by
  obtain ⟨p, vs, rfl, hp, hd, hF, hM, ap⟩ := h
  exact ⟨upd F p (.lst vs), R.more hp hF hM ap, Ext.new hF, .lst (.of upd_same) (hd.ext (Ext.new hF))⟩
theorem RvR.calm (R : Rp K C F H e σ) {r : Rv} {v : V} (h : RvR K C F H e σ r v) : ∃ F', Rp K C F' H e σ ∧ Ext F F' ∧ RvR K C F' H e σ (calmR r) v := by
  cases r with
  | fz d' => exact ⟨F, R, .refl F, h⟩
  | fresh ds => exact h.rest R
  | bor i => exact ⟨F, R, .refl F, h⟩
section
variable {w : Wd}
theorem Post.calm {r : Rv} {v : V} (R : Rp w.K C F H e σ) (h : RvR w.K C F H e σ r v) {Q : V → Hp → Prop} (P : Post w (RR w.K) C F σ Q (.ok (calmR r) e)) : Q v H := by
  obtain ⟨F2, R2, E2, q2⟩ := h.calm R
  exact P v F2 H R2 E2 q2
theorem Post.frz {r : Rv} {v : V} (R : Rp w.K C F H e σ) (h : RvR w.K C F H e σ r v) {Q : V → Hp → Prop} (P : Post w (RD w.K) C F σ Q (frz r e)) : Q v H := by
  cases r with
  | fz d' => exact P v F H R (.refl F) h
  | fresh ds =>
    obtain ⟨F2, R2, E2, q2⟩ := h.rest R
    exact P v F2 H R2 E2 q2
  | bor i =>
    unfold VI.frz at P
    simp only at P
    have h' : σ[i]? = some (some v) := h
    split at P
    · rename_i d' hd
      obtain ⟨w, hw, z⟩ := R.sl _ _ hd
      rw [h'] at hw; cases hw
      exact P v F H R (.refl F) z
    · rename_i ds hd
      obtain ⟨F', w, R', E, hw, z⟩ := R.rest hd
      rw [h'] at hw; cases hw
      exact P v F' H R' E z
    · exact P.elim
theorem rd_toD {a : Ev} {Q : VK} (h : rdD w (toD a) σ H Q) : rdR w a σ H Q := by
  obtain ⟨C, F, e, R, P⟩ := h
  exact bindP R P fun _ _ _ _ _ _ R _ q P => P.frz R q
theorem rd_opd {a : Ev} {Q : VK} (h : rdR w (opd a) σ H Q) : rdR w a σ H Q := by
  obtain ⟨C, F, e, R, P⟩ := h
  exact bindP R P fun _ _ _ _ _ _ R _ q P => P.calm R q
theorem opd_still {a : Ev} {e e' : Env} {r : Rv} (h : opd a e = .ok r e') : r.still = true := by
  unfold opd at h
  cases h1 : a e with
  | no => rw [h1] at h; cases h
  | ok x e1 => rw [h1] at h; cases h; exact calm_still x
  | ex x e1 => rw [h1] at h; cases h
end
/-- what is no new list stays what it is -/
theorem RvR.later {e e' : Env} {F' H' : Hp} {r : Rv} {v : V} (hs : r.still = true) (E : Ext F F') (h : RvR K C F H e σ r v) : RvR K C F' H' e' σ r v := by
  cases r with
  | fz d => exact Dp.ext E h
  | fresh ds => cases hs
  | bor i => exact h
theorem RvR.peek (R : Rp K C F H e σ) {r : Rv} {v : V} {d : D} (hs : r.still = true) (h : RvR K C F H e σ r v) (q : peek r e = some d) : Dh K F H v d := by
  cases r with
  | fz d' => cases q; exact Dp.dh R.ext h
  | fresh ds => cases hs
  | bor i =>
    have h' : σ[i]? = some (some v) := h
    have q' : look e i = some d := q
    unfold look at q'
    split at q' <;> first | (cases q'; done) | skip
    all_goals
      cases q'
      rename_i hs
      obtain ⟨w, hw, q⟩ := R.sl _ _ hs
      rw [h'] at hw; cases hw
    · exact Dp.dh R.ext q
    · obtain ⟨p, vs, rfl, hp, hd, _⟩ := q; exact .lst (.of hp) hd
    · obtain ⟨vs, rfl, hp, hd, _⟩ := q; exact .lst (.of hp) hd
    · obtain ⟨vs, rfl, hp, hd, _⟩ := q; exact .lst (.of hp) hd
inductive Res (K : PySem.W.Frag) (F H : Hp) : Rv → V → Hp → Prop
  | old {v : V} {d : D} : Dp K F v d → Res K F H (.fz d) v H
  | tup {p : Addr} {zs : List V} {ds : List D} : H p = none → DpAll K F zs ds → Res K F H (.fz (.tuple ds)) (.ref p) (upd H p (.tup zs))
  | lst {p : Addr} {zs : List V} {ds : List D} : H p = none → DpAll K F zs ds → Res K F H (.fresh ds) (.ref p) (upd H p (.lst zs))
/-- a new object that lies still at once -/
theorem Rp.growT (R : Rp K C F H e σ) {p : Addr} {o : HO} (hp : H p = none) : Rp K C (upd F p o) (upd H p o) e σ := by
  have hM : ¬ C.M p := fun h => (R.frm p h).2 ((R.frm p h).1 ▸ hp)
  have hF : F p = none := R.ext.free hp
  have keep : ∀ a u, H a = some u → upd H p o a = some u := fun a u h => by rw [upd_ne (ne_of_none h hp)]; exact h
  have keepT : ∀ a, H a ≠ none → upd H p o a = H a := fun a h => upd_ne (fun z => h (z ▸ hp))
  have nF : ∀ a, H a ≠ none → F a = none → upd F p o a = none := fun a h h' => by rw [upd_ne (show a ≠ p from fun z => h (z ▸ hp))]; exact h'
  refine ⟨R.len, R.ext.both, fun a ha => ?_, fun a ha => ?_, fun i x hx => ?_, R.ml, R.ne, fun i fp h => ?_, R.tup.both⟩
  · rw [upd_ne (show a ≠ p from fun z => hM (z ▸ ha))]; exact R.off a ha
  · rw [upd_ne (show a ≠ p from fun z => hM (z ▸ ha))]; exact R.frm a ha
  · obtain ⟨v, hv, q⟩ := R.sl i x hx
    refine ⟨v, hv, ?_⟩
    have E : Ext F (upd F p o) := Ext.new hF
    cases x with
    | fz d => exact Dp.ext E q
    | own ds => obtain ⟨p', vs, rfl, h1, h2, h3, h4⟩ := q; exact ⟨p', vs, rfl, keep _ _ h1, h2.ext E, nF _ (by rw [h1]; exact fun z => by cases z) h3, h4⟩
    | lent ds => obtain ⟨vs, rfl, h1, h2, h3⟩ := q; exact ⟨vs, rfl, keep _ _ h1, h2.ext E, h3⟩
    | io ds => obtain ⟨vs, rfl, h1, h2, h3, h4⟩ := q; exact ⟨vs, rfl, keep _ _ h1, h2.ext E, nF _ (by rw [h1]; exact fun z => by cases z) h3, h4⟩
    | tr b t => obtain ⟨fp, o', nd, h, hb⟩ := q; exact ⟨fp, o'.ext E fun a ha => keepT a (o'.some a ha), nd, fun a ha => ⟨nF a (o'.some a ha) (h a ha).1, (h a ha).2⟩, hb⟩
  · obtain ⟨h1, h2⟩ := R.tn i fp (R.trBack (fun a h _ _ _ => keepT a h) h)
    exact ⟨h1, fun j fp' hj h' => h2 j fp' hj (R.trBack (fun a h _ _ _ => keepT a h) h')⟩
theorem Rp.grow (R : Rp K C F H e σ) {p : Addr} {o : HO} (hp : H p = none) (ho : ∀ xs, o ≠ .tup xs := by intro xs z; cases z) : Rp K C F (upd H p o) e σ ∧ ¬ C.M p ∧ F p = none ∧ Apar K (upd H p o) e σ p := by
  have hM : ¬ C.M p := fun h => (R.frm p h).2 ((R.frm p h).1 ▸ hp)
  have keep : ∀ a u, H a = some u → upd H p o a = some u := fun a u h => by rw [upd_ne (ne_of_none h hp)]; exact h
  have keepT : ∀ a, H a ≠ none → upd H p o a = H a := fun a h => upd_ne (fun z => h (z ▸ hp))
  refine ⟨⟨R.len, fun a u h => keep a u (R.ext a u h), R.off, fun a ha => ?_, fun i x hx => ?_, R.ml, R.ne, fun i fp h => ?_, R.tup.mut ho⟩, hM, R.ext.free hp, fun i x hx mx hv => ?_, fun i fp h hp' => ?_⟩
  · rw [upd_ne (show a ≠ p from fun z => hM (z ▸ ha))]; exact R.frm a ha
  · obtain ⟨v, hv, q⟩ := R.sl i x hx
    refine ⟨v, hv, ?_⟩
    cases x with
    | fz d => exact q
    | own ds => obtain ⟨p', vs, rfl, h1, h2⟩ := q; exact ⟨p', vs, rfl, keep _ _ h1, h2⟩
    | lent ds => obtain ⟨vs, rfl, h1, h2⟩ := q; exact ⟨vs, rfl, keep _ _ h1, h2⟩
    | io ds => obtain ⟨vs, rfl, h1, h2⟩ := q; exact ⟨vs, rfl, keep _ _ h1, h2⟩
    | tr b t => obtain ⟨fp, o, q⟩ := q; exact ⟨fp, o.ext (.refl F) fun a ha => keepT a (o.some a ha), q⟩
  · obtain ⟨h1, h2⟩ := R.tn i fp (R.trBack (fun a h _ _ _ => keepT a h) h)
    exact ⟨h1, fun j fp' hj h' => h2 j fp' hj (R.trBack (fun a h _ _ _ => keepT a h) h')⟩
  · obtain ⟨v, hv', q⟩ := R.sl i x hx
    rw [hv] at hv'; cases hv'
    cases x with
    | fz d => cases mx
    | own ds => obtain ⟨p', vs, h0, h1, h2⟩ := q; cases h0; rw [hp] at h1; cases h1
    | lent ds => cases mx
    | io ds => obtain ⟨vs, h0, h1, h2⟩ := q; cases h0; rw [hp] at h1; cases h1
    | tr b t => cases mx
  · exact ((R.trFp (R.trBack (fun a h _ _ _ => keepT a h) h)).1 p hp').2.2 hp
theorem Res.rp (R : Rp K C F H e σ) {r : Rv} {v : V} {H' : Hp} (h : Res K F H r v H') : ∃ F', Rp K C F' H' e σ ∧ Ext F F' ∧ RvR K C F' H' e σ r v := by
  cases h with
  | old h => exact ⟨F, R, .refl F, h⟩
  | tup hp hd =>
    have hF := R.ext.free hp
    exact ⟨_, R.growT hp, Ext.new hF, .tup upd_same (hd.ext (Ext.new hF))⟩
  | lst hp hd =>
    obtain ⟨R', hM, hF, ap⟩ := R.grow (o := .lst _) hp
    exact ⟨F, R', .refl F, _, _, rfl, upd_same, hd, hF, hM, ap⟩
theorem Post.res {w : Wd} (R : Rp w.K C F H e σ) {r : Rv} {v : V} {H' : Hp} (h : Res w.K F H r v H') {Q : V → Hp → Prop} (P : Post w (RR w.K) C F σ Q (.ok r e)) : Q v H' := by
  obtain ⟨F', R', E, q⟩ := h.rp R
  exact P v F' H' R' E q
theorem post_ofO {α β : Type} {w : Wd} {RA : Cf → Hp → Hp → Env → L2.St → α → β → Prop} {Q : β → Hp → Prop} {o : Option α} (P : Post w RA C F σ Q (ofO o e)) : ∃ a, o = some a ∧ Post w RA C F σ Q (.ok a e) := by
  cases o with
  | none => exact False.elim P
  | some a => exact ⟨a, rfl, P⟩
abbrev F2 := D → D → Option Rv
abbrev F1 := D → Option Rv
def ap2 (f : F2) (x y : Rv) (e : Env) : Option Rv := (peek x e).bind fun dx => (peek y e).bind fun dy => f dx dy
def ap1 (f : F1) (x : Rv) (e : Env) : Option Rv := (peek x e).bind fun dx => f dx
def bin2 (f : F2) (a b : Ev) : Ev := fun e => (opd a e).bind fun x e1 => (opd b e1).bind fun y e2 => ofO (ap2 f x y e2) e2
def un1 (f : F1) (a : Ev) : Ev := fun e => (opd a e).bind fun x e1 => ofO (ap1 f x e1) e1
def OpS (K : PySem.W.Frag) (f : F2) (r : R2) : Prop := ∀ F H x y dx dy z, Ext F H → Dh K F H x dx → Dh K F H y dy → f dx dy = some z → ∀ Q : VK, (∀ v H', Res K F H z v H' → Q v H') → r x y H Q
def UnS (K : PySem.W.Frag) (f : F1) (r : V → Hp → VK → Prop) : Prop := ∀ F H x dx z, Ext F H → Dh K F H x dx → f dx = some z → ∀ Q : VK, (∀ v H', Res K F H z v H' → Q v H') → r x H Q
theorem ap2_some {f : F2} {x y z : Rv} (h : ap2 f x y e = some z) : ∃ dx dy, peek x e = some dx ∧ peek y e = some dy ∧ f dx dy = some z := by
  obtain ⟨dx, h1, h⟩ := Option.bind_eq_some_iff.mp h
  obtain ⟨dy, h2, h⟩ := Option.bind_eq_some_iff.mp h
  exact ⟨dx, dy, h1, h2, h⟩
theorem ap1_some {f : F1} {x z : Rv} (h : ap1 f x e = some z) : ∃ dx, peek x e = some dx ∧ f dx = some z := Option.bind_eq_some_iff.mp h
theorem rd_bin2 {w : Wd} {f : F2} {r : R2} {a b : Ev} (hs : OpS w.K f r) {Q : VK} (h : rdR w (bin2 f a b) σ H Q) : tOp r (rdR w a) (rdR w b) σ H Q := by
  obtain ⟨C, F, e, R, P⟩ := h
  refine rd_opd (bindP R P fun F1 H1 e1 x v1 h1 R1 E1 q1 P1 => ?_)
  refine rd_opd (bindP R1 P1 fun F2 H2 e2 y v2 h2 R2 E2 q2 P2 => ?_)
  obtain ⟨z, hz, P3⟩ := post_ofO P2
  obtain ⟨dx, dy, hx, hy, hf⟩ := ap2_some hz
  exact hs F2 H2 v1 v2 dx dy z R2.ext (RvR.peek R2 (opd_still h1) (RvR.later (opd_still h1) E2 q1) hx) (RvR.peek R2 (opd_still h2) q2 hy) hf Q fun v H' q => P3.res R2 q
theorem rd_un1 {w : Wd} {f : F1} {r : V → Hp → VK → Prop} {a : Ev} (hs : UnS w.K f r) {Q : VK} (h : rdR w (un1 f a) σ H Q) : rdR w a σ H fun x H1 => r x H1 Q := by
  obtain ⟨C, F, e, R, P⟩ := h
  refine rd_opd (bindP R P fun F1 H1 e1 x v1 h1 R1 E1 q1 P1 => ?_)
  obtain ⟨z, hz, P3⟩ := post_ofO P1
  obtain ⟨dx, hx, hf⟩ := ap1_some hz
  exact hs F1 H1 v1 dx z R1.ext (RvR.peek R1 (opd_still h1) q1 hx) hf Q fun v H' q => P3.res R1 q
section
variable {w : Wd} {X : Cx} {a b : Expr} {ea eb : Ev} {pos : Pos}
theorem ve_bin {op : Operator} {f : F2} {r : R2} (ho : OpR X (binaryOp op) r) (hs : OpS w.K f r) (ha : PE X a (rdR w ea)) (hb : PE X b (rdR w eb)) : PE X (.BinOp a op b pos) (rdR w (bin2 f ea eb)) :=
  pe_mono (pe_op ho ha hb) fun _ _ _ h => rd_bin2 hs h
theorem ve_un {op : UnaryOp} {f : F1} {r : V → Hp → VK → Prop} (ho : UnR X (unaryOp op) r) (hs : UnS w.K f r) (ha : PE X a (rdR w ea)) : PE X (.UnaryOp op a pos) (rdR w (un1 f ea)) :=
  pe_mono (pe_un ho ha) fun _ _ _ h => rd_un1 hs h
theorem ve_cmp {op : CmpOp} {f : F2} {r : R2} (ho : OpR X (compareOp op) r) (hs : OpS w.K f r) (ha : PE X a (rdR w ea)) (hb : PE X b (rdR w eb)) (hm : behindInMarks op b = false) : PE X (.Compare a [op] [b] pos) (rdR w (bin2 f ea eb)) :=
  pe_mono (pe_cmpR ho ha hb hm) fun _ _ _ h => rd_bin2 hs h
theorem ve_ix {f : F2} {r : R2} (hr : IxR X r) (hs : OpS w.K f r) (ha : PE X a (rdR w ea)) (hb : PE X b (rdR w eb)) (hx : PlainIx b) : PE X (.Subscript a b pos) (rdR w (bin2 f ea eb)) :=
  pe_mono (pe_ix hr ha hb hx) fun _ _ _ h => rd_bin2 hs h
end
end VI
set_option Elab.async false
set_option linter.all false
set_option maxRecDepth 100000
set_option maxHeartbeats 4000000
namespace VI
open PySem PySem.Spec PyProof.Rows L2
variable {K : PySem.W.Frag} {C : Cf} {F H : Hp} {e e' : Env} {σ : L2.St}
/-- a one-step reading with what is known -/
theorem Post.ok' {α β : Type} {w : Wd} {RA : Cf → Hp → Hp → Env → L2.St → α → β → Prop} {Q : β → Hp → Prop} {a : α} (P : Post w RA C F σ Q (.ok a e)) (R : Rp w.K C F H e σ) {v : β} (q : RA C F H e σ a v) : Q v H := P v F H R (.refl F) q
def eV (i : Nat) : Ev := fun e => match e[i]? with
  | some (some (.fz d)) => .ok (.fz d) e
  | some (some _) => .ok (.bor i) e
  | _ => .no
def eC (d : D) : Ev := fun e => .ok (.fz d) e
theorem rd_var {w : Wd} {i : Nat} {Q : VK} (h : rdR w (eV i) σ H Q) : tVar i σ H Q := by
  obtain ⟨C, F, e, R, P⟩ := h
  unfold eV at P
  split at P
  · rename_i d hd
    obtain ⟨v, hv, q⟩ := R.sl _ _ hd
    exact ⟨v, hv, P.ok' R q⟩
  · rename_i x hn hx
    obtain ⟨v, hv, q⟩ := R.sl _ _ hx
    exact ⟨v, hv, P.ok' R (show RvR _ _ _ _ _ _ (.bor i) v from hv)⟩
  · exact P.elim
theorem rd_c {w : Wd} {d : D} {v : V} (hd : ∀ F, Dp w.K F v d) {Q : VK} (h : rdR w (eC d) σ H Q) : tC v σ H Q := by
  obtain ⟨C, F, e, R, P⟩ := h
  exact P.ok' R (hd F)
def opds : List Ev → Sem1 (List Rv)
  | [] => fun e => .ok [] e
  | a :: as => fun e => (opd a e).bind fun x e1 => (opds as e1).bind fun xs e2 => .ok (x :: xs) e2
def toDs : List Ev → Sem1 (List D)
  | [] => fun e => .ok [] e
  | a :: as => fun e => (toD a e).bind fun x e1 => (toDs as e1).bind fun xs e2 => .ok (x :: xs) e2
abbrev RRs (K : PySem.W.Frag) : Cf → Hp → Hp → Env → L2.St → List Rv → List V → Prop := fun C F H e σ rs vs => Paired (fun r v => r.still = true ∧ RvR K C F H e σ r v) rs vs
abbrev RDs (K : PySem.W.Frag) : Cf → Hp → Hp → Env → L2.St → List D → List V → Prop := fun _ F _ _ _ ds vs => DpAll K F vs ds
abbrev rdRs (w : Wd) (a : Sem1 (List Rv)) : TA := Rd w (RRs w.K) a
abbrev rdDs (w : Wd) (a : Sem1 (List D)) : TA := Rd w (RDs w.K) a
theorem rd_opds_nil {w : Wd} {Q : List V → Hp → Prop} (h : rdRs w (opds []) σ H Q) : tNil σ H Q := by
  obtain ⟨C, F, e, R, P⟩ := h
  exact P.ok' R .nil
theorem rd_opds_cons {w : Wd} {a : Ev} {as : List Ev} {Q : List V → Hp → Prop} (h : rdRs w (opds (a :: as)) σ H Q) : tCons (rdR w a) (rdRs w (opds as)) σ H Q := by
  obtain ⟨C, F, e, R, P⟩ := h
  refine rd_opd (bindP R P fun F1 H1 e1 x v1 h1 R1 E1 q1 P1 => ?_)
  refine bindP R1 P1 fun F2 H2 e2 xs vs h2 R2 E2 q2 P2 => ?_
  exact P2.ok' R2 (.cons ⟨opd_still h1, RvR.later (opd_still h1) E2 q1⟩ q2)
theorem rd_toDs_nil {w : Wd} {Q : List V → Hp → Prop} (h : rdDs w (toDs []) σ H Q) : tNil σ H Q := by
  obtain ⟨C, F, e, R, P⟩ := h
  exact P.ok' R .nil
theorem rd_toDs_cons {w : Wd} {a : Ev} {as : List Ev} {Q : List V → Hp → Prop} (h : rdDs w (toDs (a :: as)) σ H Q) : tCons (rdR w a) (rdDs w (toDs as)) σ H Q := by
  obtain ⟨C, F, e, R, P⟩ := h
  refine rd_toD (bindP R P fun F1 H1 e1 x v1 h1 R1 E1 q1 P1 => ?_)
  refine bindP R1 P1 fun F2 H2 e2 xs vs h2 R2 E2 q2 P2 => ?_
  exact P2.ok' R2 (.cons (Dp.ext E2 q1) q2)
section
variable {w : Wd} {X : Cx} {ex : Expr} {es : List Expr} {a : Ev} {as : List Ev} {pos : Pos}
theorem va_nil : PA X [] (rdRs w (opds [])) := pa_mono pa_nil fun _ _ _ h => rd_opds_nil h
theorem va_cons (ha : PE X ex (rdR w a)) (hr : PA X es (rdRs w (opds as))) (hs : starEach (ex :: es) X.env = (false, eval ex X.env) :: starEach es X.env := by rfl) : PA X (ex :: es) (rdRs w (opds (a :: as))) :=
  pa_mono (pa_cons ha hr hs) fun _ _ _ h => rd_opds_cons h
theorem vd_nil : PA X [] (rdDs w (toDs [])) := pa_mono pa_nil fun _ _ _ h => rd_toDs_nil h
theorem vd_cons (ha : PE X ex (rdR w a)) (hr : PA X es (rdDs w (toDs as))) (hs : starEach (ex :: es) X.env = (false, eval ex X.env) :: starEach es X.env := by rfl) : PA X (ex :: es) (rdDs w (toDs (a :: as))) :=
  pa_mono (pa_cons ha hr hs) fun _ _ _ h => rd_toDs_cons h
end
def eTup (as : Sem1 (List D)) : Ev := fun e => (as e).bind fun ds e1 => if ds.length ≤ sizeLine then .ok (.fz (.tuple ds)) e1 else .no
def eLst (as : Sem1 (List D)) : Ev := fun e => (as e).bind fun ds e1 => if ds.length ≤ sizeLine then .ok (.fresh ds) e1 else .no
theorem rd_tup {w : Wd} {as : Sem1 (List D)} {Q : VK} (h : rdR w (eTup as) σ H Q) : tTup (rdDs w as) σ H Q := by
  obtain ⟨C, F, e, R, P⟩ := h
  refine bindP R P fun F1 H1 e1 ds vs h1 R1 E1 q1 P1 => ?_
  split at P1
  · rename_i hl
    exact ⟨by rw [q1.length]; exact hl, fun p hp => P1.res R1 (.tup hp q1)⟩
  · exact P1.elim
theorem rd_lst {w : Wd} {as : Sem1 (List D)} {Q : VK} (h : rdR w (eLst as) σ H Q) : tLst (rdDs w as) σ H Q := by
  obtain ⟨C, F, e, R, P⟩ := h
  refine bindP R P fun F1 H1 e1 ds vs h1 R1 E1 q1 P1 => ?_
  split at P1
  · rename_i hl
    exact ⟨by rw [q1.length]; exact hl, fun p hp => P1.res R1 (.lst hp q1)⟩
  · exact P1.elim
def peeks : List Rv → Env → Option (List D)
  | [], _ => some []
  | r :: rs, e => (peek r e).bind fun d => (peeks rs e).bind fun ds => some (d :: ds)
inductive DhAll (K : PySem.W.Frag) (F H : Hp) : List V → List D → Prop
  | nil : DhAll K F H [] []
  | cons {v : V} {vs : List V} {d : D} {ds : List D} : Dh K F H v d → DhAll K F H vs ds → DhAll K F H (v :: vs) (d :: ds)
theorem peeks_dh (R : Rp K C F H e σ) : ∀ {rs : List Rv} {vs : List V} {ds : List D}, Paired (fun r v => r.still = true ∧ RvR K C F H e σ r v) rs vs → peeks rs e = some ds → DhAll K F H vs ds
  | _, _, _, .nil, h => by cases h; exact .nil
  | _, _, _, .cons a r, h => by
    obtain ⟨d, h1, h⟩ := Option.bind_eq_some_iff.mp h
    obtain ⟨ds, h2, h⟩ := Option.bind_eq_some_iff.mp h
    cases h
    exact .cons (RvR.peek R a.1 a.2 h1) (peeks_dh R r h2)
def eB (f : List D → Option Rv) (as : Sem1 (List Rv)) : Ev := fun e => (as e).bind fun rs e1 => ofO ((peeks rs e1).bind f) e1
def CallS (K : PySem.W.Frag) (f : List D → Option Rv) (r : List V → Hp → VK → Prop) : Prop := ∀ F H vs ds z, Ext F H → DhAll K F H vs ds → f ds = some z → ∀ Q : VK, (∀ v H', Res K F H z v H' → Q v H') → r vs H Q
theorem rd_blt {w : Wd} {f : List D → Option Rv} {r : List V → Hp → VK → Prop} {as : Sem1 (List Rv)} (hs : CallS w.K f r) {Q : VK} (h : rdR w (eB f as) σ H Q) : tCB r (rdRs w as) σ H Q := by
  obtain ⟨C, F, e, R, P⟩ := h
  refine bindP R P fun F1 H1 e1 rs vs h1 R1 E1 q1 P1 => ?_
  obtain ⟨z, hz, P2⟩ := post_ofO P1
  obtain ⟨ds, hd, hf⟩ := Option.bind_eq_some_iff.mp hz
  exact hs F1 H1 vs ds z R1.ext (peeks_dh R1 q1 hd) hf Q fun v H' q => P2.res R1 q
inductive Ret where
  | ok (r : Rv)
  | ex (x : Xc)
/-- behind a call: what lay still lies so, what others own stands -/
structure After (F F' H H' : Hp) : Prop where
  ext : Ext F F'
  ext' : Ext F' H'
  frm : ∀ a, H a ≠ none → F a = none → H' a = H a ∧ F' a = none
  tup : TupIn F' H'
def RetR (K : PySem.W.Frag) (F' H H' : Hp) : Rv → V → Prop
  | .fz d, v => Dp K F' v d
  | .fresh ds, v => ∃ p vs, v = .ref p ∧ H' p = some (.lst vs) ∧ DpAll K F' vs ds ∧ F' p = none ∧ H p = none
  | .bor _, _ => False
/-- the promise of a def that changes nothing that stood -/
def spF (K : PySem.W.Frag) (XR : Hp → Hp → Xc → Value → Option Addr → Prop) (n : Nat) (fn : List D → Option Ret) : Sp := fun vs H Q E => vs.length = n ∧ ∃ F ds, Ext F H ∧ TupIn F H ∧ DpAll K F vs ds ∧ match fn ds with
  | none => False
  | some (.ok r) => ∀ v F' H', After F F' H H' → RetR K F' H H' r v → Q v H'
  | some (.ex x) => ∀ F' H' cv od, After F F' H H' → XR F' H' x cv od → E cv od H'
/-- .. of one that may change the list that is its first argument -/
def spI (K : PySem.W.Frag) (XR : Hp → Hp → Xc → Value → Option Addr → Prop) (n : Nat) (fn : List D → List D → Option (Ret × List D)) : Sp := fun vs H Q E => vs.length = n ∧ ∃ p ws bs F b ds, vs = .ref p :: ws ∧ Ext F H ∧ TupIn F H ∧ F p = none ∧ H p = some (.lst bs) ∧ DpAll K F bs b ∧ DpAll K F ws ds ∧ match fn b ds with
  | none => False
  | some (.ok r, b') => ∀ v F' H' bs', Ext F F' → Ext F' H' → TupIn F' H' → (∀ a, a ≠ p → H a ≠ none → F a = none → H' a = H a ∧ F' a = none) → H' p = some (.lst bs') → F' p = none → DpAll K F' bs' b' → RetR K F' H H' r v → Q v H'
  | some (.ex x, b') => ∀ F' H' bs' cv od, Ext F F' → Ext F' H' → TupIn F' H' → (∀ a, a ≠ p → H a ≠ none → F a = none → H' a = H a ∧ F' a = none) → H' p = some (.lst bs') → F' p = none → DpAll K F' bs' b' → XR F' H' x cv od → E cv od H'
theorem Rp.after (R : Rp K C F H e σ) {F' H' : Hp} (A : After F F' H H') : Rp K C F' H' e σ := by
  have keep : ∀ a, H a ≠ none → F a = none → H' a = H a ∧ F' a = none := A.frm
  have back : ∀ {i fp}, TrAt K H' e σ i fp → TrAt K H e σ i fp := fun h => R.trBack (fun a h0 h1 _ _ => (keep a h0 h1).1) h
  refine ⟨R.len, A.ext', fun a ha => ?_, fun a ha => ?_, fun i x hx => ?_, R.ml, R.ne, fun i fp h => ⟨(R.tn i fp (back h)).1, fun j fp' hj h' => (R.tn i fp (back h)).2 j fp' hj (back h')⟩, A.tup⟩
  · have h := R.frm a ha
    exact (keep a (by rw [h.1]; exact h.2) (R.off a ha)).2
  · have h := R.frm a ha
    rw [(keep a (by rw [h.1]; exact h.2) (R.off a ha)).1]; exact h
  · obtain ⟨v, hv, q⟩ := R.sl i x hx
    refine ⟨v, hv, ?_⟩
    cases x with
    | fz d => exact Dp.ext A.ext q
    | own ds =>
      obtain ⟨p, vs, rfl, h1, h2, h3, h4⟩ := q
      have k := keep p (by rw [h1]; exact fun z => by cases z) h3
      exact ⟨p, vs, rfl, k.1.trans h1, h2.ext A.ext, k.2, h4⟩
    | lent ds =>
      obtain ⟨vs, rfl, h1, h2, h3⟩ := q
      have k := keep (C.lam i) (by rw [h1]; exact fun z => by cases z) (R.off _ (R.ml _ h3))
      exact ⟨vs, rfl, k.1.trans h1, h2.ext A.ext, h3⟩
    | io ds =>
      obtain ⟨vs, rfl, h1, h2, h3, h4⟩ := q
      have k := keep (C.lam i) (by rw [h1]; exact fun z => by cases z) h3
      exact ⟨vs, rfl, k.1.trans h1, h2.ext A.ext, k.2, h4⟩
    | tr b t =>
      obtain ⟨fp, o, nd, h, hb⟩ := q
      have k := fun a ha => keep a (o.some a ha) (h a ha).1
      exact ⟨fp, o.ext A.ext fun a ha => (k a ha).1, nd, fun a ha => ⟨(k a ha).2, (h a ha).2⟩, hb⟩
theorem Rp.apart (R : Rp K C F H e σ) {p : Addr} (hp : H p = none) : Apart e σ (.ref p) := (R.grow (o := .lst []) hp).2.2.2.1
/-- a new object is none of ours, in a later heap too -/
theorem Rp.apT (R : Rp K C F H e σ) {p : Addr} (hp : H p = none) {H' : Hp} (k : ∀ a, H a ≠ none → F a = none → ¬ C.M a → (∃ i fp, TrAt K H e σ i fp ∧ a ∈ fp) → H' a = H a) : ApT K H' e σ p := fun i fp h hq => ((R.trFp (R.trBack k h)).1 p hq).2.2 hp
theorem Rp.notM (R : Rp K C F H e σ) {p : Addr} (hp : H p = none) : ¬ C.M p := (R.grow (o := .lst []) hp).2.1
theorem RetR.rv (R : Rp K C F H e σ) {F' H' : Hp} {r : Rv} {v : V} (h : RetR K F' H H' r v) (A : After F F' H H') : RvR K C F' H' e σ r v := by
  cases r with
  | fz d => exact h
  | fresh ds =>
    obtain ⟨p, vs, rfl, h1, h2, h3, h4⟩ := h
    exact ⟨p, vs, rfl, h1, h2, h3, R.notM h4, R.apart h4, R.apT h4 fun a h0 h1 _ _ => (A.frm a h0 h1).1⟩
  | bor i => exact h.elim
def eF (fn : List D → Option Ret) (as : Sem1 (List D)) : Ev := fun e => (as e).bind fun ds e1 => match fn ds with
  | none => .no
  | some (.ok r) => .ok r e1
  | some (.ex x) => .ex x e1
theorem rd_call {w : Wd} {n : Nat} {fn : List D → Option Ret} {as : List Ev} (hn : as.length = n) {Q : VK} (h : rdR w (eF fn (toDs as)) σ H Q) : tCallS (spF w.K w.XR n fn) (WE w.W) (rdDs w (toDs as)) σ H Q := by
  obtain ⟨C, F, e, R, P⟩ := h
  refine bindP R P fun F1 H1 e1 ds vs h1 R1 E1 q1 P1 => ?_
  have hl : ∀ (as : List Ev) (e : Env) (ds : List D) (e1 : Env), toDs as e = .ok ds e1 → ds.length = as.length := by
    intro as
    induction as with
    | nil => intro e ds e1 h; cases h; rfl
    | cons a as ih =>
      intro e ds e1 h
      unfold toDs at h
      cases h2 : toD a e with
      | no => rw [h2] at h; cases h
      | ex x e2 => rw [h2] at h; cases h
      | ok x e2 =>
        rw [h2] at h
        have h : (toDs as e2).bind (fun xs e2 => .ok (x :: xs) e2) = .ok ds e1 := h
        cases h3 : toDs as e2 with
        | no => rw [h3] at h; cases h
        | ex y e3 => rw [h3] at h; cases h
        | ok xs e3 => rw [h3] at h; cases h; rw [List.length_cons, List.length_cons, ih _ _ _ h3]
  refine ⟨by rw [q1.length, hl _ _ _ _ h1]; exact hn, F1, ds, R1.ext, R1.tup, q1, ?_⟩
  split at P1
  · exact P1.elim
  · exact fun v F' H' A q => P1 v F' H' (R1.after A) A.ext (q.rv R1 A)
  · exact fun F' H' cv od A q => P1 F' H' cv od (R1.after A) A.ext q
/-- a def as it stands -/
structure Defn (P : Program) (W : World) (K : PySem.W.Frag) (mg : Str → Option Value) (base : Heap) (k : Nat) (x : Str) (n : Nat) (sp : Sp) : Prop where
  ex : ∃ (f : Addr) (fd : FuncData) (ps : List Str), mg x = some (.ref f) ∧ PySem.W.keepIn K (.ref f) = true ∧ Binds K fd ps [] ∧ ps.length = n ∧ FnG P W K mg base k f fd ps sp
section
variable {X : Cx} {W : WX} {XR : Hp → Hp → Xc → Value → Option Addr → Prop} {a b c : Expr} {es : List Expr} {ea eb ec : Ev} {as : List Ev} {pos p : Pos} {x : Str}
abbrev wd (X : Cx) (W : WX) (XR : Hp → Hp → Xc → Value → Option Addr → Prop) : Wd := ⟨X.K, W, XR⟩
theorem ve_call {k n : Nat} {fn : List D → Option Ret} (d : Defn X.prog X.w X.K X.mg X.base k x n (spF X.K XR n fn)) (hr : Room k X.A) (hu : X.A.guards = some []) (hg : Gl X x) (hx : ∀ σ, PassesAt (L2.CX X.prog X.w) X σ (WE W σ)) (hn : as.length = n)
    (ha : PA X (a :: es) (rdDs (wd X W XR) (toDs as))) (hdb : (x == ("__debug__" : Str)) = false := by decide) (he : starEach (a :: es) X.env = (false, eval a X.env) :: starEach es X.env := by rfl) (hpl : (backTo pos (starEach es X.env)).any (·.1) = false := by rfl) :
    PE X (.Call (.Name x p) (a :: es) [] pos) (rdR (wd X W XR) (eF fn (toDs as))) := by
  obtain ⟨f, fd, ps, hm, hk, hb, hl, F⟩ := d.ex
  exact pe_mono (pe_callG F hr hu hg hm hk hb hx ha hdb he hpl) fun _ _ _ h => rd_call hn h
theorem ve_var (i : Nat) (hN : X.N[i]? = some x := by rfl) (hv : Vis X.env.scope x := by first | exact Or.inl rfl | exact Or.inr (Or.inl rfl) | exact Or.inr (Or.inr rfl)) (hd : (x == ("__debug__" : Str)) = false := by decide)
    (hcd : (x == ("__classdict__" : Str)) = false := by decide) {w : Wd} : PE X (.Name x pos) (rdR w (eV i)) := pe_mono (pv i hN hv hd hcd) fun _ _ _ h => rd_var h
theorem ve_int {w : Wd} {i : Int} {j : Nat} : PE X (.Constant (.int i) j pos) (rdR w (eC (.int i))) := pe_mono pe_int fun _ _ _ h => rd_c (fun _ => .int i) h
theorem ve_bl {w : Wd} {i : Bool} {j : Nat} : PE X (.Constant (.bool i) j pos) (rdR w (eC (.bool i))) := pe_mono pe_bl fun _ _ _ h => rd_c (fun _ => .bl i) h
theorem ve_non {w : Wd} {j : Nat} : PE X (.Constant .none j pos) (rdR w (eC .none)) := pe_mono pe_non fun _ _ _ h => rd_c (fun _ => .non) h
theorem ve_str {w : Wd} {i : Str} {j : Nat} : PE X (.Constant (.str i) j pos) (rdR w (eC (.str i))) := pe_mono pe_str fun _ _ _ h => rd_c (fun _ => .str i) h
/-- a module's constant that is an int or a text -/
theorem ve_globI {w : Wd} {i : Int} {t : Tok} (hg : Gl X x) (hm : X.mg x = some (.int i t)) (hd : (x == ("__debug__" : Str)) = false := by decide) : PE X (.Name x pos) (rdR w (eC (.int i))) :=
  pe_mono (pe_glob (v := .int i) hg hm ⟨_, rfl⟩ hd) fun _ _ _ h => rd_c (fun _ => .int i) h
theorem ve_globS {w : Wd} {i : Str} {t : Tok} (hg : Gl X x) (hm : X.mg x = some (.str i t)) (hd : (x == ("__debug__" : Str)) = false := by decide) : PE X (.Name x pos) (rdR w (eC (.str i))) :=
  pe_mono (pe_glob (v := .str i) hg hm ⟨_, rfl⟩ hd) fun _ _ _ h => rd_c (fun _ => .str i) h
theorem ve_tup {w : Wd} {x1 : Nat} (h : PA X es (rdDs w (toDs as))) : PE X (.Tuple es x1 pos) (rdR w (eTup (toDs as))) := pe_mono (pe_tup h) fun _ _ _ h => rd_tup h
theorem ve_lst {w : Wd} (h : PA X es (rdDs w (toDs as))) : PE X (.List es pos) (rdR w (eLst (toDs as))) := pe_mono (pe_lst h) fun _ _ _ h => rd_lst h
theorem ve_blt {w : Wd} {id : String} {f : List D → Option Rv} {r : List V → Hp → VK → Prop} (hc : CallR X (.builtin id) r) (hs : CallS w.K f r) (hg : Gl X x) (hm : X.mg x = none) (hv : bootBuiltins x = some (.builtin id)) (ha : PA X (a :: es) (rdRs w (opds as)))
    (hn : x ≠ "__name__" := by decide) (hdb : (x == ("__debug__" : Str)) = false := by decide) (he : starEach (a :: es) X.env = (false, eval a X.env) :: starEach es X.env := by rfl) (hpl : (backTo pos (starEach es X.env)).any (·.1) = false := by rfl) :
    PE X (.Call (.Name x p) (a :: es) [] pos) (rdR w (eB f (opds as))) := pe_mono (pe_callB hc hg hm hv ha hn hdb he hpl) fun _ _ _ h => rd_blt hs h
theorem ve_bty {w : Wd} {T : String} {f : List D → Option Rv} {r : List V → Hp → VK → Prop} (hc : CallR X (.type T) r) (hs : CallS w.K f r) (hg : Gl X x) (hm : X.mg x = none) (hv : bootBuiltins x = some (.type T)) (ha : PA X (a :: es) (rdRs w (opds as)))
    (hn : x ≠ "__name__" := by decide) (hdb : (x == ("__debug__" : Str)) = false := by decide) (he : starEach (a :: es) X.env = (false, eval a X.env) :: starEach es X.env := by rfl) (hpl : (backTo pos (starEach es X.env)).any (·.1) = false := by rfl) :
    PE X (.Call (.Name x p) (a :: es) [] pos) (rdR w (eB f (opds as))) := pe_mono (pe_callTy hc hg hm hv ha hn hdb he hpl) fun _ _ _ h => rd_blt hs h
end
def asB : Rv → Env → Option Bool
  | .fz (.bool b), _ => some b
  | _, _ => none
def tst (a : Ev) : Sem1 Bool := fun e => (a e).bind fun x e1 => ofO (asB x e1) e1
def andT (a b : Sem1 Bool) : Sem1 Bool := fun e => (a e).bind fun x e1 => if x then b e1 else .ok false e1
def orT (a b : Sem1 Bool) : Sem1 Bool := fun e => (a e).bind fun x e1 => if x then .ok true e1 else b e1
def notT (a : Sem1 Bool) : Sem1 Bool := fun e => (a e).bind fun x e1 => .ok (!x) e1
def andV (a b : Ev) : Ev := fun e => (tst a e).bind fun x e1 => if x then b e1 else .ok (.fz (.bool false)) e1
def orV (a b : Ev) : Ev := fun e => (tst a e).bind fun x e1 => if x then .ok (.fz (.bool true)) e1 else b e1
def notV (a : Ev) : Ev := fun e => (tst a e).bind fun x e1 => .ok (.fz (.bool (!x))) e1
def iteV (c : Sem1 Bool) (a b : Ev) : Ev := fun e => (c e).bind fun x e1 => if x then a e1 else b e1
theorem Post.asB {w : Wd} {x : Rv} {v : V} (R : Rp w.K C F H e σ) (q : RvR w.K C F H e σ x v) {α β : Type} {RA : Cf → Hp → Hp → Env → L2.St → α → β → Prop} {Q : β → Hp → Prop} {f : Bool → Env → Rs α}
    (P : Post w RA C F σ Q ((ofO (asB x e) e).bind f)) : ∃ b, v = .bl b ∧ Post w RA C F σ Q (f b e) := by
  cases x with
  | fz d =>
    cases d with
    | bool b => cases q; exact ⟨b, rfl, P⟩
    | _ => exact P.elim
  | _ => exact P.elim
theorem rs_assoc {α β γ : Type} (r : Rs α) (f : α → Env → Rs β) (g : β → Env → Rs γ) : (r.bind f).bind g = r.bind fun a e => (f a e).bind g := by cases r <;> rfl
theorem rs_id {α : Type} (r : Rs α) : r.bind (fun a e => .ok a e) = r := by cases r <;> rfl
theorem rd_tst {w : Wd} {a : Ev} {Q : Bool → Hp → Prop} (h : rdT w (tst a) σ H Q) : rdR w a σ H fun x H' => ∃ k, x = .bl k ∧ Q k H' := by
  obtain ⟨C, F, e, R, P⟩ := h
  refine bindP R P fun F1 H1 e1 x v1 h1 R1 E1 q1 P1 => ?_
  rw [← rs_id (ofO (asB x e1) e1)] at P1
  obtain ⟨b, hb, P2⟩ := P1.asB R1 q1
  exact ⟨b, hb, P2.ok' R1 rfl⟩
section
variable {w : Wd} {X : Cx} {a b c : Expr} {rest : List Expr} {ea eb ec : Ev} {ta tb : Sem1 Bool} {pos : Pos}
/-- an expression's worth, as a test -/
theorem vt_val (h : PE X a (rdR w ea)) (he : ∀ whole, isTrue a X.env whole = (do let v ← whole; standAt a.pos; holding [v] (truthy v)) := by intro _; rfl) : PT X a (rdT w (tst ea)) :=
  pt_mono (pt_val h he) fun _ _ _ q => rd_tst q
theorem vt_cmp {op : CmpOp} {f : F2} {r : R2} (ho : OpR X (compareOp op) r) (hs : OpS w.K f r) (ha : PE X a (rdR w ea)) (hb : PE X b (rdR w eb)) (hm : behindInMarks op b = false) : PT X (.Compare a [op] [b] pos) (rdT w (tst (bin2 f ea eb))) :=
  pt_mono (pt_cmpR ho ha hb hm) fun _ _ _ q => rd_bin2 hs (rd_tst q)
theorem vt_not (h : PT X a (rdT w ta)) : PT X (.UnaryOp .Not a pos) (rdT w (notT ta)) := pt_mono (pt_not h) fun σ H Q q => by
  obtain ⟨C, F, e, R, P⟩ := q
  exact bindP R P fun F1 H1 e1 x v1 h1 R1 E1 q1 P1 => by cases q1; exact P1.ok' R1 rfl
theorem pw_mono {ex : Expr} {t t' : TT} (h : PW X ex t) (w : ∀ σ H Q, t' σ H Q → t σ H Q) : PW X ex t' := ⟨fun wh pins s σ H Q I q => h.run wh pins s σ H Q I (w σ H Q q)⟩
theorem vw_and1 (ha : PT X a (rdT w ta)) : PW X (.BoolOp .And [a] pos) (rdT w ta) := pw_and1 ha
theorem vw_or1 (ha : PT X a (rdT w ta)) : PW X (.BoolOp .Or [a] pos) (rdT w ta) := pw_or1 ha
theorem vw_and (ha : PT X a (rdT w ta)) (hb : PW X (.BoolOp .And (b :: rest) pos) (rdT w tb)) : PW X (.BoolOp .And (a :: b :: rest) pos) (rdT w (andT ta tb)) := pw_mono (pw_and ha hb) fun σ H Q q => by
  obtain ⟨C, F, e, R, P⟩ := q
  refine bindP R P fun F1 H1 e1 x v1 h1 R1 E1 q1 P1 => ?_
  cases q1
  cases x with
  | true => exact iteT ⟨C, F1, e1, R1, P1⟩
  | false => exact iteF (P1.ok' R1 rfl)
theorem vw_or (ha : PT X a (rdT w ta)) (hb : PW X (.BoolOp .Or (b :: rest) pos) (rdT w tb)) : PW X (.BoolOp .Or (a :: b :: rest) pos) (rdT w (orT ta tb)) := pw_mono (pw_or ha hb) fun σ H Q q => by
  obtain ⟨C, F, e, R, P⟩ := q
  refine bindP R P fun F1 H1 e1 x v1 h1 R1 E1 q1 P1 => ?_
  cases q1
  cases x with
  | true => exact iteT (P1.ok' R1 rfl)
  | false => exact iteF ⟨C, F1, e1, R1, P1⟩
theorem vt_bool (h : PW X a (rdT w ta)) : PT X a (rdT w ta) := h.pt
theorem rd_tst_bind {Q : VK} {f : Bool → Env → Rs Rv} (h : rdR w (fun e => (tst ea e).bind f) σ H Q) {Q1 : VK} (k : ∀ C F e1 H1 b, Rp w.K C F H1 e1 σ → Post w (RR w.K) C F σ Q (f b e1) → Q1 (.bl b) H1) : rdR w ea σ H Q1 := by
  obtain ⟨C, F, e, R, P⟩ := h
  have P : Post w (RR w.K) C F σ Q ((ea e).bind fun a e => (ofO (asB a e) e).bind f) := by rw [← rs_assoc]; exact P
  refine bindP R P fun F1 H1 e1 x v1 h1 R1 E1 q1 P1 => ?_
  obtain ⟨b, rfl, P2⟩ := P1.asB R1 q1
  exact k C F1 e1 H1 b R1 P2
theorem ve_one {op : BoolOp} (h : PE X a (rdR w ea)) : PE X (.BoolOp op [a] pos) (rdR w ea) := pe_one h
theorem ve_and (ha : PE X a (rdR w ea)) (hb : PE X (.BoolOp .And (b :: rest) pos) (rdR w eb)) : PE X (.BoolOp .And (a :: b :: rest) pos) (rdR w (andV ea eb)) := pe_mono (pe_and ha hb) fun σ H Q q => by
  refine rd_tst_bind q fun C F e1 H1 b R1 P1 => ⟨b, rfl, ?_⟩
  cases b with
  | true => exact iteT ⟨C, F, e1, R1, P1⟩
  | false => exact iteF (P1.ok' R1 (.bl false))
theorem ve_not (ha : PE X a (rdR w ea)) : PE X (.UnaryOp .Not a pos) (rdR w (notV ea)) := pe_mono (pe_not ha) fun σ H Q q => by
  exact rd_tst_bind q fun C F e1 H1 b R1 P1 => ⟨b, rfl, P1.ok' R1 (.bl _)⟩
theorem ve_ite (hc : PT X c (rdT w ta)) (ha : PE X a (rdR w ea)) (hb : PE X b (rdR w eb)) : PE X (.IfExp c a b pos) (rdR w (iteV ta ea eb)) := pe_mono (pe_ifExp hc ha hb) fun σ H Q q => by
  obtain ⟨C, F, e, R, P⟩ := q
  refine bindP R P fun F1 H1 e1 x v1 h1 R1 E1 q1 P1 => ?_
  cases q1
  cases x with
  | true => exact iteT ⟨C, F1, e1, R1, P1⟩
  | false => exact iteF ⟨C, F1, e1, R1, P1⟩
def chain2 (f g : F2) (a b c : Ev) : Ev := fun e => (opd a e).bind fun x e1 => (opd b e1).bind fun y e2 => (ofO ((ap2 f x y e2).bind fun r => asB r e2) e2).bind fun k e3 =>
  if k then (opd c e3).bind fun z e4 => ofO (ap2 g y z e4) e4 else .ok (.fz (.bool false)) e3
theorem rd_chain {f g : F2} {r r' : R2} (hs : OpS w.K f r) (hs' : OpS w.K g r') {Q : VK} (h : rdR w (chain2 f g ea eb ec) σ H Q) : tChain r r' (rdR w ea) (rdR w eb) (rdR w ec) σ H Q := by
  obtain ⟨C, F, e, R, P⟩ := h
  refine rd_opd (bindP R P fun F1 H1 e1 x v1 h1 R1 E1 q1 P1 => ?_)
  refine rd_opd (bindP R1 P1 fun F2 H2 e2 y v2 h2 R2 E2 q2 P2 => ?_)
  cases hk : (ap2 f x y e2).bind fun r => asB r e2 with
  | none => rw [hk] at P2; exact P2.elim
  | some k =>
    rw [hk] at P2
    obtain ⟨z, hz, hb⟩ := Option.bind_eq_some_iff.mp hk
    obtain ⟨dx, dy, hx, hy, hf⟩ := ap2_some hz
    refine hs F2 H2 v1 v2 dx dy z R2.ext (RvR.peek R2 (opd_still h1) (RvR.later (opd_still h1) E2 q1) hx) (RvR.peek R2 (opd_still h2) q2 hy) hf _ fun v H' q => ?_
    have hz' : z = .fz (.bool k) := by
      unfold asB at hb
      split at hb
      · cases hb; rfl
      · cases hb
    subst hz'
    cases q with
    | old q =>
      cases q
      refine ⟨k, rfl, ?_⟩
      cases k with
      | false => exact iteF (P2.ok' R2 (.bl false))
      | true =>
        refine iteT ?_
        have P2 : Post w (RR w.K) C F2 σ Q ((opd ec e2).bind fun z e4 => ofO (ap2 g y z e4) e4) := P2
        refine rd_opd (bindP R2 P2 fun F3 H3 e3 z v3 h3 R3 E3 q3 P3 => ?_)
        obtain ⟨z', hz', P4⟩ := post_ofO P3
        obtain ⟨dy', dz, hy', hz2, hf'⟩ := ap2_some hz'
        exact hs' F3 H3 v2 v3 dy' dz z' R3.ext (RvR.peek R3 (opd_still h2) (RvR.later (opd_still h2) E3 q2) hy') (RvR.peek R3 (opd_still h3) q3 hz2) hf' Q fun v H' q => P4.res R3 q
theorem vt_chain {op op' : CmpOp} {f g : F2} {r r' : R2} (ho : OpR X (compareOp op) r) (ho' : OpR X (compareOp op') r') (hs : OpS w.K f r) (hs' : OpS w.K g r') (ha : PE X a (rdR w ea)) (hb : PE X b (rdR w eb)) (hc : PE X c (rdR w ec))
    (hm : lastMarks [op, op'] [b, c] = false := by with_unfolding_all rfl) : PT X (.Compare a [op, op'] [b, c] pos) (rdT w (tst (chain2 f g ea eb ec))) := pt_mono (pt_chain ho ho' ha hb hc hm) fun _ _ _ q => rd_chain hs hs' (rd_tst q)
end
end VI
set_option Elab.async false
set_option linter.all false
set_option maxRecDepth 100000
set_option maxHeartbeats 4000000
namespace VI
open PySem PySem.Spec PyProof.Rows L2
variable {K : PySem.W.Frag} {C : Cf} {F H : Hp} {e e' : Env} {σ : L2.St}
inductive Fl where
  | nx | bk | ct
  | ret (r : Rv)
abbrev St1 := Sem1 Fl
def PostS (w : Wd) (C : Cf) (F : Hp) (D : Ends) : Rs Fl → Prop
  | .no => False
  | .ok .nx e' => ∀ F' H' σ', Rp w.K C F' H' e' σ' → Ext F F' → D.nx σ' H'
  | .ok .bk e' => ∀ F' H' σ', Rp w.K C F' H' e' σ' → Ext F F' → D.bk σ' H'
  | .ok .ct e' => ∀ F' H' σ', Rp w.K C F' H' e' σ' → Ext F F' → D.ct σ' H'
  | .ok (.ret r) e' => ∀ v F' H' σ', Rp w.K C F' H' e' σ' → Ext F F' → RvR w.K C F' H' e' σ' r v → r.still = false ∨ (∃ d, r = .fz d) → D.rt v H'
  | .ex x e' => ∀ F' H' σ' cv od, Rp w.K C F' H' e' σ' → Ext F F' → w.XR F' H' x cv od → w.W cv od σ' H'
def rdS (w : Wd) (a : St1) : TS := fun D σ H => ∃ C F e, Rp w.K C F H e σ ∧ PostS w C F D (a e)
section
variable {w : Wd} {D : Ends}
theorem PostS.mono {F1 : Hp} (E : Ext F F1) {r : Rs Fl} (h : PostS w C F D r) : PostS w C F1 D r := by
  cases r with
  | no => exact h
  | ok a e' =>
    cases a with
    | nx => exact fun F' H' σ' R E' => h F' H' σ' R (E.trans E')
    | bk => exact fun F' H' σ' R E' => h F' H' σ' R (E.trans E')
    | ct => exact fun F' H' σ' R E' => h F' H' σ' R (E.trans E')
    | ret r => exact fun v F' H' σ' R E' => h v F' H' σ' R (E.trans E')
  | ex x e' => exact fun F' H' σ' cv od R E' q => h F' H' σ' cv od R (E.trans E') q
/-- an expression, then what is done with its worth -/
theorem bindS {α β : Type} {RA : Cf → Hp → Hp → Env → L2.St → α → β → Prop} {Q1 : β → Hp → Prop} {a : Sem1 α} {f : α → Env → Rs Fl} (R : Rp w.K C F H e σ) (P : PostS w C F D ((a e).bind f))
    (k : ∀ F1 H1 e1 x v, a e = .ok x e1 → Rp w.K C F1 H1 e1 σ → Ext F F1 → RA C F1 H1 e1 σ x v → PostS w C F1 D (f x e1) → Q1 v H1) : Rd w RA a σ H Q1 := by
  refine ⟨C, F, e, R, ?_⟩
  cases h1 : a e with
  | no => rw [h1] at P; exact False.elim P
  | ok x e1 =>
    rw [h1] at P
    exact fun v F' H' R' E q => k F' H' e1 x v h1 R' E q (PostS.mono E P)
  | ex x e1 => rw [h1] at P; exact fun F' H' cv od R E q => P F' H' σ cv od R E q
theorem PostS.nx' {e : Env} (P : PostS w C F D (.ok .nx e)) (R : Rp w.K C F H e σ) : D.nx σ H := P F H σ R (.refl F)
end
/-- a name that may be stored: it holds no lent list, none that was handed in -/
def freeAt (e : Env) (i : Nat) : Bool := match e[i]? with
  | some (some (.lent _)) => false
  | some (some (.io _)) => false
  | some (some (.tr _ _)) => false
  | some _ => true
  | none => false
def put (i : Nat) (d : D) (e : Env) : Option Env := if freeAt e i then some (e.set i (some (.fz d))) else none
def store (i : Nat) (r : Rv) (e : Env) : Rs Fl := match r with
  | .fresh ds => if freeAt e i then .ok .nx (e.set i (some (.own ds))) else .no
  | r => (frz r e).bind fun d e1 => if freeAt e1 i then .ok .nx (e1.set i (some (.fz d))) else .no
theorem TrAt.unset {i j : Nat} {x : Sv} {o : Option V} {fp : List Addr} (hx : ∀ b t, x ≠ .tr b t) (h : TrAt K H (e.set i (some x)) (σ.set i o) j fp) : TrAt K H e σ j fp ∧ i ≠ j := by
  obtain ⟨b, t, v, F', he, hv, o⟩ := h
  rcases getset he with ⟨rfl, he'⟩ | ⟨hj, he⟩
  · exact absurd (Option.some.inj he') (hx b t)
  · exact ⟨⟨b, t, v, F', he, by rwa [List.getElem?_set_ne hj] at hv, o⟩, hj⟩
theorem ApT.set {p : Addr} {i : Nat} {x : Sv} {o : Option V} (h : ApT K H e σ p) (hx : ∀ b t, x ≠ .tr b t) : ApT K H (e.set i (some x)) (σ.set i o) p := fun j fp ht => h j fp (ht.unset hx).1
theorem Rp.put (R : Rp K C F H e σ) {i : Nat} {d : D} {v : V} (h : freeAt e i = true) (q : Dp K F v d) : Rp K C F H (e.set i (some (.fz d))) (σ.set i (some v)) := by
  refine ⟨by rw [List.length_set, List.length_set]; exact R.len, R.ext, R.off, R.frm, fun j x hx => ?_, R.ml, fun j k x y hjk hx hy mx my => ?_, tn_sub R.tn (fun j y hy => ?_) (fun j y hy my => ?_) (fun j y hy => ?_), R.tup⟩
  · rcases getset hx with ⟨rfl, hx'⟩ | ⟨hj, hx⟩
    · cases hx'
      have : i < σ.length := by
        rw [← R.len]
        unfold freeAt at h
        split at h <;> first | (cases h; done) | skip
        rename_i hs; exact (List.getElem?_eq_some_iff.mp hs).1
      exact ⟨v, by rw [List.getElem?_set_self this], q⟩
    · obtain ⟨u, hu, z⟩ := R.sl j x hx
      exact ⟨u, by rw [List.getElem?_set_ne hj]; exact hu, z⟩
  · rcases getset hx with ⟨rfl, hx'⟩ | ⟨hj, hx⟩
    · cases hx'; cases mx
    · rcases getset hy with ⟨rfl, hy'⟩ | ⟨hk, hy⟩
      · cases hy'; cases my
      · rw [List.getElem?_set_ne hj, List.getElem?_set_ne hk]; exact R.ne j k x y hjk hx hy mx my
  · rcases getset hy with ⟨rfl, hy'⟩ | ⟨hj, hy⟩
    · cases hy'
    · exact hy
  · rcases getset hy with ⟨rfl, hy'⟩ | ⟨hj, hy⟩
    · cases hy'; cases my
    · exact ⟨_, hy, my, List.getElem?_set_ne hj⟩
  · rcases getset hy with ⟨rfl, hy'⟩ | ⟨hj, hy⟩
    · cases hy'
    · exact List.getElem?_set_ne hj
theorem Rp.putOwn (R : Rp K C F H e σ) {i : Nat} {ds : List D} {p : Addr} {vs : List V} (h : freeAt e i = true) (hp : H p = some (.lst vs)) (hd : DpAll K F vs ds) (hF : F p = none) (hM : ¬ C.M p) (ap : Apar K H e σ p) :
    Rp K C F H (e.set i (some (.own ds))) (σ.set i (some (.ref p))) := by
  have up : ∀ {j fp}, TrAt K H (e.set i (some (.own ds))) (σ.set i (some (.ref p))) j fp → TrAt K H e σ j fp ∧ j ≠ i := fun {j fp} h => by
    obtain ⟨b, t, v, F', he, hv, o⟩ := h
    rcases getset he with ⟨rfl, he'⟩ | ⟨hj, he⟩
    · cases he'
    · exact ⟨⟨b, t, v, F', he, by rwa [List.getElem?_set_ne hj] at hv, o⟩, Ne.symm hj⟩
  refine ⟨by rw [List.length_set, List.length_set]; exact R.len, R.ext, R.off, R.frm, fun j x hx => ?_, R.ml, fun j k x y hjk hx hy mx my => ?_, fun j fp h => ⟨fun a ha k y hy my hs => ?_, fun k fp' hk h' => (R.tn j fp (up h).1).2 k fp' hk (up h').1⟩, R.tup⟩
  · rcases getset hx with ⟨rfl, hx'⟩ | ⟨hj, hx⟩
    · cases hx'
      have : i < σ.length := by
        rw [← R.len]
        unfold freeAt at h
        split at h <;> first | (cases h; done) | skip
        rename_i hs; exact (List.getElem?_eq_some_iff.mp hs).1
      exact ⟨.ref p, by rw [List.getElem?_set_self this], p, vs, rfl, hp, hd, hF, hM⟩
    · obtain ⟨u, hu, z⟩ := R.sl j x hx
      exact ⟨u, by rw [List.getElem?_set_ne hj]; exact hu, z⟩
  · have lt : i < σ.length := by
        rw [← R.len]
        unfold freeAt at h
        split at h <;> first | (cases h; done) | skip
        rename_i hs; exact (List.getElem?_eq_some_iff.mp hs).1
    rcases getset hx with ⟨rfl, hx'⟩ | ⟨hj, hx⟩
    · rcases getset hy with ⟨rfl, hy'⟩ | ⟨hk, hy⟩
      · exact absurd rfl hjk
      · rw [List.getElem?_set_self lt, List.getElem?_set_ne hk]; exact fun z => ap.1 k y hy my z.symm
    · rcases getset hy with ⟨rfl, hy'⟩ | ⟨hk, hy⟩
      · rw [List.getElem?_set_self lt, List.getElem?_set_ne hj]; exact fun z => ap.1 j x hx mx z
      · rw [List.getElem?_set_ne hj, List.getElem?_set_ne hk]; exact R.ne j k x y hjk hx hy mx my
  · have lt : i < σ.length := by
        rw [← R.len]
        unfold freeAt at *
        split at * <;> first | (simp at *; done) | skip
        rename_i hs; exact (List.getElem?_eq_some_iff.mp hs).1
    rcases getset hy with ⟨rfl, hy'⟩ | ⟨hk, hy⟩
    · rw [List.getElem?_set_self lt] at hs
      cases hs
      exact ap.2 j fp (up h).1 ha
    · rw [List.getElem?_set_ne hk] at hs
      exact (R.tn j fp (up h).1).1 a ha k y hy my hs
theorem PostS.store {w : Wd} {D : Ends} {i : Nat} {r : Rv} {v : V} (R : Rp w.K C F H e σ) (q : RvR w.K C F H e σ r v) (P : PostS w C F D (store i r e)) : D.nx (σ.set i (some v)) H := by
  have fin : ∀ {F : Hp} {e : Env}, Rp w.K C F H e σ → ∀ d, Dp w.K F v d → PostS w C F D (if freeAt e i then .ok .nx (e.set i (some (.fz d))) else .no) → D.nx (σ.set i (some v)) H := fun R d q P => by
    split at P
    · rename_i hf
      exact P.nx' (R.put hf q)
    · exact P.elim
  cases r with
  | fresh ds =>
    unfold VI.store at P
    simp only at P
    obtain ⟨p, vs, rfl, hp, hd, hF, hM, ap⟩ := q
    split at P
    · rename_i hf
      exact P.nx' (R.putOwn hf hp hd hF hM ap)
    · exact P.elim
  | fz d => exact fin R d q P
  | bor j =>
    have h' : σ[j]? = some (some v) := q
    have P : PostS w C F D ((VI.frz (.bor j) e).bind fun d e1 => if freeAt e1 i then .ok .nx (e1.set i (some (.fz d))) else .no) := P
    unfold VI.frz at P
    simp only at P
    split at P
    · rename_i d' hd
      obtain ⟨u, hu, z⟩ := R.sl _ _ hd
      rw [h'] at hu; cases hu
      exact fin R d' z P
    · rename_i ds hd
      obtain ⟨F', u, R', E, hu, z⟩ := R.rest hd
      rw [h'] at hu; cases hu
      exact fin R' _ z (PostS.mono E P)
    · exact P.elim
structure Tg where
  run : D → Env → Option Env
  ix : List Nat
def rdG (w : Wd) (t : Tg) : TG := fun v σ H Q => ∃ C F e d e', Rp w.K C F H e σ ∧ Dp w.K F v d ∧ t.run d e = some e' ∧ ∀ σ', Rp w.K C F H e' σ' → (∀ vs, (∀ i ∈ t.ix, i ∈ vs) → wipe σ' vs = wipe σ vs) → Q σ' H
def tgV (i : Nat) : Tg := ⟨put i, [i]⟩
theorem wipe_set {i : Nat} {x : Option V} : ∀ {vs : List Nat} {σ : L2.St}, i ∈ vs → wipe (σ.set i x) vs = wipe σ vs := by
  intro vs
  induction vs with
  | nil => intro σ h; cases h
  | cons j vs ih =>
    intro σ h
    unfold wipe
    by_cases hj : i ∈ vs
    · rw [ih hj]
    · have e : i = j := by rcases List.mem_cons.mp h with z | z; exact z; exact absurd z hj
      subst e
      have : ∀ (vs : List Nat) (σ : L2.St), i ∉ vs → wipe (σ.set i x) vs = (wipe σ vs).set i x := by
        intro vs
        induction vs with
        | nil => intro σ _; rfl
        | cons j vs ih2 =>
          intro σ h2
          unfold wipe
          have hij : i ≠ j := fun z => h2 (z ▸ List.mem_cons_self)
          by_cases q : i ∈ vs
          · exact absurd (List.mem_cons_of_mem _ q) h2
          · rw [ih2 σ q, List.set_comm _ _ hij]
      rw [this vs σ hj, List.set_set]
theorem rd_tgV {w : Wd} {i : Nat} {v : V} {Q : L2.St → Hp → Prop} (h : rdG w (tgV i) v σ H Q) : gName i v σ H Q := by
  obtain ⟨C, F, e, d, e', R, q, hr, k⟩ := h
  have hr : put i d e = some e' := hr
  unfold put at hr
  split at hr
  · rename_i hf
    cases hr
    exact k _ (R.put hf q) fun vs hv => wipe_set (hv i (by simp [tgV]))
  · cases hr
def tgRun : List Tg → List D → Env → Option Env
  | [], [], e => some e
  | t :: ts, d :: ds, e => (t.run d e).bind fun e1 => tgRun ts ds e1
  | _, _, _ => none
def tgT (ts : List Tg) : Tg := ⟨fun d e => match d with | .tuple ds => tgRun ts ds e | .list ds => tgRun ts ds e | _ => none, ts.flatMap (·.ix)⟩
def rdGs (w : Wd) (ts : List Tg) : TGs := fun vs σ H Q => ∃ C F e ds e', Rp w.K C F H e σ ∧ DpAll w.K F vs ds ∧ tgRun ts ds e = some e' ∧ ∀ σ', Rp w.K C F H e' σ' → (∀ vs, (∀ i ∈ ts.flatMap (·.ix), i ∈ vs) → wipe σ' vs = wipe σ vs) → Q σ' H
theorem rd_tgs_nil {w : Wd} {vs : List V} {Q : L2.St → Hp → Prop} (h : rdGs w [] vs σ H Q) : gNil vs σ H Q := by
  obtain ⟨C, F, e, ds, e', R, q, hr, k⟩ := h
  cases ds with
  | nil => cases q; cases hr; exact ⟨rfl, k σ R fun _ _ => rfl⟩
  | cons d ds => cases hr
theorem rd_tgs_cons {w : Wd} {t : Tg} {ts : List Tg} {vs : List V} {Q : L2.St → Hp → Prop} (h : rdGs w (t :: ts) vs σ H Q) : gCons (rdG w t) (rdGs w ts) vs σ H Q := by
  obtain ⟨C, F, e, ds, e', R, q, hr, k⟩ := h
  cases ds with
  | nil => cases hr
  | cons d ds =>
    cases q with
    | cons q1 q2 =>
      obtain ⟨e1, h1, h2⟩ := Option.bind_eq_some_iff.mp hr
      refine ⟨_, _, rfl, C, F, e, d, e1, R, q1, h1, fun σ1 R1 w1 => ⟨C, F, e1, ds, e', R1, q2, h2, fun σ2 R2 w2 => k σ2 R2 fun vs hv => ?_⟩⟩
      rw [w2 vs fun i hi => hv i (by simp only [List.flatMap_cons, List.mem_append]; exact .inr hi), w1 vs fun i hi => hv i (by simp only [List.flatMap_cons, List.mem_append]; exact .inl hi)]
theorem tgRun_len : ∀ {ts : List Tg} {ds : List D} {e e' : Env}, tgRun ts ds e = some e' → ds.length = ts.length
  | [], [], _, _, _ => rfl
  | t :: ts, d :: ds, e, e', h => by
    obtain ⟨e1, _, h2⟩ := Option.bind_eq_some_iff.mp h
    rw [List.length_cons, List.length_cons, tgRun_len h2]
  | [], _ :: _, _, _, h => by cases h
  | _ :: _, [], _, _, h => by cases h
theorem rd_tgT {w : Wd} {ts : List Tg} {v : V} {Q : L2.St → Hp → Prop} (h : rdG w (tgT ts) v σ H Q) : gTup w.K ts.length (rdGs w ts) v σ H Q ∨ gLst w.K ts.length (rdGs w ts) v σ H Q := by
  obtain ⟨C, F, e, d, e', R, q, hr, k⟩ := h
  cases q with
  | tup hs hd =>
    have hr : tgRun ts _ e = some e' := hr
    exact .inl ⟨_, _, rfl, ext_t R.ext hs, by rw [hd.length]; exact tgRun_len hr, C, F, e, _, e', R, hd, hr, k⟩
  | lst hs hd =>
    have hr : tgRun ts _ e = some e' := hr
    exact .inr ⟨_, _, rfl, .inl (ext_rd R.ext hs), by rw [hd.length]; exact tgRun_len hr, C, F, e, _, e', R, hd, hr, k⟩
  | _ => cases hr
section
variable {X : Cx} {w : Wd} {tg : Expr} {es : List Expr} {t : Tg} {ts : List Tg} {pos : Pos} {x : Str}
theorem pg_mono {t t' : TG} (h : PG X tg t) (w : ∀ v σ H Q, t' v σ H Q → t v σ H Q) : PG X tg t' := ⟨fun pins s σ H v u Q I r q => h.run pins s σ H v u Q I r (w v σ H Q q)⟩
theorem pgs_mono {t t' : TGs} (h : PGs X es t) (w : ∀ v σ H Q, t' v σ H Q → t v σ H Q) : PGs X es t' := ⟨fun pins s σ H v u Q I r q => h.run pins s σ H v u Q I r (w v σ H Q q)⟩
theorem pg_or {t t' : TG} (h : PG X tg t) (h' : PG X tg t') : PG X tg (fun v σ H Q => t v σ H Q ∨ t' v σ H Q) := ⟨fun pins s σ H v u Q I r q => q.elim (h.run pins s σ H v u Q I r) (h'.run pins s σ H v u Q I r)⟩
theorem vg_name {i : Nat} (hN : X.N.Nodup) (hi : X.N[i]? = some x) (hx : Loc X.env.scope x) (hf : X.fn x = true ∨ X.env.scope.names.lookup x = some .local := by first | exact .inl rfl | exact .inr rfl | assumption) : PG X (.Name x pos) (rdG w (tgV i)) :=
  pg_mono (pg_name hN hi hx hf) fun _ _ _ _ h => rd_tgV h
theorem vgs_nil : PGs X [] (rdGs w []) := pgs_mono pgs_nil fun _ _ _ _ h => rd_tgs_nil h
end
end VI
set_option Elab.async false
set_option linter.all false
set_option maxRecDepth 100000
set_option maxHeartbeats 4000000
namespace VI
open PySem PySem.Spec PyProof.Rows L2
variable {K : PySem.W.Frag} {C : Cf} {F H : Hp} {e e' : Env} {σ : L2.St}
section
variable {X : Cx} {w : Wd} {tg : Expr} {es : List Expr} {t : Tg} {ts : List Tg} {pos : Pos} {x : Str}
theorem vgs_cons (h1 : PG X tg (rdG w t)) (h2 : PGs X es (rdGs w ts)) (hs : (assignEach (tg :: es) X.env).map (·.2) = assign tg X.env :: (assignEach es X.env).map (·.2) := by rfl) : PGs X (tg :: es) (rdGs w (t :: ts)) :=
  pgs_mono (pgs_cons h1 h2 hs) fun _ _ _ _ h => rd_tgs_cons h
/-- a, b = a tuple or a list -/
theorem vg_tup {W : WX} {XR : Hp → Hp → Xc → Value → Option Addr → Prop} {k : Nat} (hc : X.calm = true) (h : PGs X es (rdGs (wd X W XR) ts)) (hn : (assignEach es X.env).length = ts.length := by rfl) (hst : (assignEach es X.env).findIdx? (·.1) = none := by rfl) :
    PG X (.Tuple es k pos) (rdG (wd X W XR) (tgT ts)) := pg_mono (pg_or (pg_tup hc h hn hst) (pg_lst hc h hn hst)) fun _ _ _ _ h => rd_tgT h
end
def skipS : St1 := fun e => .ok .nx e
def seqS (a b : St1) : St1 := fun e => (a e).bind fun f e1 => match f with
  | .nx => b e1
  | f => .ok f e1
def block : List St1 → St1
  | [] => skipS
  | [a] => a
  | a :: as => seqS a (block as)
section
variable {w : Wd} {D : Ends} {a b : St1}
theorem rd_skip (h : rdS w skipS D σ H) : tNext D σ H := by
  obtain ⟨C, F, e, R, P⟩ := h
  exact P.nx' R
theorem rd_seq (h : rdS w (seqS a b) D σ H) : tSeq (rdS w a) (rdS w b) D σ H := by
  obtain ⟨C, F, e, R, P⟩ := h
  refine ⟨C, F, e, R, ?_⟩
  unfold seqS at P
  cases h1 : a e with
  | no => rw [h1] at P; exact P
  | ok f e1 =>
    rw [h1] at P
    cases f with
    | nx => exact fun F' H' σ' R' E => ⟨C, F', e1, R', PostS.mono E P⟩
    | bk => exact P
    | ct => exact P
    | ret r => exact P
  | ex x e1 => rw [h1] at P; exact P
end
section
variable {X : Cx} {w : Wd} {st : Stmt} {rest : List Stmt} {a b : St1} {as : List St1}
theorem vss_nil : PSs X [] (rdS w (block [])) := pss_mono pss_nil fun _ _ _ h => rd_skip h
theorem vss_one (h : PS X st (rdS w a)) : PSs X [st] (rdS w (block [a])) := pss_one h
theorem vss_cons (h1 : PS X st (rdS w a)) (h2 : PSs X rest (rdS w (block (b :: as)))) : PSs X (st :: rest) (rdS w (block (a :: b :: as))) := pss_mono (pss_cons h1 h2) fun _ _ _ h => rd_seq h
end
def asgS (i : Nat) (a : Ev) : St1 := fun e => (a e).bind fun r e1 => store i r e1
def asgTS (t : Tg) (a : Ev) : St1 := fun e => (toD a e).bind fun d e1 => match t.run d e1 with
  | some e2 => .ok .nx e2
  | none => .no
def putR (i : Nat) (r : Rv) (e : Env) : Rs Fl := match r with
  | .fz d' => if freeAt e i then .ok .nx (e.set i (some (.fz d'))) else .no
  | _ => .no
def augS (f : F2) (i : Nat) (a : Ev) : St1 := fun e => match e[i]? with
  | some (some (.fz d)) => (opd a e).bind fun y e1 => match e1[i]? with
    | some (some (.fz _)) => (ofO ((peek y e1).bind fun dy => f d dy) e1).bind fun r e2 => putR i r e2
    | _ => .no
  | _ => .no
def exprS (a : Ev) : St1 := fun e => (a e).bind fun _ e1 => .ok .nx e1
def retS (a : Ev) : St1 := fun e => (a e).bind fun r e1 => match r with
  | .fz d => .ok (.ret (.fz d)) e1
  | .fresh ds => .ok (.ret (.fresh ds)) e1
  | .bor i => match e1[i]? with
    | some (some (.own ds)) => .ok (.ret (.fresh ds)) (e1.set i none)
    | some (some (.fz d)) => .ok (.ret (.fz d)) e1
    | _ => .no
def retN : St1 := fun e => .ok (.ret (.fz .none)) e
def bkS : St1 := fun e => .ok .bk e
def ctS : St1 := fun e => .ok .ct e
def ifS (c : Sem1 Bool) (a b : St1) : St1 := fun e => (c e).bind fun k e1 => if k then a e1 else b e1
section
variable {w : Wd} {D : Ends} {a : Ev} {i : Nat} {c : Sem1 Bool} {s1 s2 : St1}
theorem rd_asg (h : rdS w (asgS i a) D σ H) : tAsg (rdR w a) (gName i) D σ H := by
  obtain ⟨C, F, e, R, P⟩ := h
  exact bindS R P fun F1 H1 e1 x v h1 R1 E1 q1 P1 => P1.store R1 q1
theorem rd_expr (h : rdS w (exprS a) D σ H) : tDrop (rdR w a) D σ H := by
  obtain ⟨C, F, e, R, P⟩ := h
  exact bindS R P fun F1 H1 e1 x v h1 R1 E1 q1 P1 => P1.nx' R1
theorem Rp.forget (R : Rp K C F H e σ) (i : Nat) : Rp K C F H (e.set i none) σ := by
  have low : ∀ {j : Nat} {y : Sv}, (e.set i none)[j]? = some (some y) → e[j]? = some (some y) := fun {j y} h => by
    rcases getset h with ⟨rfl, h'⟩ | ⟨hj, h⟩
    · cases h'
    · exact h
  refine ⟨by rw [List.length_set]; exact R.len, R.ext, R.off, R.frm, fun j x hx => ?_, R.ml, fun j k x y hjk hx hy mx my => ?_, tn_sub R.tn (fun j y hy => low hy) (fun j y hy my => ⟨y, low hy, my, rfl⟩), R.tup⟩
  · exact R.sl j x (low hx)
  · exact R.ne j k x y hjk (low hx) (low hy) mx my
theorem rd_ret (h : rdS w (retS a) D σ H) : tRet (rdR w a) D σ H := by
  obtain ⟨C, F, e, R, P⟩ := h
  refine bindS R P fun F1 H1 e1 x v h1 R1 E1 q1 P1 => ?_
  cases x with
  | fz d => exact P1 v F1 H1 σ R1 (.refl F1) q1 (.inr ⟨d, rfl⟩)
  | fresh ds => exact P1 v F1 H1 σ R1 (.refl F1) q1 (.inl rfl)
  | bor i =>
    have h' : σ[i]? = some (some v) := q1
    simp only at P1
    split at P1
    · rename_i ds hd
      obtain ⟨u, hu, p, vs, rfl, hp, hds, hF, hM⟩ := R1.sl _ _ hd
      rw [h'] at hu; cases hu
      refine P1 _ F1 H1 σ (R1.forget i) (.refl F1) ⟨p, vs, rfl, hp, hds, hF, hM, fun j y hy my hs => ?_, fun j fp ht hq => ?_⟩ (.inl rfl)
      · rcases getset hy with ⟨rfl, hy'⟩ | ⟨hj, hy⟩
        · cases hy'
        · exact R1.ne i j _ _ hj hd hy rfl my (by rw [h', hs])
      · obtain ⟨b, t, v, F', he, hv, o⟩ := ht
        rcases getset he with ⟨rfl, he'⟩ | ⟨hj, he⟩
        · cases he'
        · exact (R1.tn j fp ⟨b, t, v, F', he, hv, o⟩).1 p hq i _ hd rfl h'
    · rename_i d hd
      obtain ⟨u, hu, z⟩ := R1.sl _ _ hd
      rw [h'] at hu; cases hu
      exact P1 v F1 H1 σ R1 (.refl F1) z (.inr ⟨d, rfl⟩)
    · exact P1.elim
theorem rd_if (h : rdS w (ifS c s1 s2) D σ H) : tIfS (rdT w c) (rdS w s1) (rdS w s2) D σ H := by
  obtain ⟨C, F, e, R, P⟩ := h
  refine bindS R P fun F1 H1 e1 x v h1 R1 E1 q1 P1 => ?_
  cases q1
  cases x with
  | true => exact iteT ⟨C, F1, e1, R1, P1⟩
  | false => exact iteF ⟨C, F1, e1, R1, P1⟩
end
section
variable {X : Cx} {w : Wd} {ex c : Expr} {st : Stmt} {ss tt : List Stmt} {a : Ev} {s1 s2 : St1} {tc : Sem1 Bool} {t : Tg} {tg : Expr} {pos pos' : Pos} {x : Str} {i : Nat}
theorem vs_asg (hN : X.N.Nodup) (hi : X.N[i]? = some x) (hx : Loc X.env.scope x) (he : PE X ex (rdR w a)) (hs : swapsWith ex (some (.Name x pos')) pos.line X.env = pure false := by rfl) (hf : X.fn x = true ∨ X.env.scope.names.lookup x = some .local := by first | exact .inl rfl | exact .inr rfl | assumption) :
    PS X (.Assign [.Name x pos'] ex pos) (rdS w (asgS i a)) := ps_mono (ps_set hN hi hx he hs hf) fun _ _ _ h => rd_asg h
theorem vs_expr (he : PE X ex (rdR w a)) (hs : swapsWith ex none pos.line X.env = pure false := by rfl) : PS X (.Expr ex pos) (rdS w (exprS a)) := ps_mono (ps_expr he hs) fun _ _ _ h => rd_expr h
theorem vs_ret (he : PE X ex (rdR w a)) : PS X (.Return (some ex) pos) (rdS w (retS a)) := ps_mono (ps_ret he) fun _ _ _ h => rd_ret h
theorem vs_if (hc : PT X c (rdT w tc)) (h1 : PSs X ss (rdS w s1)) (h2 : PSs X tt (rdS w s2)) : PS X (.If c ss tt pos) (rdS w (ifS tc s1 s2)) := ps_mono (ps_if hc h1 h2) fun _ _ _ h => rd_if h
end
structure Src where
  items : List D
  lend : List Nat
def unlend : List Nat → Env → Env
  | [], e => e
  | i :: is, e => match e[i]? with
    | some (some (.lent ds)) => unlend is (e.set i (some (.own ds)))
    | _ => unlend is e
/-- the iterator J gives these items, whatever happens to what is free -/
structure ItOk (K : PySem.W.Frag) (C : Cf) (F : Hp) (J : It) (items : List D) : Prop where
  ex : ∃ (Gd : Hp → Prop) (Y : Nat → Hp → V → Hp → Prop), Walk J items.length Gd Y ∧ (∀ F2 H2 e2 σ2, Rp K C F2 H2 e2 σ2 → Ext F F2 → Gd H2) ∧
    ∀ i x H1 H2 F1, Ext F F1 → Ext F1 H1 → TupIn F1 H1 → Y i H1 x H2 → i < items.length → ∃ d, items[i]? = some d ∧ Res K F1 H1 (.fz d) x H2
/-- what was lent comes back -/
structure Back (K : PySem.W.Frag) (C C' : Cf) (l : List Nat) : Prop where
  rp : ∀ F2 H2 e2 σ2, Rp K C' F2 H2 e2 σ2 → Rp K C F2 H2 (unlend l e2) σ2
  rv : ∀ F2 H2 e2 σ2 ds v, Rp K C' F2 H2 e2 σ2 → RvR K C' F2 H2 e2 σ2 (.fresh ds) v → RvR K C F2 H2 (unlend l e2) σ2 (.fresh ds) v
def PostI (w : Wd) (C : Cf) (F : Hp) (σ : L2.St) (Rr : It → Hp → Prop) : Rs Src → Prop
  | .no => False
  | .ok s e1 => ∀ (C' : Cf) J F' H', Rp w.K C' F' H' e1 σ → Ext F F' → Back w.K C C' s.lend → ItOk w.K C' F' J s.items → Rr J H'
  | .ex x e' => ∀ F' H' cv od, Rp w.K C F' H' e' σ → Ext F F' → w.XR F' H' x cv od → w.W cv od σ H'
def rdI (w : Wd) (it : Sem1 Src) : TI := fun σ H Rr => ∃ C F e, Rp w.K C F H e σ ∧ PostI w C F σ Rr (it e)
theorem PostI.mono {w : Wd} {F1 : Hp} {Rr : It → Hp → Prop} (E : Ext F F1) {r : Rs Src} (h : PostI w C F σ Rr r) : PostI w C F1 σ Rr r := by
  cases r with
  | no => exact h
  | ok a e' => exact fun C' J F' H' R E' => h C' J F' H' R (E.trans E')
  | ex x e' => exact fun F' H' cv od R E' q => h F' H' cv od R (E.trans E') q
theorem bindI {w : Wd} {α β : Type} {RA : Cf → Hp → Hp → Env → L2.St → α → β → Prop} {Q1 : β → Hp → Prop} {Rr : It → Hp → Prop} {a : Sem1 α} {f : α → Env → Rs Src} (R : Rp w.K C F H e σ) (P : PostI w C F σ Rr ((a e).bind f))
    (k : ∀ F1 H1 e1 x v, a e = .ok x e1 → Rp w.K C F1 H1 e1 σ → Ext F F1 → RA C F1 H1 e1 σ x v → PostI w C F1 σ Rr (f x e1) → Q1 v H1) : Rd w RA a σ H Q1 := by
  refine ⟨C, F, e, R, ?_⟩
  cases h1 : a e with
  | no => rw [h1] at P; exact False.elim P
  | ok x e1 =>
    rw [h1] at P
    exact fun v F' H' R' E q => k F' H' e1 x v h1 R' E q (PostI.mono E P)
  | ex x e1 => rw [h1] at P; exact fun F' H' cv od R E q => P F' H' cv od R E q
def Rs.fin {α : Type} (f : Env → Env) : Rs α → Rs α
  | .no => .no
  | .ok a e => .ok a (f e)
  | .ex x e => .ex x (f e)
/-- the turns of a loop over these items -/
def turns (t : Tg) (b : St1) : List D → St1
  | [] => fun e => .ok .nx e
  | d :: ds => fun e => match t.run d e with
    | none => .no
    | some e1 => (b e1).bind fun f e2 => match f with
      | .nx => turns t b ds e2
      | .ct => turns t b ds e2
      | .bk => .ok .nx e2
      | .ret r => .ok (.ret r) e2
def forS (it : Sem1 Src) (t : Tg) (b : St1) : St1 := fun e => (it e).bind fun s e1 => (turns t b s.items e1).fin (unlend s.lend)
theorem rd_for {w : Wd} {D : Ends} {it : Sem1 Src} {t : Tg} {b : St1} (h : rdS w (forS it t b) D σ H) : tFor (rdI w it) (rdG w t) (rdS w b) D σ H := by
  obtain ⟨C, F, e, R, P⟩ := h
  refine ⟨C, F, e, R, ?_⟩
  unfold forS at P
  cases h1 : it e with
  | no => rw [h1] at P; exact P
  | ex x e1 => rw [h1] at P; exact fun F' H' cv od R E q => P F' H' σ cv od R E q
  | ok s e1 =>
    rw [h1] at P
    intro C' J F' H' R' E back ok
    obtain ⟨Gd, Y, wk, hGd, hY⟩ := ok.ex
    have P : PostS w C F' D ((turns t b s.items e1).fin (unlend s.lend)) := PostS.mono E P
    refine for_it wk (fun i σ1 H1 => ∃ F1 e2, Rp w.K C' F1 H1 e2 σ1 ∧ Ext F' F1 ∧ PostS w C F1 D ((turns t b (s.items.drop i) e2).fin (unlend s.lend))) ⟨F', e1, R', .refl F', P⟩ (fun i σ1 H1 _ ⟨F1, e2, R1, E1, _⟩ => hGd F1 H1 e2 σ1 R1 E1) ?_ ?_
    · rintro i x σ1 H1 H2 hi ⟨F1, e2, R1, E1, P1⟩ y
      obtain ⟨d, hd, res⟩ := hY i x H1 H2 F1 E1 R1.ext R1.tup y hi
      obtain ⟨F2, R2, E2, q2⟩ := res.rp R1
      have hdrop : s.items.drop i = d :: s.items.drop (i + 1) := by
        rw [← List.getElem_cons_drop (h := hi)]
        rw [List.getElem?_eq_getElem hi] at hd
        rw [Option.some.inj hd]
      rw [hdrop] at P1
      unfold turns at P1
      cases h2 : t.run d e2 with
      | none => rw [h2] at P1; exact P1.elim
      | some e3 =>
        rw [h2] at P1
        refine ⟨C', F2, e2, d, e3, R2, q2, h2, fun σ2 R3 _ => ⟨C', F2, e3, R3, ?_⟩⟩
        have E02 : Ext F' F2 := E1.trans E2
        have P1 : PostS w C F2 D (((b e3).bind fun f e2 => match f with | .nx => turns t b (s.items.drop (i + 1)) e2 | .ct => turns t b (s.items.drop (i + 1)) e2 | .bk => .ok .nx e2 | .ret r => .ok (.ret r) e2).fin (unlend s.lend)) := PostS.mono E2 P1
        cases h3 : b e3 with
        | no => rw [h3] at P1; exact P1
        | ex x e4 => rw [h3] at P1; exact fun F' H' σ' cv od R E q => P1 F' H' σ' cv od (back.rp _ _ _ _ R) E q
        | ok f e4 =>
          rw [h3] at P1
          cases f with
          | nx => exact fun F3 H3 σ3 R4 E3 => ⟨F3, e4, R4, E02.trans E3, PostS.mono E3 P1⟩
          | ct => exact fun F3 H3 σ3 R4 E3 => ⟨F3, e4, R4, E02.trans E3, PostS.mono E3 P1⟩
          | bk => exact fun F3 H3 σ3 R4 E3 => P1 F3 H3 σ3 (back.rp _ _ _ _ R4) E3
          | ret r =>
            intro v F3 H3 σ3 R4 E3 q hr
            refine P1 v F3 H3 σ3 (back.rp _ _ _ _ R4) E3 ?_ hr
            cases r with
            | fz d => exact q
            | fresh ds => exact back.rv _ _ _ _ ds v R4 q
            | bor j => rcases hr with hr | ⟨_, hr⟩ <;> cases hr
    · rintro σ1 H1 ⟨F1, e2, R1, E1, P1⟩
      rw [List.drop_length] at P1
      exact P1 F1 H1 σ1 (back.rp _ _ _ _ R1) (.refl F1)
theorem vs_for {X : Cx} {w : Wd} {tg iter : Expr} {body : List Stmt} {it : Sem1 Src} {t : Tg} {b : St1} {pos : Pos} (hp : PassesOwn (model X.prog X.w) X.A X.env X.xe) (hc : X.calm = true) (hi : PI X tg iter (rdI w it)) (hg : PG X tg (rdG w t)) (hb : PSs X body (rdS w b))
    (hs : ∀ x, foldedSetIterable iter X.env x = pure x := by intro _; rfl) : PS X (.For tg iter body [] pos) (rdS w (forS it t b)) := ps_mono (ps_for hp hc hi hg hb hs) fun _ _ _ h => rd_for h
def srcR (r : Rv) (e : Env) : Rs Src := match r with
  | .fz (.list ds) => .ok ⟨ds, []⟩ e
  | .fz (.tuple ds) => .ok ⟨ds, []⟩ e
  | .bor i => match e[i]? with
    | some (some (.fz (.list ds))) => .ok ⟨ds, []⟩ e
    | some (some (.fz (.tuple ds))) => .ok ⟨ds, []⟩ e
    | some (some (.lent ds)) => .ok ⟨ds, []⟩ e
    | some (some (.own ds)) => .ok ⟨ds, [i]⟩ (e.set i (some (.lent ds)))
    | _ => .no
  | _ => .no
def srcE (a : Ev) : Sem1 Src := fun e => (opd a e).bind srcR
theorem back_nil : Back K C C [] := ⟨fun _ _ _ _ R => R, fun _ _ _ _ _ _ _ q => q⟩
/-- a list or a tuple that stands still, walked as it is -/
theorem itOk_list {F : Hp} {a : Addr} {xs : List V} {ds : List D} (hd : DpAll K F xs ds) (hs : ∀ F2 H2 e2 σ2, Rp K C F2 H2 e2 σ2 → Ext F F2 → SqL K H2 a xs) : ItOk K C F (Itl K a) ds := by
  refine ⟨fun H => SqL K H a xs, YAt xs, by rw [← hd.length]; exact walk_list, hs, fun i x H1 H2 F1 E _ _ y hi => ?_⟩
  obtain ⟨rfl, hx⟩ := y
  obtain ⟨d, h1, h2⟩ := hd.get' hx
  exact ⟨d, h1, .old (Dp.ext E h2)⟩
theorem itOk_tup {F : Hp} {a : Addr} {xs : List V} {ds : List D} (hd : DpAll K F xs ds) (hs : ∀ F2 H2 e2 σ2, Rp K C F2 H2 e2 σ2 → Ext F F2 → SqT K H2 a xs) : ItOk K C F (Itt K a) ds := by
  refine ⟨fun H => SqT K H a xs, YAt xs, by rw [← hd.length]; exact walk_tup, hs, fun i x H1 H2 F1 E _ _ y hi => ?_⟩
  obtain ⟨rfl, hx⟩ := y
  obtain ⟨d, h1, h2⟩ := hd.get' hx
  exact ⟨d, h1, .old (Dp.ext E h2)⟩
/-- the cfg in which i's list is lent -/
def Cf.lendC (C : Cf) (H : Hp) (i : Nat) (p : Addr) : Cf := ⟨fun a => C.M a ∨ a = p, H, fun j => if j = i then p else C.lam j, fun j => C.Ml j ∨ j = i⟩
theorem Rp.lend (R : Rp K C F H e σ) {i : Nat} {ds : List D} {p : Addr} {vs : List V} (he : e[i]? = some (some (.own ds))) (hv : σ[i]? = some (some (.ref p))) (hp : H p = some (.lst vs)) (hd : DpAll K F vs ds) (hF : F p = none) (hM : ¬ C.M p) :
    Rp K (C.lendC H i p) F H (e.set i (some (.lent ds))) σ ∧ Back K C (C.lendC H i p) [i] := by
  have ne : ∀ j y, j ≠ i → e[j]? = some (some y) → y.mu = true → σ[j]? ≠ some (some (.ref p)) := fun j y hj hy my z => R.ne i j _ _ (Ne.symm hj) he hy rfl my (by rw [hv, z])
  have lowT : ∀ {j : Nat} {y : Bool × OT}, (e.set i (some (.lent ds)))[j]? = some (some (Sv.tr y.1 y.2)) → e[j]? = some (some (Sv.tr y.1 y.2)) := fun {j y} h => by
    rcases getset h with ⟨rfl, h'⟩ | ⟨hj, h⟩
    · cases h'
    · exact h
  refine ⟨⟨by rw [List.length_set]; exact R.len, R.ext, fun a ha => ?_, fun a ha => ⟨rfl, ?_⟩, fun j x hx => ?_, fun j hj => ?_, fun j k x y hjk hx hy mx my => ?_, tn_sub R.tn (fun j y hy => lowT hy) (fun j y hy my => ?_), R.tup⟩, ⟨fun F2 H2 e2 σ2 R2 => ?_, fun F2 H2 e2 σ2 ds v R2 q => ?_⟩⟩
  · rcases ha with ha | rfl
    · exact R.off a ha
    · exact hF
  · rcases ha with ha | rfl
    · show H a ≠ none; rw [(R.frm a ha).1]; exact (R.frm a ha).2
    · show H a ≠ none; rw [hp]; exact fun z => by cases z
  · rcases getset hx with ⟨rfl, hx'⟩ | ⟨hj, hx⟩
    · cases hx'
      refine ⟨_, hv, vs, ?_, ?_, hd, .inr rfl⟩
      · show _ = V.ref (if _ then p else _); rw [if_pos rfl]
      · show H (if _ then p else _) = _; rw [if_pos rfl]; exact hp
    · obtain ⟨u, hu, q⟩ := R.sl j x hx
      refine ⟨u, hu, ?_⟩
      have hl : (C.lendC H i p).lam j = C.lam j := by show (if j = i then p else C.lam j) = _; rw [if_neg (Ne.symm hj)]
      cases x with
      | fz d => exact q
      | own ds' =>
        obtain ⟨p', vs', rfl, h1, h2, h3, h4⟩ := q
        refine ⟨p', vs', rfl, h1, h2, h3, fun z => ?_⟩
        rcases z with z | rfl
        · exact h4 z
        · exact ne j _ (Ne.symm hj) hx rfl hu
      | lent ds' =>
        obtain ⟨vs', rfl, h1, h2, h3⟩ := q
        exact ⟨vs', by rw [hl], by rw [hl]; exact h1, h2, .inl h3⟩
      | io ds' =>
        obtain ⟨vs', rfl, h1, h2, h3, h4⟩ := q
        refine ⟨vs', by rw [hl], by rw [hl]; exact h1, h2, by rw [hl]; exact h3, fun z => ?_⟩
        rw [hl] at z
        rcases z with z | z
        · exact h4 z
        · exact ne j _ (Ne.symm hj) hx rfl (by rw [hu, z])
      | tr b t =>
        obtain ⟨fp, o, nd, h, hb⟩ := q
        refine ⟨fp, o, nd, fun a ha => ⟨(h a ha).1, fun z => ?_⟩, by rw [hl]; exact hb⟩
        rcases z with z | z
        · exact (h a ha).2 z
        · exact (R.tn j fp ⟨b, t, u, F, hx, hu, o⟩).1 a ha i _ he rfl (by rw [hv, z])
  · show C.M _ ∨ _ = p
    rcases hj with hj | rfl
    · by_cases q : j = i
      · right; show (if j = i then p else _) = p; rw [if_pos q]
      · left; show C.M (if j = i then p else _); rw [if_neg q]; exact R.ml j hj
    · right; show (if _ then p else _) = p; rw [if_pos rfl]
  · rcases getset hx with ⟨rfl, hx'⟩ | ⟨hj, hx⟩
    · cases hx'; cases mx
    · rcases getset hy with ⟨rfl, hy'⟩ | ⟨hk, hy⟩
      · cases hy'; cases my
      · exact R.ne j k x y hjk hx hy mx my
  · rcases getset hy with ⟨rfl, hy'⟩ | ⟨hj, hy⟩
    · cases hy'; cases my
    · exact ⟨_, hy, my, rfl⟩
  -- back
  · have weak : Rp K C F2 H2 (match e2[i]? with | some (some (.lent ds)) => e2.set i (some (.own ds)) | _ => e2) σ2 ∨ True := .inr trivial
    have ofs : ∀ j x u, j ≠ i → SvR K (C.lendC H i p) F2 H2 j x u → SvR K C F2 H2 j x u := fun j x u hj q => by
      have hl : (C.lendC H i p).lam j = C.lam j := by show (if j = i then p else C.lam j) = _; rw [if_neg hj]
      cases x with
      | fz d => exact q
      | own ds' => obtain ⟨p', vs', rfl, h1, h2, h3, h4⟩ := q; exact ⟨p', vs', rfl, h1, h2, h3, fun z => h4 (.inl z)⟩
      | lent ds' =>
        obtain ⟨vs', rfl, h1, h2, h3⟩ := q
        rw [hl] at h1
        refine ⟨vs', by rw [hl], h1, h2, ?_⟩
        rcases h3 with h3 | h3
        · exact h3
        · exact absurd h3 hj
      | io ds' =>
        obtain ⟨vs', rfl, h1, h2, h3, h4⟩ := q
        rw [hl] at h1 h3 h4
        exact ⟨vs', by rw [hl], h1, h2, h3, fun z => h4 (.inl z)⟩
      | tr b t =>
        obtain ⟨fp, o, nd, h, hb⟩ := q
        rw [hl] at hb
        exact ⟨fp, o, nd, fun a ha => ⟨(h a ha).1, fun z => (h a ha).2 (.inl z)⟩, hb⟩
    have frm : ∀ a, C.M a → H2 a = C.G a ∧ C.G a ≠ none := fun a ha => by
      have h := R2.frm a (.inl ha)
      have h' := R.frm a ha
      exact ⟨h.1.trans h'.1, h'.2⟩
    have hl : (C.lendC H i p).lam i = p := by show (if i = i then p else _) = p; rw [if_pos rfl]
    cases hq : e2[i]? with
    | none => 
      have : unlend [i] e2 = e2 := by unfold unlend; rw [hq]; rfl
      rw [this]
      exact ⟨R2.len, R2.ext, fun a ha => R2.off a (.inl ha), frm, fun j x hx => by
        have hj : j ≠ i := fun z => by rw [z, hq] at hx; cases hx
        obtain ⟨u, hu, q⟩ := R2.sl j x hx
        exact ⟨u, hu, ofs j x u hj q⟩, R.ml, R2.ne, R2.tn, R2.tup⟩
    | some o =>
      by_cases hlent : ∃ ds', o = some (.lent ds')
      · obtain ⟨ds', rfl⟩ := hlent
        have : unlend [i] e2 = e2.set i (some (.own ds')) := by unfold unlend; rw [hq]; rfl
        rw [this]
        obtain ⟨u, hu, vs', hu', h1, h2, h3⟩ := R2.sl i _ hq
        rw [hl] at hu' h1
        subst hu'
        have pF : F2 p = none := R2.off p (.inr rfl)
        have apt : ∀ j y, j ≠ i → e2[j]? = some (some y) → y.mu = true → σ2[j]? ≠ some (some (.ref p)) := fun j y hj hy my z => by
          obtain ⟨u, hu, q⟩ := R2.sl j y hy
          rw [z] at hu; cases hu
          cases y with
          | fz d => cases my
          | own ds' => obtain ⟨p', vs', h0, _, _, _, h4⟩ := q; cases h0; exact h4 (.inr rfl)
          | lent ds' => cases my
          | io ds' => obtain ⟨vs', h0, _, _, _, h4⟩ := q; injection h0 with h0; rw [← h0] at h4; exact h4 (.inr rfl)
          | tr b t => cases my
        have upT : ∀ {j fp}, TrAt K H2 (e2.set i (some (.own ds'))) σ2 j fp → TrAt K H2 e2 σ2 j fp := fun {j fp} h => by
          obtain ⟨b, t, v, F', he, hv, o⟩ := h
          rcases getset he with ⟨rfl, he'⟩ | ⟨hj, he⟩
          · cases he'
          · exact ⟨b, t, v, F', he, hv, o⟩
        refine ⟨by rw [List.length_set]; exact R2.len, R2.ext, fun a ha => R2.off a (.inl ha), frm, fun j x hx => ?_, R.ml, fun j k x y hjk hx hy mx my => ?_, fun j fp h => ⟨fun a ha k y hy my hs => ?_, fun k fp' hk h' => (R2.tn j fp (upT h)).2 k fp' hk (upT h')⟩, R2.tup⟩
        · rcases getset hx with ⟨rfl, hx'⟩ | ⟨hj, hx⟩
          · cases hx'; exact ⟨_, hu, p, vs', rfl, h1, h2, pF, hM⟩
          · obtain ⟨u, hu, q⟩ := R2.sl j x hx
            exact ⟨u, hu, ofs j x u (Ne.symm hj) q⟩
        · rcases getset hx with ⟨rfl, hx'⟩ | ⟨hj, hx⟩
          · rcases getset hy with ⟨rfl, hy'⟩ | ⟨hk, hy⟩
            · exact absurd rfl hjk
            · rw [hu]; exact fun z => apt k y (Ne.symm hk) hy my z.symm
          · rcases getset hy with ⟨rfl, hy'⟩ | ⟨hk, hy⟩
            · rw [hu]; exact fun z => apt j x (Ne.symm hj) hx mx z
            · exact R2.ne j k x y hjk hx hy mx my
        · rcases getset hy with ⟨rfl, hy'⟩ | ⟨hk, hy⟩
          · rw [hu] at hs; cases hs
            exact ((R2.trFp (upT h)).1 _ ha).2.1 (.inr rfl)
          · exact (R2.tn j fp (upT h)).1 a ha k y hy my hs
      · have : unlend [i] e2 = e2 := by
          unfold unlend; rw [hq]
          cases o with
          | none => rfl
          | some x => cases x <;> first | rfl | exact absurd ⟨_, rfl⟩ hlent
        rw [this]
        refine ⟨R2.len, R2.ext, fun a ha => R2.off a (.inl ha), frm, fun j x hx => ?_, R.ml, R2.ne, R2.tn, R2.tup⟩
        obtain ⟨u, hu, q⟩ := R2.sl j x hx
        refine ⟨u, hu, ?_⟩
        by_cases hj : j = i
        · subst hj
          rw [hq] at hx; cases hx
          cases x with
          | fz d => exact q
          | own ds' => obtain ⟨p', vs', rfl, h1, h2, h3, h4⟩ := q; exact ⟨p', vs', rfl, h1, h2, h3, fun z => h4 (.inl z)⟩
          | lent ds' => exact absurd ⟨_, rfl⟩ hlent
          | io ds' => obtain ⟨vs', h0, h1, h2, h3, h4⟩ := q; rw [hl] at h4; exact absurd (.inr rfl) h4
          | tr b t =>
            obtain ⟨fp, o, nd, h, hb⟩ := q
            refine ⟨fp, o, nd, fun a ha => ⟨(h a ha).1, fun z => (h a ha).2 (.inl z)⟩, fun z => ?_⟩
            have := hb z
            rw [hl] at this
            exact absurd (.inr rfl) (h p this.2).2
        · exact ofs j x u hj q
  · obtain ⟨p', vs', rfl, h1, h2, h3, h4, ap⟩ := q
    refine ⟨p', vs', rfl, h1, h2, h3, fun z => h4 (.inl z), fun j y hy my hs => ?_, fun j fp h => ap.2 j fp ?_⟩
    rotate_left
    · obtain ⟨b, t, v, F', he, hv, o⟩ := h
      unfold unlend at he
      split at he
      · rename_i ds' hds
        have he : (e2.set i (some (.own ds')))[j]? = some (some (Sv.tr b t)) := he
        rcases getset he with ⟨rfl, he'⟩ | ⟨hj, he⟩
        · cases he'
        · exact ⟨b, t, v, F', he, hv, o⟩
      · exact ⟨b, t, v, F', he, hv, o⟩
    unfold unlend at hy
    split at hy
    · rename_i ds' hds
      have hy : (e2.set i (some (.own ds')))[j]? = some (some y) := hy
      rcases getset hy with ⟨rfl, hy'⟩ | ⟨hj, hy⟩
      · obtain ⟨u, hu, vs2, hu', q1, q2, q3⟩ := R2.sl _ _ hds
        have hl : (C.lendC H i p).lam i = p := by show (if i = i then p else _) = p; rw [if_pos rfl]
        rw [hs] at hu; cases hu
        rw [hl] at hu'; cases hu'
        exact h4 (.inr rfl)
      · exact ap.1 j y hy my hs
    · exact ap.1 j y hy my hs
/-- one that is to be walked: it stands at a -/
theorem PostI.src {w : Wd} {r : Rv} {v : V} {Rr : It → Hp → Prop} (R : Rp w.K C F H e σ) (hs : r.still = true) (q : RvR w.K C F H e σ r v) (P : PostI w C F σ Rr (srcR r e)) :
    ((∀ ds, peek r e ≠ some (.tuple ds)) → ∃ a, v = .ref a ∧ (∃ xs, SqL w.K H a xs) ∧ Rr (Itl w.K a) H) ∧ (∀ ds, peek r e = some (.tuple ds) → ∃ a, v = .ref a ∧ (∃ xs, SqT w.K H a xs) ∧ Rr (Itt w.K a) H) := by
  have lst : ∀ {ds : List D}, Dp w.K F v (.list ds) → PostI w C F σ Rr (.ok ⟨ds, []⟩ e) → ∃ a, v = .ref a ∧ (∃ xs, SqL w.K H a xs) ∧ Rr (Itl w.K a) H := fun {ds} z P => by
    cases z with
    | lst h1 h2 => exact ⟨_, rfl, ⟨_, .inl (ext_rd R.ext h1)⟩, P C (Itl w.K _) F H R (.refl F) back_nil (itOk_list h2 fun F2 H2 e2 σ2 R2 E2 => .inl (ext_rd (E2.trans R2.ext) h1))⟩
  have tup : ∀ {ds : List D}, Dp w.K F v (.tuple ds) → PostI w C F σ Rr (.ok ⟨ds, []⟩ e) → ∃ a, v = .ref a ∧ (∃ xs, SqT w.K H a xs) ∧ Rr (Itt w.K a) H := fun {ds} z P => by
    cases z with
    | tup h1 h2 => exact ⟨_, rfl, ⟨_, ext_t R.ext h1⟩, P C (Itt w.K _) F H R (.refl F) back_nil (itOk_tup h2 fun F2 H2 e2 σ2 R2 E2 => ext_t (E2.trans R2.ext) h1)⟩
  cases r with
  | fresh ds => cases hs
  | fz d =>
    cases d with
    | list ds => exact ⟨fun _ => lst q P, fun ds' z => by cases z⟩
    | tuple ds => exact ⟨fun z => absurd rfl (z ds), fun ds' z => tup q P⟩
    | _ => exact P.elim
  | bor i =>
    have h' : σ[i]? = some (some v) := q
    unfold srcR at P
    simp only at P
    split at P
    · rename_i ds hd
      obtain ⟨u, hu, z⟩ := R.sl _ _ hd
      rw [h'] at hu; cases hu
      refine ⟨fun _ => lst z P, fun ds' z => ?_⟩
      have z : look e i = some (.tuple ds') := z
      unfold look at z; rw [hd] at z; cases z
    · rename_i ds hd
      obtain ⟨u, hu, z⟩ := R.sl _ _ hd
      rw [h'] at hu; cases hu
      refine ⟨fun n => absurd ?_ (n ds), fun ds' _ => tup z P⟩
      show look e i = _
      unfold look; rw [hd]
    · rename_i ds hd
      obtain ⟨u, hu, vs, rfl, h1, h2, h3⟩ := R.sl _ _ hd
      rw [h'] at hu; cases hu
      refine ⟨fun _ => ⟨_, rfl, ⟨_, SqL.of h1⟩, P C (Itl w.K _) F H R (.refl F) back_nil (itOk_list h2 fun F2 H2 e2 σ2 R2 E2 => SqL.of ?_)⟩, fun ds' z => ?_⟩
      · have k1 := R.frm _ (R.ml _ h3)
        have k2 := R2.frm _ (R.ml _ h3)
        rw [k2.1, ← k1.1]; exact h1
      · have z : look e i = some (.tuple ds') := z
        unfold look at z; rw [hd] at z; cases z
    · rename_i ds hd
      obtain ⟨u, hu, p, vs, rfl, h1, h2, h3, h4⟩ := R.sl _ _ hd
      rw [h'] at hu; cases hu
      obtain ⟨R1, B⟩ := R.lend hd h' h1 h2 h3 h4
      refine ⟨fun _ => ⟨_, rfl, ⟨_, SqL.of h1⟩, P (C.lendC H i p) (Itl w.K p) F H R1 (.refl F) B (itOk_list h2 fun F2 H2 e2 σ2 R2 E2 => SqL.of ?_)⟩, fun ds' z => ?_⟩
      · rw [(R2.frm p (.inr rfl)).1]; exact h1
      · have z : look e i = some (.tuple ds') := z
        unfold look at z; rw [hd] at z; cases z
    · exact P.elim
theorem rd_src {w : Wd} {a : Ev} {Rr : It → Hp → Prop} (h : rdI w (srcE a) σ H Rr) : iList w.K (rdR w a) σ H Rr ∨ iTup w.K (rdR w a) σ H Rr := by
  obtain ⟨C, F, e, R, P⟩ := h
  by_cases ht : ∃ r e1 ds, opd a e = .ok r e1 ∧ peek r e1 = some (.tuple ds)
  · right
    refine rd_opd (bindI R P fun F1 H1 e1 r v h1 R1 E1 q1 P1 => ?_)
    obtain ⟨r', e1', ds, z1, z2⟩ := ht
    rw [z1] at h1; cases h1
    exact (P1.src R1 (opd_still z1) q1).2 ds z2
  · left
    refine rd_opd (bindI R P fun F1 H1 e1 r v h1 R1 E1 q1 P1 => ?_)
    exact (P1.src R1 (opd_still h1) q1).1 fun ds z => ht ⟨r, e1, ds, h1, z⟩
section
variable {X : Cx} {w : Wd} {tg iter a b c : Expr} {ea : Ev} {W : WX} {XR : Hp → Hp → Xc → Value → Option Addr → Prop}
theorem pi_mono {t t' : TI} (h : PI X tg iter t) (w : ∀ σ H R, t' σ H R → t σ H R) : PI X tg iter t' := ⟨fun pins s σ H R I q => h.run pins s σ H R I (w σ H R q)⟩
theorem pi_or {t t' : TI} (h : PI X tg iter t) (h' : PI X tg iter t') : PI X tg iter (fun σ H R => t σ H R ∨ t' σ H R) := ⟨fun pins s σ H R I q => q.elim (h.run pins s σ H R I) (h'.run pins s σ H R I)⟩
/-- over a list or a tuple -/
theorem vi_src (h : PE X iter (rdR (wd X W XR) ea)) : PI X tg iter (rdI (wd X W XR) (srcE ea)) := pi_mono (pi_or (pi_list h) (pi_tup h)) fun _ _ _ q => rd_src q
end
def intsOf (lo : Int) (n : Nat) : List D := (List.range n).map fun i => .int (lo + (i : Nat))
theorem itOk_range {F : Hp} {lo : Int} {n : Nat} : ItOk K C F (Itr lo n) (intsOf lo n) := by
  have hl : (intsOf lo n).length = n := by unfold intsOf; rw [List.length_map, List.length_range]
  refine ⟨fun _ => True, YFn fun i => .int (lo + i), by rw [hl]; exact walk_range, fun _ _ _ _ _ _ => trivial, fun i x H1 H2 F1 E _ _ y hi => ?_⟩
  obtain ⟨rfl, rfl⟩ := y
  refine ⟨.int (lo + (i : Nat)), ?_, .old (.int _)⟩
  unfold intsOf
  rw [hl] at hi
  rw [List.getElem?_map, List.getElem?_range hi]
  rfl
def inR (i : Int) : Bool := decide (-(2 ^ 62) ≤ i) && decide (i < 2 ^ 62)
def rng1 (a : Ev) : Sem1 Src := fun e => (opd a e).bind fun r e1 => match r with
  | .fz (.int j) => if inR j then .ok ⟨intsOf 0 j.toNat, []⟩ e1 else .no
  | _ => .no
def rng2 (a b : Ev) : Sem1 Src := fun e => (opd a e).bind fun r e1 => (opd b e1).bind fun s e2 => match r, s with
  | .fz (.int i), .fz (.int j) => if inR i && inR j then .ok ⟨intsOf i (j - i).toNat, []⟩ e2 else .no
  | _, _ => .no
theorem inR_ok {i : Int} (h : inR i = true) : -(2 ^ 62) ≤ i ∧ i < 2 ^ 62 := by
  unfold inR at h
  simpa using h
theorem rd_rng1 {w : Wd} {a : Ev} {Rr : It → Hp → Prop} (h : rdI w (rng1 a) σ H Rr) : iRng1 (tCons (rdR w a) tNil) σ H Rr := by
  obtain ⟨C, F, e, R, P⟩ := h
  refine rd_opd (bindI R P fun F1 H1 e1 r v h1 R1 E1 q1 P1 => ?_)
  split at P1
  · rename_i j
    split at P1
    · rename_i hj
      cases q1
      exact ⟨j, rfl, (inR_ok hj).1, (inR_ok hj).2, P1 C _ F1 H1 R1 (.refl F1) back_nil itOk_range⟩
    · exact P1.elim
  · exact P1.elim
section
variable {X : Cx} {w : Wd} {tg a b c : Expr} {ea eb : Ev} {p pos : Pos}
theorem vi_rng1 (hg : Gl X "range") (hm : X.mg "range" = none) (ha : PE X a (rdR w ea)) (h1 : starEach [a] X.env = (false, eval a X.env) :: starEach [] X.env := by rfl) (hs : starEach [a] X.env = [(false, eval a X.env)] := by rfl) : PI X tg (.Call (.Name "range" p) [a] [] pos) (rdI w (rng1 ea)) :=
  pi_mono (pi_range1 hg hm (pa_cons ha pa_nil h1) hs) fun _ _ _ q => rd_rng1 q
end
end VI
set_option Elab.async false
set_option linter.all false
set_option maxRecDepth 100000
set_option maxHeartbeats 4000000
namespace VI
open PySem PySem.Spec PyProof.Rows L2
variable {K : PySem.W.Frag} {C : Cf} {F H : Hp} {e e' : Env} {σ : L2.St}
def wipeE (e : Env) : List Nat → Env
  | [] => e
  | v :: vs => (wipeE e vs).set v none
/-- the block's own names get back what they held, where that lay still -/
def backE (e0 : Env) : List Nat → Env → Env
  | [], e => e
  | v :: vs, e => match e0[v]? with
    | some (some (.fz d)) => (backE e0 vs e).set v (some (.fz d))
    | _ => (backE e0 vs e).set v none
def lcTurns (t : Tg) (c : Sem1 Bool) (elt : Ev) (own : List Nat) : List D → Env → Option (List D × Env)
  | [], e => some ([], e)
  | d :: ds, e => match t.run d e with
    | none => none
    | some e1 => match c e1 with
      | .ok true e2 => match toD elt e2 with
        | .ok y e3 => (lcTurns t c elt own ds (wipeE e3 own)).bind fun r => some (y :: r.1, r.2)
        | _ => none
      | .ok false e2 => lcTurns t c elt own ds (wipeE e2 own)
      | _ => none
def lcS (it : Sem1 Src) (t : Tg) (c : Sem1 Bool) (elt : Ev) (own : List Nat) : Ev := fun e => (it e).bind fun s e1 =>
  if s.items.length ≤ sizeLine ∧ (∀ i ∈ t.ix, i ∈ own) then match lcTurns t c elt own s.items (wipeE e1 own) with
    | none => .no
    | some (ds, e2) => .ok (.fresh ds) (unlend s.lend (backE e1 own e2))
  else .no
def yesT : Sem1 Bool := fun e => .ok true e
/-- in a block nothing is raised -/
def Wd.calm (w : Wd) : Wd := ⟨w.K, fun _ _ _ _ => False, w.XR⟩
theorem wipeE_get {e : Env} {i : Nat} {x : Sv} : ∀ {vs : List Nat}, (wipeE e vs)[i]? = some (some x) → e[i]? = some (some x) ∧ i ∉ vs
  | [], h => ⟨h, by simp⟩
  | v :: vs, h => by
    unfold wipeE at h
    rcases getset h with ⟨_, z⟩ | ⟨hn, h⟩
    · cases z
    · obtain ⟨h1, h2⟩ := wipeE_get h
      exact ⟨h1, by simp only [List.mem_cons, not_or]; exact ⟨fun z => hn z.symm, h2⟩⟩
theorem wipeE_len {e : Env} : ∀ {vs : List Nat}, (wipeE e vs).length = e.length
  | [] => rfl
  | v :: vs => by unfold wipeE; rw [List.length_set, wipeE_len]
theorem wipe_len {σ : L2.St} : ∀ {vs : List Nat}, (wipe σ vs).length = σ.length
  | [] => rfl
  | v :: vs => by unfold wipe; rw [List.length_set, wipe_len]
theorem Rp.wipe (R : Rp K C F H e σ) (vs : List Nat) : Rp K C F H (wipeE e vs) (L2.wipe σ vs) := by
  have at' : ∀ {i : Nat} {x : Sv}, (wipeE e vs)[i]? = some (some x) → e[i]? = some (some x) ∧ (L2.wipe σ vs)[i]? = σ[i]? := fun {i x} h => by
    obtain ⟨h1, h2⟩ := wipeE_get h
    exact ⟨h1, wipe_out h2⟩
  refine ⟨by rw [wipeE_len, wipe_len]; exact R.len, R.ext, R.off, R.frm, fun i x hx => ?_, R.ml, fun i j x y hij hx hy mx my => ?_, tn_sub R.tn (fun j y hy => (at' hy).1) (fun j y hy my => ⟨y, (at' hy).1, my, (at' hy).2⟩) (fun j y hy => (at' hy).2), R.tup⟩
  · obtain ⟨h1, h2⟩ := at' hx
    rw [h2]; exact R.sl i x h1
  · obtain ⟨h1, h2⟩ := at' hx
    obtain ⟨h3, h4⟩ := at' hy
    rw [h2, h4]; exact R.ne i j x y hij h1 h3 mx my
theorem backE_get {e0 e : Env} {i : Nat} {x : Sv} : ∀ {vs : List Nat}, (backE e0 vs e)[i]? = some (some x) → (i ∈ vs ∧ e0[i]? = some (some x) ∧ ∃ d, x = .fz d) ∨ (i ∉ vs ∧ e[i]? = some (some x))
  | [], h => .inr ⟨by simp, h⟩
  | v :: vs, h => by
    unfold backE at h
    have key : ∀ {o : Option Sv}, ((backE e0 vs e).set v o)[i]? = some (some x) → (v = i ∧ o = some x) ∨ (v ≠ i ∧ (backE e0 vs e)[i]? = some (some x)) := fun h => getset h
    have rest : v ≠ i → (backE e0 vs e)[i]? = some (some x) → (i ∈ v :: vs ∧ e0[i]? = some (some x) ∧ ∃ d, x = .fz d) ∨ (i ∉ v :: vs ∧ e[i]? = some (some x)) := fun hn h => by
      rcases backE_get h with ⟨h1, h2⟩ | ⟨h1, h2⟩
      · exact .inl ⟨List.mem_cons_of_mem _ h1, h2⟩
      · exact .inr ⟨by simp only [List.mem_cons, not_or]; exact ⟨fun z => hn z.symm, h1⟩, h2⟩
    split at h
    · rename_i d hd
      rcases key h with ⟨rfl, z⟩ | ⟨hn, h⟩
      · cases z; exact .inl ⟨List.mem_cons_self, hd, d, rfl⟩
      · exact rest hn h
    · rcases key h with ⟨rfl, z⟩ | ⟨hn, h⟩
      · cases z
      · exact rest hn h
theorem backE_len {e0 e : Env} : ∀ {vs : List Nat}, (backE e0 vs e).length = e.length
  | [] => rfl
  | v :: vs => by
    unfold backE
    split <;> rw [List.length_set, backE_len]
/-- behind the block -/
theorem Rp.unwipe {F1 H1 : Hp} {e0 e1 : Env} (R0 : Rp K C F H e0 σ) {vs : List Nat} (R : Rp K C F1 H1 e1 (L2.wipe σ vs)) (E : Ext F F1) : Rp K C F1 H1 (backE e0 vs e1) σ := by
  have lowT : ∀ {j : Nat} {y : Sv}, (∀ d, y ≠ .fz d) → (backE e0 vs e1)[j]? = some (some y) → e1[j]? = some (some y) ∧ (L2.wipe σ vs)[j]? = σ[j]? := fun {j y} nf hy => by
    rcases backE_get hy with ⟨_, _, d, rfl⟩ | ⟨h1, h2⟩
    · exact absurd rfl (nf d)
    · exact ⟨h2, wipe_out h1⟩
  refine ⟨by rw [backE_len, R.len, wipe_len], R.ext, R.off, R.frm, fun i x hx => ?_, R.ml, fun i j x y hij hx hy mx my => ?_, tn_sub R.tn (fun j y hy => (lowT (fun d z => by cases z) hy).1) (fun j y hy my => ⟨y, (lowT (fun d z => by subst z; cases my) hy).1, my, (lowT (fun d z => by subst z; cases my) hy).2.symm⟩) (fun j y hy => (lowT (fun d z => by cases z) hy).2.symm), R.tup⟩
  · rcases backE_get hx with ⟨h1, h2, d, rfl⟩ | ⟨h1, h2⟩
    · obtain ⟨v, hv, q⟩ := R0.sl i _ h2
      exact ⟨v, hv, Dp.ext E q⟩
    · obtain ⟨v, hv, q⟩ := R.sl i x h2
      rw [wipe_out h1] at hv
      exact ⟨v, hv, q⟩
  · rcases backE_get hx with ⟨h1, h2, d, rfl⟩ | ⟨h1, h2⟩
    · cases mx
    · rcases backE_get hy with ⟨h3, h4, d, rfl⟩ | ⟨h3, h4⟩
      · cases my
      · have := R.ne i j x y hij h2 h4 mx my
        rwa [wipe_out h1, wipe_out h3] at this
theorem Apar.wipe {p : Addr} (h : Apar K H e σ p) (vs : List Nat) : Apar K H (wipeE e vs) (L2.wipe σ vs) p := by
  refine ⟨fun i x hx mx => ?_, fun i fp ht => h.2 i fp ?_⟩
  · obtain ⟨k1, k2⟩ := wipeE_get hx
    rw [wipe_out k2]; exact h.1 i x k1 mx
  · obtain ⟨b, t, v, F', he, hv, o⟩ := ht
    obtain ⟨k1, k2⟩ := wipeE_get he
    rw [wipe_out k2] at hv
    exact ⟨b, t, v, F', k1, hv, o⟩
theorem Apar.unwipe {p : Addr} {e0 : Env} {vs : List Nat} (h : Apar K H e (L2.wipe σ vs) p) : Apar K H (backE e0 vs e) σ p := by
  refine ⟨fun j x hx mx hv => ?_, fun j fp ht => h.2 j fp ?_⟩
  · rcases backE_get hx with ⟨k1, k2, d, rfl⟩ | ⟨k1, k2⟩
    · cases mx
    · exact h.1 j x k2 mx (by rw [wipe_out k1]; exact hv)
  · obtain ⟨b, t, v, F', he, hv, o⟩ := ht
    rcases backE_get he with ⟨k1, k2, d, z⟩ | ⟨k1, k2⟩
    · cases z
    · exact ⟨b, t, v, F', k2, by rw [wipe_out k1]; exact hv, o⟩
/-- the cfg with the new list at p held off -/
def Cf.hold (C : Cf) (H : Hp) (p : Addr) : Cf := ⟨fun a => C.M a ∨ a = p, H, C.lam, C.Ml⟩
theorem Rp.hold (R : Rp K C F H e σ) {p : Addr} {o : HO} (hp : H p = some o) (hF : F p = none) (hM : ¬ C.M p) (ap : Apar K H e σ p) : Rp K (C.hold H p) F H e σ := by
  refine ⟨R.len, R.ext, fun a ha => ?_, fun a ha => ⟨rfl, ?_⟩, fun i x hx => ?_, fun i hi => .inl (R.ml i hi), R.ne, R.tn, R.tup⟩
  · rcases ha with ha | rfl
    · exact R.off a ha
    · exact hF
  · rcases ha with ha | rfl
    · show H a ≠ none; rw [(R.frm a ha).1]; exact (R.frm a ha).2
    · show H a ≠ none; rw [hp]; exact fun z => by cases z
  · obtain ⟨v, hv, q⟩ := R.sl i x hx
    refine ⟨v, hv, ?_⟩
    cases x with
    | fz d => exact q
    | own ds =>
      obtain ⟨p', vs, rfl, h1, h2, h3, h4⟩ := q
      refine ⟨p', vs, rfl, h1, h2, h3, fun z => ?_⟩
      rcases z with z | rfl
      · exact h4 z
      · exact ap.1 i _ hx rfl hv
    | lent ds => exact q
    | io ds =>
      obtain ⟨vs, rfl, h1, h2, h3, h4⟩ := q
      refine ⟨vs, rfl, h1, h2, h3, fun z => ?_⟩
      rcases z with z | z
      · exact h4 z
      · exact ap.1 i _ hx rfl (by rw [hv, ← z]; rfl)
    | tr b t =>
      obtain ⟨fp, o, nd, h, hb⟩ := q
      refine ⟨fp, o, nd, fun a ha => ⟨(h a ha).1, fun z => ?_⟩, hb⟩
      rcases z with z | rfl
      · exact (h a ha).2 z
      · exact ap.2 i fp ⟨b, t, v, F, hx, hv, o⟩ ha
/-- .. let go, whatever stands there now -/
theorem Rp.drop (R0 : Rp K C F H e σ) {F2 H2 : Hp} {e2 : Env} {σ2 : L2.St} {p : Addr} {o : HO} (R : Rp K (C.hold H p) F2 H2 e2 σ2) (hM : ¬ C.M p) (ho : ∀ xs, o ≠ .tup xs := by intro xs z; cases z) : Rp K C F2 (upd H2 p o) e2 σ2 ∧ H2 p = H p ∧ F2 p = none ∧ Apar K (upd H2 p o) e2 σ2 p := by
  have pF : F2 p = none := R.off p (.inr rfl)
  have ap : Apart e2 σ2 (.ref p) := fun i x hx mx hv => by
    obtain ⟨v, hv', q⟩ := R.sl i x hx
    rw [hv] at hv'; cases hv'
    cases x with
    | fz d => cases mx
    | own ds => obtain ⟨p', vs, h0, _, _, _, h4⟩ := q; injection h0 with h0; subst h0; exact h4 (.inr rfl)
    | lent ds => cases mx
    | io ds => obtain ⟨vs, h0, _, _, _, h4⟩ := q; injection h0 with h0; rw [← h0] at h4; exact h4 (.inr rfl)
    | tr b t => cases mx
  have nT : ∀ {i fp}, TrAt K H2 e2 σ2 i fp → p ∉ fp := fun h hq => ((R.trFp h).1 p hq).2.1 (.inr rfl)
  have kT : ∀ a, H2 a ≠ none → F2 a = none → ¬ (C.hold H p).M a → (∃ i fp, TrAt K H2 e2 σ2 i fp ∧ a ∈ fp) → upd H2 p o a = H2 a := fun a _ _ hm _ => upd_ne fun z => hm (.inr z)
  refine ⟨⟨R.len, R.ext.mut pF, fun a ha => R.off a (.inl ha), fun a ha => ?_, fun i x hx => ?_, R0.ml, R.ne, fun i fp h => ⟨(R.tn i fp (R.trBack kT h)).1, fun j fp' hj h' => (R.tn i fp (R.trBack kT h)).2 j fp' hj (R.trBack kT h')⟩, R.tup.mut ho⟩, (R.frm p (.inr rfl)).1, pF, ap, fun i fp h => nT (R.trBack kT h)⟩
  · rw [upd_ne (show a ≠ p from fun z => hM (z ▸ ha))]
    have h := R.frm a (.inl ha)
    exact ⟨h.1.trans (R0.frm a ha).1, (R0.frm a ha).2⟩
  · obtain ⟨v, hv, q⟩ := R.sl i x hx
    refine ⟨v, hv, ?_⟩
    cases x with
    | fz d => exact q
    | own ds =>
      obtain ⟨p', vs, rfl, h1, h2, h3, h4⟩ := q
      exact ⟨p', vs, rfl, by rw [upd_ne (show p' ≠ p from fun z => h4 (.inr z))]; exact h1, h2, h3, fun z => h4 (.inl z)⟩
    | lent ds =>
      obtain ⟨vs, rfl, h1, h2, h3⟩ := q
      exact ⟨vs, rfl, by rw [upd_ne (show C.lam i ≠ p from fun z => hM (z ▸ R0.ml i h3))]; exact h1, h2, h3⟩
    | io ds =>
      obtain ⟨vs, rfl, h1, h2, h3, h4⟩ := q
      exact ⟨vs, rfl, by rw [upd_ne (show C.lam i ≠ p from fun z => h4 (.inr z))]; exact h1, h2, h3, fun z => h4 (.inl z)⟩
    | tr b t =>
      obtain ⟨fp, o', nd, h, hb⟩ := q
      exact ⟨fp, o'.ext (.refl F2) fun a ha => upd_ne fun z => (h a ha).2 (.inr z), nd, fun a ha => ⟨(h a ha).1, fun z => (h a ha).2 (.inl z)⟩, hb⟩
theorem lcTurns_len {t : Tg} {c : Sem1 Bool} {elt : Ev} {own : List Nat} : ∀ {ds : List D} {e : Env} {r : List D} {e2 : Env}, lcTurns t c elt own ds e = some (r, e2) → r.length ≤ ds.length
  | [], e, r, e2, h => by cases h; exact Nat.le_refl _
  | d :: ds, e, r, e2, h => by
    unfold lcTurns at h
    split at h
    · cases h
    · split at h
      · split at h
        · obtain ⟨⟨r', e'⟩, h1, h2⟩ := Option.bind_eq_some_iff.mp h
          cases h2
          have := lcTurns_len h1
          simp only [List.length_cons]; omega
        · cases h
      · have := lcTurns_len h
        simp only [List.length_cons]; omega
      · cases h
theorem wipe_idem {vs : List Nat} : wipe (wipe σ vs) vs = wipe σ vs := by
  have : ∀ (ws : List Nat) (σ : L2.St), (∀ v ∈ ws, ∀ x, σ[v]? = some x → x = none) → wipe σ ws = σ := by
    intro ws
    induction ws with
    | nil => intro σ _; rfl
    | cons v ws ih =>
      intro σ h
      unfold wipe
      rw [ih σ fun u hu => h u (List.mem_cons_of_mem _ hu)]
      apply List.ext_getElem?
      intro i
      by_cases hi : v = i
      · subst hi
        cases q : σ[v]? with
        | none => rw [List.getElem?_eq_none]; rw [List.length_set]; exact List.getElem?_eq_none_iff.mp q
        | some x =>
          have := h v List.mem_cons_self x q
          subst this
          rw [List.getElem?_set_self (List.getElem?_eq_some_iff.mp q).1]
      · rw [List.getElem?_set_ne hi]
  refine this vs _ fun v hv x hx => ?_
  cases x with
  | none => rfl
  | some y => exact absurd hv (wipe_some hx).2
theorem rd_lc {w : Wd} {it : Sem1 Src} {t : Tg} {c : Sem1 Bool} {elt : Ev} {own : List Nat} {Q : VK} (h : rdR w (lcS it t c elt own) σ H Q) : tLc (rdI w it) (rdG w.calm t) (rdT w.calm c) (rdR w.calm elt) own σ H Q := by
  obtain ⟨C, F, e, R, P⟩ := h
  refine ⟨C, F, e, R, ?_⟩
  unfold lcS at P
  cases h1 : it e with
  | no => rw [h1] at P; exact P
  | ex x e1 => rw [h1] at P; exact fun F' H' cv od R E q => P F' H' cv od R E q
  | ok s e1 =>
    rw [h1] at P
    intro C' J F' H' R' E back ok
    have P : Post w (RR w.K) C F σ Q (if s.items.length ≤ sizeLine ∧ (∀ i ∈ t.ix, i ∈ own) then match lcTurns t c elt own s.items (wipeE e1 own) with
      | none => .no
      | some (ds, e2) => .ok (.fresh ds) (unlend s.lend (backE e1 own e2)) else .no) := P
    split at P
    · rename_i hc
      obtain ⟨hlen, hown⟩ := hc
      split at P
      · exact P.elim
      · rename_i ds e2 hrun
        obtain ⟨Gd, Y, wk, hGd, hY⟩ := ok.ex
        intro p hp
        obtain ⟨Rn, hM, hF, ap⟩ := R'.grow (o := .lst []) hp
        refine lc_it wk (fun i H1 => ∃ F1 eb vs acc rest e3, Rp w.K C' F1 H1 eb (wipe σ own) ∧ Ext F' F1 ∧ F1 p = none ∧ Apar w.K H1 eb (wipe σ own) p ∧ H1 p = some (.lst vs) ∧ DpAll w.K F1 vs acc ∧ lcTurns t c elt own (s.items.drop i) eb = some (rest, e3) ∧ ds = acc ++ rest ∧ e3 = e2)
          ⟨F', wipeE e1 own, [], [], ds, e2, Rn.wipe own, .refl F', hF, ap.wipe own, upd_same, .nil, hrun, rfl, rfl⟩ (fun i H1 _ ⟨F1, eb, vs, acc, rest, e3, R1, E1, _⟩ => hGd F1 H1 eb _ R1 E1) ?_ ?_
        · rintro i x H1 H2 hi ⟨F1, eb, vs, acc, rest, e3, R1, E1, pF, pa, pH, pd, run, eds, ee⟩ y
          -- the list at p is held off
          have R1' := R1.hold pH pF hM pa
          obtain ⟨d, hd, res⟩ := hY i x H1 H2 F1 E1 R1.ext R1.tup y hi
          obtain ⟨F2, R2, E2, q2⟩ := res.rp R1'
          have hdrop : s.items.drop i = d :: s.items.drop (i + 1) := by
            rw [← List.getElem_cons_drop (h := hi)]
            rw [List.getElem?_eq_getElem hi] at hd
            rw [Option.some.inj hd]
          rw [hdrop] at run
          unfold lcTurns at run
          split at run
          · cases run
          · rename_i ea htr
            refine ⟨C'.hold H1 p, F2, eb, d, ea, R2, q2, htr, fun σ2 R3 hw => ⟨by rw [hw own hown, wipe_idem], C'.hold H1 p, F2, ea, R3, ?_⟩⟩
            have hw' : wipe σ2 own = wipe σ own := by rw [hw own hown, wipe_idem]
            split at run
            · -- kept
              rename_i eb2 hcb
              rw [hcb]
              intro b F3 H3 R4 E3 qb
              cases qb
              refine iteT ?_
              split at run
              · rename_i yd e4 hy
                obtain ⟨⟨rest', e5⟩, hr1, hr2⟩ := Option.bind_eq_some_iff.mp run
                cases hr2
                refine rd_toD ⟨C'.hold H1 p, F3, eb2, R4, ?_⟩
                rw [hy]
                intro v F4 H4 R5 E4 qv
                obtain ⟨R6, k1, k2, k3⟩ := R1.drop (o := .lst (vs ++ [v])) R5 hM
                have E14 : Ext F1 F4 := (E2.trans E3).trans E4
                have hl : acc.length < sizeLine := by
                  have h0 := lcTurns_len hrun
                  have h1 : ds.length = acc.length + (rest'.length + 1) := by rw [eds, List.length_append, List.length_cons]
                  omega
                refine ⟨vs, k1.trans pH, by rw [pd.length]; exact hl, F4, wipeE e4 own, vs ++ [v], acc ++ [yd], rest', e5, ?_, E1.trans E14, k2, hw' ▸ k3.wipe own, upd_same, (pd.ext E14).append (.cons qv .nil), hr1, by rw [eds, List.append_assoc]; rfl, ee⟩
                · have := R6.wipe own
                  rwa [hw'] at this
              · cases run
            · -- left out
              rename_i eb2 hcb
              rw [hcb]
              intro b F3 H3 R4 E3 qb
              cases qb
              refine iteF ?_
              obtain ⟨R6, k1, k2, k3⟩ := R1.drop (o := .lst vs) R4 hM
              have hu : upd H3 p (.lst vs) = H3 := by
                funext a
                by_cases ha : a = p
                · subst ha; rw [upd_same, k1, pH]
                · rw [upd_ne ha]
              rw [hu] at R6 k3
              have E13 : Ext F1 F3 := E2.trans E3
              refine ⟨F3, wipeE eb2 own, vs, acc, rest, e3, ?_, E1.trans E13, k2, hw' ▸ k3.wipe own, k1.trans pH, pd.ext E13, run, eds, ee⟩
              · have := R6.wipe own
                rwa [hw'] at this
            · cases run
        · rintro H1 ⟨F1, eb, vs, acc, rest, e3, R1, E1, pF, pa, pH, pd, run, eds, ee⟩
          rw [List.drop_length] at run
          cases run
          subst ee
          rw [List.append_nil] at eds
          subst eds
          have Ru := R'.unwipe R1 E1
          refine P _ F1 H1 (back.rp _ _ _ _ Ru) (E.trans E1) (back.rv _ _ _ _ ds _ Ru ⟨p, vs, rfl, pH, pd, pF, hM, pa.unwipe⟩)
    · exact P.elim
end VI
set_option Elab.async false
set_option linter.all false
set_option maxRecDepth 100000
set_option maxHeartbeats 4000000
namespace VI
open PySem PySem.Spec PyProof.Rows L2
variable {K : PySem.W.Frag} {C : Cf} {F H : Hp} {e e' : Env} {σ : L2.St}
section
variable {X : Cx} {W : WX} {XR : Hp → Hp → Xc → Value → Option Addr → Prop}
theorem pts_mono {X : Cx} {ifs : List Expr} {t t' : TT} (h : PTs X ifs t) (w : ∀ σ H Q, t' σ H Q → t σ H Q) : PTs X ifs t' := ⟨fun pins s σ H Q I q => h.run pins s σ H Q I (w σ H Q q)⟩
theorem vts_nil {X : Cx} {w : Wd} : PTs X [] (rdT w yesT) := pts_mono pts_nil fun σ H Q q => by
  obtain ⟨C, F, e, R, P⟩ := q
  exact P.ok' R rfl
theorem ve_lc {elt tg iter : Expr} {ifs : List Expr} {scope : Scope} {own : List (Str × Nat)} {pos : Pos} {it : Sem1 Src} {t : Tg} {c : Sem1 Bool} {el : Ev} (hc : X.calm = true) (hN : X.N.Nodup) (hi : PI X tg iter (rdI (wd X W XR) it)) (ok : BlkOk X.N X.env.scope scope own)
    (hg : ∀ (s : Shared) (H : Hp) (C : Addr) (cl : List (Str × Addr)) (fp : List Addr), PG (X.blk s H scope (compEnvC scope cl C X.env) fp) tg (rdG (wd X (fun _ _ _ _ => False) XR) t)) (ht : ∀ (s : Shared) (H : Hp) (C : Addr) (cl : List (Str × Addr)) (fp : List Addr), PTs (X.blk s H scope (compEnvC scope cl C X.env) fp) ifs (rdT (wd X (fun _ _ _ _ => False) XR) c))
    (he : ∀ (s : Shared) (H : Hp) (C : Addr) (cl : List (Str × Addr)) (fp : List Addr), PE (X.blk s H scope (compEnvC scope cl C X.env) fp) elt (rdR (wd X (fun _ _ _ _ => False) XR) el)) (hs : ∀ x, foldedSetIterable iter X.env x = pure x := by intro _; rfl) :
    PE X (.ListComp elt [⟨tg, iter, ifs, 0⟩] scope pos) (rdR (wd X W XR) (lcS it t c el (own.map (·.2)))) := pe_mono (pe_lc hc hN hi ok hg ht he hs) fun _ _ _ h => rd_lc h
/-- name = [..] on one line -/
theorem vs_asgLc {i : Nat} {y : Str} {py : Pos} {elt tg iter : Expr} {ifs : List Expr} {scope : Scope} {own : List (Str × Nat)} {pos spos : Pos} {it : Sem1 Src} {t : Tg} {c : Sem1 Bool} {el : Ev} (hc : X.calm = true) (hN : X.N.Nodup) (hy : X.N[i]? = some y) (hyl : X.env.scope.names.lookup y = some .local)
    (hsw : swapsWith (.ListComp elt [⟨tg, iter, ifs, 0⟩] scope pos) (some (.Name y py)) spos.line X.env = pure true) (hi : PI X tg iter (rdI (wd X W XR) it)) (ok : BlkOk X.N X.env.scope scope own)
    (hg : ∀ (s : Shared) (H : Hp) (C : Addr) (cl : List (Str × Addr)) (fp : List Addr), PG (X.blk s H scope (compEnvC scope cl C X.env) fp) tg (rdG (wd X (fun _ _ _ _ => False) XR) t)) (ht : ∀ (s : Shared) (H : Hp) (C : Addr) (cl : List (Str × Addr)) (fp : List Addr), PTs (X.blk s H scope (compEnvC scope cl C X.env) fp) ifs (rdT (wd X (fun _ _ _ _ => False) XR) c))
    (he : ∀ (s : Shared) (H : Hp) (C : Addr) (cl : List (Str × Addr)) (fp : List Addr), PE (X.blk s H scope (compEnvC scope cl C X.env) fp) elt (rdR (wd X (fun _ _ _ _ => False) XR) el)) (hs : ∀ x, foldedSetIterable iter X.env x = pure x := by intro _; rfl) :
    PS X (.Assign [.Name y py] (.ListComp elt [⟨tg, iter, ifs, 0⟩] scope pos) spos) (rdS (wd X W XR) (asgS i (lcS it t c el (own.map (·.2))))) := ps_mono (ps_setLc hc hN hy hyl hsw hi ok hg ht he hs) fun D σ H h => by
  have h := rd_asg h
  show tLc _ _ _ _ _ σ H _
  exact rd_lc h
end
def mvR : Rv → Env → Rs Rv
  | .bor i, e => (frz (.bor i) e).bind fun d e1 => .ok (.fz d) e1
  | r, e => .ok r e
def mvs : List Ev → Sem1 (List Rv)
  | [] => fun e => .ok [] e
  | a :: as => fun e => ((a e).bind mvR).bind fun x e1 => (mvs as e1).bind fun xs e2 => .ok (x :: xs) e2
/-- .. each lies still or is a new list of its own -/
def RMs (K : PySem.W.Frag) : Cf → Hp → Hp → Env → L2.St → List Rv → List V → Prop
  | _, _, _, _, _, [], [] => True
  | C, F, H, e, σ, r :: rs, v :: vs => RvR K C F H e σ r v ∧ (∀ i, r ≠ .bor i) ∧ (∀ ds, r = .fresh ds → ∀ r' v', (r', v') ∈ rs.zip vs → r'.still = false → v' ≠ v) ∧ RMs K C F H e σ rs vs
  | _, _, _, _, _, _, _ => False
abbrev rdMs (w : Wd) (a : Sem1 (List Rv)) : TA := Rd w (RMs w.K) a
theorem RMs.apart (R : Rp K C F H e σ) {p : Addr} {H0 : Hp} (hM : ¬ C.M p) (R2 : Rp K (C.hold H0 p) F H e σ) : ∀ {rs : List Rv} {vs : List V}, RMs K (C.hold H0 p) F H e σ rs vs → RMs K C F H e σ rs vs ∧ ∀ r' v', (r', v') ∈ rs.zip vs → r'.still = false → v' ≠ .ref p
  | [], [], _ => ⟨trivial, fun _ _ h => by simp at h⟩
  | r :: rs, v :: vs, h => by
    obtain ⟨h1, h2, h3, h4⟩ := h
    obtain ⟨i1, i2⟩ := RMs.apart R hM R2 h4
    refine ⟨⟨?_, h2, h3, i1⟩, fun r' v' hm hs => ?_⟩
    · cases r with
      | fz d => exact h1
      | fresh ds =>
        obtain ⟨q, vs, rfl, k1, k2, k3, k4, k5⟩ := h1
        exact ⟨q, vs, rfl, k1, k2, k3, fun z => k4 (.inl z), k5⟩
      | bor i => exact absurd rfl (h2 i)
    · rw [List.zip_cons_cons, List.mem_cons] at hm
      rcases hm with hm | hm
      · cases hm
        cases r with
        | fz d => cases hs
        | fresh ds =>
          obtain ⟨q, vs, rfl, k1, k2, k3, k4, k5⟩ := h1
          exact fun z => by injection z with z; exact k4 (.inr z)
        | bor i => exact absurd rfl (h2 i)
      · exact i2 r' v' hm hs
  | [], _ :: _, h => h.elim
  | _ :: _, [], h => h.elim
theorem rd_mvs_nil {w : Wd} {Q : List V → Hp → Prop} (h : rdMs w (mvs []) σ H Q) : tNil σ H Q := by
  obtain ⟨C, F, e, R, P⟩ := h
  exact P.ok' R trivial
theorem Post.mvR {w : Wd} {r : Rv} {v : V} (R : Rp w.K C F H e σ) (q : RvR w.K C F H e σ r v) {α β : Type} {RA : Cf → Hp → Hp → Env → L2.St → α → β → Prop} {Q : β → Hp → Prop} {f : Rv → Env → Rs α}
    (P : Post w RA C F σ Q ((mvR r e).bind f)) : ∃ F' e1 x, Rp w.K C F' H e1 σ ∧ Ext F F' ∧ RvR w.K C F' H e1 σ x v ∧ (∀ i, x ≠ .bor i) ∧ Post w RA C F' σ Q (f x e1) := by
  cases r with
  | fz d => exact ⟨F, e, _, R, .refl F, q, fun _ z => (by cases z), P⟩
  | fresh ds => exact ⟨F, e, _, R, .refl F, q, fun _ z => (by cases z), P⟩
  | bor i =>
    have h' : σ[i]? = some (some v) := q
    unfold VI.mvR VI.frz at P
    simp only at P
    split at P
    · rename_i d hd
      obtain ⟨u, hu, z⟩ := R.sl _ _ hd
      rw [h'] at hu; cases hu
      exact ⟨F, e, .fz d, R, .refl F, z, fun _ z => (by cases z), P⟩
    · rename_i ds hd
      obtain ⟨F', u, R', E, hu, z⟩ := R.rest hd
      rw [h'] at hu; cases hu
      exact ⟨F', _, .fz (.list ds), R', E, z, fun _ z => (by cases z), Post.mono E P⟩
    · exact P.elim
theorem rd_mvs_cons {w : Wd} {a : Ev} {as : List Ev} {Q : List V → Hp → Prop} (h : rdMs w (mvs (a :: as)) σ H Q) : tCons (rdR w a) (rdMs w (mvs as)) σ H Q := by
  obtain ⟨C, F, e, R, P⟩ := h
  have P : Post w (RMs w.K) C F σ Q ((a e).bind fun r e0 => (mvR r e0).bind fun x e1 => (mvs as e1).bind fun xs e2 => .ok (x :: xs) e2) := by rw [← rs_assoc]; exact P
  refine bindP R P fun F1 H1 e1 r v h1 R1 E1 q1 P1 => ?_
  obtain ⟨F2, e2, x, R2, E2, q2, nb, P2⟩ := P1.mvR R1 q1
  cases x with
  | bor i => exact absurd rfl (nb i)
  | fz d =>
    refine bindP R2 P2 fun F3 H3 e3 xs vs h3 R3 E3 q3 P3 => ?_
    exact P3.ok' R3 ⟨show RvR _ _ _ _ _ _ (.fz d) v from Dp.ext E3 q2, nb, (fun ds z => by cases z), q3⟩
  | fresh ds =>
    obtain ⟨p, ws, rfl, hp, hd, hF, hM, ap⟩ := q2
    -- the new list is held off while the rest is reckoned
    have Rh := R2.hold hp hF hM ap
    refine ⟨C.hold H1 p, F2, e2, Rh, ?_⟩
    cases h3 : mvs as e2 with
    | no => rw [h3] at P2; exact P2
    | ex x e3 =>
      rw [h3] at P2
      intro F' H' cv od R' E' q
      obtain ⟨R6, k1, k2, k3⟩ := R2.drop (o := .lst ws) R' hM
      have hu : upd H' p (.lst ws) = H' := by
        funext a
        by_cases ha : a = p
        · subst ha; rw [upd_same, k1, hp]
        · rw [upd_ne ha]
      rw [hu] at R6
      exact P2 F' H' cv od R6 E' q
    | ok xs e3 =>
      rw [h3] at P2
      intro vs F' H' R' E' q
      obtain ⟨R6, k1, k2, k3⟩ := R2.drop (o := .lst ws) R' hM
      have hu : upd H' p (.lst ws) = H' := by
        funext a
        by_cases ha : a = p
        · subst ha; rw [upd_same, k1, hp]
        · rw [upd_ne ha]
      rw [hu] at R6 k3
      obtain ⟨q', na⟩ := RMs.apart R6 hM R' q
      exact P2 _ F' H' R6 E' ⟨⟨p, ws, rfl, k1.trans hp, hd.ext E', k2, hM, k3⟩, nb, fun _ _ => na, q'⟩
section
variable {w : Wd} {X : Cx} {ex : Expr} {es : List Expr} {a : Ev} {as : List Ev} {pos : Pos}
theorem vm_nil : PA X [] (rdMs w (mvs [])) := pa_mono pa_nil fun _ _ _ h => rd_mvs_nil h
theorem vm_cons (ha : PE X ex (rdR w a)) (hr : PA X es (rdMs w (mvs as))) (hs : starEach (ex :: es) X.env = (false, eval ex X.env) :: starEach es X.env := by rfl) : PA X (ex :: es) (rdMs w (mvs (a :: as))) :=
  pa_mono (pa_cons ha hr hs) fun _ _ _ h => rd_mvs_cons h
end
/-- stores one after another -/
def stores : List Nat → List Rv → Env → Rs Fl
  | [], [], e => .ok .nx e
  | i :: is, r :: rs, e => (store i r e).bind fun _ e1 => stores is rs e1
  | _, _, _ => .no
def parS (is : List Nat) (as : List Ev) : St1 := fun e => (mvs as e).bind fun rs e1 => stores is rs e1
def setAll : List Nat → List V → L2.St → L2.St
  | i :: is, v :: vs, σ => setAll is vs (σ.set i (some v))
  | _, _, σ => σ
theorem store_fz {w : Wd} {D : Ends} {i : Nat} {r : Rv} {v : V} {f : Fl → Env → Rs Fl} (R : Rp w.K C F H e σ) (q : RvR w.K C F H e σ r v) (nb : ∀ i, r ≠ .bor i) (P : PostS w C F D ((store i r e).bind f)) :
    ∃ e1, freeAt e i = true ∧ Rp w.K C F H e1 (σ.set i (some v)) ∧ PostS w C F D (f .nx e1) ∧ ∀ r' v', RvR w.K C F H e σ r' v' → (∀ j, r' ≠ .bor j) → (r'.still = false → r.still = false → v' ≠ v) → RvR w.K C F H e1 (σ.set i (some v)) r' v' := by
  cases r with
  | bor j => exact absurd rfl (nb j)
  | fz d =>
    have P : PostS w C F D ((if freeAt e i then .ok .nx (e.set i (some (.fz d))) else .no : Rs Fl).bind f) := P
    split at P
    · rename_i hf
      refine ⟨_, hf, R.put hf q, P, fun r' v' q' nb' _ => ?_⟩
      cases r' with
      | fz d' => exact q'
      | bor j => exact absurd rfl (nb' j)
      | fresh ds =>
        obtain ⟨p, ws, rfl, k1, k2, k3, k4, k5⟩ := q'
        refine ⟨p, ws, rfl, k1, k2, k3, k4, fun j y hy my hs => ?_, k5.2.set fun b t z => by cases z⟩
        rcases getset hy with ⟨rfl, z⟩ | ⟨hj, hy⟩
        · cases z; cases my
        · rw [List.getElem?_set_ne hj] at hs; exact k5.1 j y hy my hs
    · exact P.elim
  | fresh ds0 =>
    obtain ⟨p0, ws0, rfl, m1, m2, m3, m4, m5⟩ := q
    have P : PostS w C F D ((if freeAt e i then .ok .nx (e.set i (some (.own ds0))) else .no : Rs Fl).bind f) := P
    split at P
    · rename_i hf
      refine ⟨_, hf, R.putOwn hf m1 m2 m3 m4 m5, P, fun r' v' q' nb' hne => ?_⟩
      cases r' with
      | fz d' => exact q'
      | bor j => exact absurd rfl (nb' j)
      | fresh ds =>
        obtain ⟨p, ws, rfl, k1, k2, k3, k4, k5⟩ := q'
        refine ⟨p, ws, rfl, k1, k2, k3, k4, fun j y hy my hs => ?_, k5.2.set fun b t z => by cases z⟩
        rcases getset hy with ⟨rfl, z⟩ | ⟨hj, hy⟩
        · have : i < σ.length := by
            rw [← R.len]
            unfold freeAt at hf
            split at hf <;> first | (cases hf; done) | skip
            rename_i hs; exact (List.getElem?_eq_some_iff.mp hs).1
          rw [List.getElem?_set_self this] at hs
          cases hs
          exact hne rfl rfl rfl
        · rw [List.getElem?_set_ne hj] at hs; exact k5.1 j y hy my hs
    · exact P.elim
theorem PostS.stores {w : Wd} {D : Ends} : ∀ {is : List Nat} {rs : List Rv} {vs : List V} {e : Env} {σ : L2.St}, Rp w.K C F H e σ → RMs w.K C F H e σ rs vs → PostS w C F D (stores is rs e) → vs.length = is.length ∧ D.nx (setAll is vs σ) H
  | [], [], [], e, σ, R, _, P => ⟨rfl, P.nx' R⟩
  | i :: is, r :: rs, v :: vs, e, σ, R, q, P => by
    obtain ⟨q1, q2, q3, q4⟩ := q
    obtain ⟨e1, hf, R1, P1, tr⟩ := store_fz R q1 q2 P
    have q4' : RMs w.K C F H e1 (σ.set i (some v)) rs vs := by
      clear P P1
      induction rs generalizing vs with
      | nil => cases vs <;> first | trivial | exact q4.elim
      | cons r' rs ih =>
        cases vs with
        | nil => exact q4.elim
        | cons v' vs =>
          obtain ⟨z1, z2, z3, z4⟩ := q4
          refine ⟨tr r' v' z1 z2 fun h1 h2 => ?_, z2, z3, ih vs (fun ds hr r'' v'' hm => q3 ds hr r'' v'' (by rw [List.zip_cons_cons]; exact List.mem_cons_of_mem _ hm)) z4⟩
          cases r with
          | fz d => cases h2
          | bor j => exact absurd rfl (q2 j)
          | fresh ds => exact q3 ds rfl r' v' (by rw [List.zip_cons_cons]; exact List.mem_cons_self) h1
    obtain ⟨l, k⟩ := PostS.stores R1 q4' P1
    exact ⟨by rw [List.length_cons, List.length_cons, l], k⟩
  | [], _ :: _, [], _, _, _, q, _ => q.elim
  | [], [], _ :: _, _, _, _, q, _ => q.elim
  | [], _ :: _, _ :: _, _, _, _, _, P => P.elim
  | _ :: _, [], _, _, _, _, _, P => P.elim
  | _ :: _, _ :: _, [], _, _, _, q, _ => q.elim
theorem rd_par {w : Wd} {D : Ends} {is : List Nat} {as : List Ev} (h : rdS w (parS is as) D σ H) : rdMs w (mvs as) σ H fun vs H1 => vs.length = is.length ∧ D.nx (setAll is vs σ) H1 := by
  obtain ⟨C, F, e, R, P⟩ := h
  exact bindS R P fun F1 H1 e1 rs vs h1 R1 E1 q1 P1 => PostS.stores R1 q1 P1
section
variable {X : Cx} {w : Wd} {i j l : Nat} {x y z : Str} {a b c : Expr} {as : List Ev} {px py pz pt pos : Pos}
theorem vs_par2 {kt k2 : Nat} {pt2 : Pos} (hc : X.calm = true) (hN : X.N.Nodup) (hi : X.N[i]? = some x) (hj : X.N[j]? = some y) (hij : i ≠ j)
    (hx : X.env.scope.names.lookup x = some .local) (hy : X.env.scope.names.lookup y = some .local) (ha : PA X [a, b] (rdMs w (mvs as)))
    (hw : swappedStores [.Tuple [.Name x px, .Name y py] kt pt] (.Tuple [a, b] k2 pt2) X.env = pure (some [x, y]))
    (hs : swapsWithSole [.Tuple [.Name x px, .Name y py] kt pt] (.Tuple [a, b] k2 pt2) pos.line X.env = pure false := by rfl) :
    PS X (.Assign [.Tuple [.Name x px, .Name y py] kt pt] (.Tuple [a, b] k2 pt2) pos) (rdS w (parS [i, j] as)) := ps_mono (ps_par hc hN hi hj hij hx hy ha hw hs) fun D σ H h => by
  obtain ⟨C, F, e, R, P⟩ := rd_par h
  refine ⟨C, F, e, R, ?_⟩
  cases h1 : mvs as e with
  | no => rw [h1] at P; exact P
  | ex x e1 => rw [h1] at P; exact P
  | ok rs e1 =>
    rw [h1] at P
    intro vs F' H' R' E q
    obtain ⟨hl, hn⟩ := P vs F' H' R' E q
    match vs, hl, hn with
    | [v, u], _, hn => exact ⟨v, u, rfl, hn⟩
end
end VI
set_option Elab.async false
set_option linter.all false
set_option maxRecDepth 100000
set_option maxHeartbeats 4000000
namespace VI
open PySem PySem.Spec PyProof.Rows L2
variable {K : PySem.W.Frag} {C : Cf} {F H : Hp} {e e' : Env} {σ : L2.St}
/-- the list at a name that may be changed -/
def mutAt (e : Env) (i : Nat) : Option (List D) := match e[i]? with
  | some (some (.own ds)) => some ds
  | some (some (.io ds)) => some ds
  | _ => none
def putAt (e : Env) (i : Nat) (ds : List D) : Env := match e[i]? with
  | some (some (.own _)) => e.set i (some (.own ds))
  | some (some (.io _)) => e.set i (some (.io ds))
  | _ => e
theorem Rp.mutAt (R : Rp K C F H e σ) {i : Nat} {ds : List D} (h : VI.mutAt e i = some ds) : ∃ p vs, σ[i]? = some (some (.ref p)) ∧ H p = some (.lst vs) ∧ DpAll K F vs ds ∧ F p = none ∧
    (∀ {F' H' : Hp} {ys : List V} {ds' : List D}, Rp K C F' H' e σ → DpAll K F' ys ds' → Rp K C F' (upd H' p (.lst ys)) (putAt e i ds') σ) ∧
    (∀ {F' H' : Hp} {e2 : Env} {ds2 : List D}, Rp K C F' H' e2 σ → VI.mutAt e2 i = some ds2 → ∃ ws, H' p = some (.lst ws) ∧ DpAll K F' ws ds2 ∧ F' p = none) := by
  unfold VI.mutAt at h
  have again : ∀ {p : Addr} {F' H' : Hp} {e2 : Env} {ds2 : List D}, σ[i]? = some (some (.ref p)) → Rp K C F' H' e2 σ → VI.mutAt e2 i = some ds2 → ∃ ws, H' p = some (.lst ws) ∧ DpAll K F' ws ds2 ∧ F' p = none := fun {p F' H' e2 ds2} hv R' h' => by
    unfold VI.mutAt at h'
    split at h'
    · rename_i ds hd
      cases h'
      obtain ⟨v, hv', p', vs, rfl, h1, h2, h3, h4⟩ := R'.sl _ _ hd
      rw [hv] at hv'; cases hv'
      exact ⟨vs, h1, h2, h3⟩
    · rename_i ds hd
      cases h'
      obtain ⟨v, hv', vs, rfl, h1, h2, h3, h4⟩ := R'.sl _ _ hd
      rw [hv] at hv'; cases hv'
      exact ⟨vs, h1, h2, h3⟩
    · cases h'
  -- the store
  have st : ∀ {p : Addr} {sv : List D → Sv}, (∀ ds, (sv ds).mu = true) → e[i]? = some (some (sv ds)) → σ[i]? = some (some (.ref p)) → ¬ C.M p → (∀ {F' H' : Hp}, Rp K C F' H' e σ → F' p = none) →
      (∀ {F' H' : Hp} {ys : List V} {ds' : List D}, H' p = some (.lst ys) → DpAll K F' ys ds' → F' p = none → SvR K C F' H' i (sv ds') (.ref p)) →
      ∀ {F' H' : Hp} {ys : List V} {ds' : List D}, Rp K C F' H' e σ → DpAll K F' ys ds' → Rp K C F' (upd H' p (.lst ys)) (e.set i (some (sv ds'))) σ := fun {p sv} hmu hd hv hM hF hsv {F' H' ys ds'} R' hy => by
    have pF := hF R'
    have ne : ∀ j y, j ≠ i → e[j]? = some (some y) → y.mu = true → σ[j]? ≠ some (some (.ref p)) := fun j y hj hy my z => R'.ne i j _ _ (Ne.symm hj) hd hy (hmu _) my (by rw [hv, z])
    have lowT : ∀ {j : Nat} {y : Bool × OT}, (e.set i (some (sv ds')))[j]? = some (some (Sv.tr y.1 y.2)) → e[j]? = some (some (Sv.tr y.1 y.2)) := fun {j y} h => by
      rcases getset h with ⟨rfl, h'⟩ | ⟨hj, h⟩
      · have := hmu ds'; rw [Option.some.inj h'] at this; cases this
      · exact h
    have kT : ∀ a, H' a ≠ none → F' a = none → ¬ C.M a → (∃ i fp, TrAt K H' e σ i fp ∧ a ∈ fp) → upd H' p (.lst ys) a = H' a := fun a _ _ _ ⟨j, fp, ht, ha⟩ => upd_ne fun z => (R'.tn j fp ht).1 a ha i _ hd (hmu _) (by rw [hv, z])
    have t1 := tn_sub R'.tn (e2 := e.set i (some (sv ds'))) (σ2 := σ) (fun j y hy => lowT hy) fun j y hy my => by
      rcases getset hy with ⟨rfl, hy'⟩ | ⟨hj, hy⟩
      · exact ⟨_, hd, hmu _, rfl⟩
      · exact ⟨_, hy, my, rfl⟩
    have upT : ∀ {j fp}, TrAt K (upd H' p (.lst ys)) (e.set i (some (sv ds'))) σ j fp → TrAt K H' (e.set i (some (sv ds'))) σ j fp := fun {j fp} h => by
      obtain ⟨b, t, v, F2, he, hv2, o⟩ := h
      have T := R'.trBack kT (i := j) (fp := fp) ⟨b, t, v, F2, lowT (y := (b, t)) he, hv2, o⟩
      obtain ⟨b', t', v', F3, he', hv3, o'⟩ := T
      rw [lowT (y := (b, t)) he] at he'; cases he'
      rw [hv2] at hv3; cases hv3
      exact ⟨b, t, v, F3, he, hv2, o'⟩
    refine ⟨by rw [List.length_set]; exact R'.len, R'.ext.mut pF, R'.off, fun a ha => ?_, fun j x hx => ?_, R'.ml, fun j k x y hjk hx hy mx my => ?_, fun j fp h => ⟨(t1 j fp (upT h)).1, fun k fp' hk h' => (t1 j fp (upT h)).2 k fp' hk (upT h')⟩, R'.tup.mut fun xs z => by cases z⟩
    · rw [upd_ne (show a ≠ p from fun z => hM (z ▸ ha))]; exact R'.frm a ha
    · rcases getset hx with ⟨rfl, hx'⟩ | ⟨hj, hx⟩
      · cases hx'; exact ⟨_, hv, hsv upd_same hy pF⟩
      · obtain ⟨u, hu, q⟩ := R'.sl j x hx
        refine ⟨u, hu, ?_⟩
        cases x with
        | fz d => exact q
        | own ds' =>
          obtain ⟨p', vs', rfl, h1, h2, h3, h4⟩ := q
          exact ⟨p', vs', rfl, by rw [upd_ne (show p' ≠ p from fun z => ne j _ (Ne.symm hj) hx rfl (by rw [hu, z]))]; exact h1, h2, h3, h4⟩
        | lent ds' =>
          obtain ⟨vs', rfl, h1, h2, h3⟩ := q
          exact ⟨vs', rfl, by rw [upd_ne (show C.lam j ≠ p from fun z => hM (z ▸ R'.ml j h3))]; exact h1, h2, h3⟩
        | io ds' =>
          obtain ⟨vs', rfl, h1, h2, h3, h4⟩ := q
          exact ⟨vs', rfl, by rw [upd_ne (show C.lam j ≠ p from fun z => ne j _ (Ne.symm hj) hx rfl (by rw [hu, z]))]; exact h1, h2, h3, h4⟩
        | tr b t =>
          obtain ⟨fp, o, nd, h, hb⟩ := q
          exact ⟨fp, o.ext (.refl F') fun a ha => kT a (o.some a ha) (h a ha).1 (h a ha).2 ⟨j, fp, ⟨b, t, u, F', hx, hu, o⟩, ha⟩, nd, h, hb⟩
    · rcases getset hx with ⟨rfl, hx'⟩ | ⟨hj, hx⟩
      · rcases getset hy with ⟨rfl, hy'⟩ | ⟨hk, hy⟩
        · exact absurd rfl hjk
        · rw [hv]; exact fun z => ne k y (Ne.symm hk) hy my z.symm
      · rcases getset hy with ⟨rfl, hy'⟩ | ⟨hk, hy⟩
        · rw [hv]; exact fun z => ne j x (Ne.symm hj) hx mx z
        · exact R'.ne j k x y hjk hx hy mx my
  split at h
  · rename_i ds' hd
    cases h
    obtain ⟨v, hv, p, vs, rfl, h1, h2, h3, h4⟩ := R.sl _ _ hd
    refine ⟨p, vs, hv, h1, h2, h3, fun {F' H' ys ds'} R' hy => ?_, fun R' h' => again hv R' h'⟩
    have : putAt e i ds' = e.set i (some (.own ds')) := by unfold putAt; rw [hd]
    rw [this]
    exact st (sv := .own) (fun _ => rfl) hd hv h4 (fun R' => (again hv R' (by unfold VI.mutAt; rw [hd])).elim fun _ z => z.2.2) (fun a b c => ⟨p, _, rfl, a, b, c, h4⟩) R' hy
  · rename_i ds' hd
    cases h
    obtain ⟨v, hv, vs, rfl, h1, h2, h3, h4⟩ := R.sl _ _ hd
    refine ⟨_, vs, hv, h1, h2, h3, fun {F' H' ys ds'} R' hy => ?_, fun R' h' => again hv R' h'⟩
    have : putAt e i ds' = e.set i (some (.io ds')) := by unfold putAt; rw [hd]
    rw [this]
    exact st (sv := .io) (fun _ => rfl) hd hv h4 (fun R' => (again hv R' (by unfold VI.mutAt; rw [hd])).elim fun _ z => z.2.2) (fun a b c => ⟨_, rfl, a, b, c, h4⟩) R' hy
  · cases h
abbrev FM := List D → List D → Option (D × List D)
def MutS (K : PySem.W.Frag) (f : FM) (r : V → List V → Hp → VK → Prop) : Prop := ∀ F H p xs vs dx ds z dx', Ext F H → H p = some (.lst xs) → F p = none → DpAll K F xs dx → DpAll K F vs ds → f dx ds = some (z, dx') → ∀ Q : VK, (∀ v ys, Dp K F v z → DpAll K F ys dx' → Q v (upd H p (.lst ys))) → r (.ref p) vs H Q
/-- name.method(args), the name's list is changed -/
def eM (f : FM) (i : Nat) (as : Sem1 (List D)) : Ev := fun e => match mutAt e i with
  | none => .no
  | some _ => (as e).bind fun ds e1 => match mutAt e1 i with
    | none => .no
    | some xs => match f xs ds with
      | none => .no
      | some (z, xs') => .ok (.fz z) (putAt e1 i xs')
theorem rd_mut {w : Wd} {f : FM} {r : V → List V → Hp → VK → Prop} {i : Nat} {as : Sem1 (List D)} (hs : MutS w.K f r) {Q : VK} (h : rdR w (eM f i as) σ H Q) : tBM w.K "list" r (rdR w (eV i)) (rdDs w as) σ H Q := by
  obtain ⟨C, F, e, R, P⟩ := h
  unfold eM at P
  cases hm : mutAt e i with
  | none => rw [hm] at P; exact P.elim
  | some xs0 =>
    rw [hm] at P
    have hev : eV i e = .ok (.bor i) e := by
      unfold mutAt at hm
      unfold eV
      split at hm <;> first | (cases hm; done) | skip
      all_goals (rename_i hq; rw [hq])
    refine ⟨C, F, e, R, ?_⟩
    rw [hev]
    intro v F1 H1 R1 E1 q1
    have q1 : σ[i]? = some (some v) := q1
    obtain ⟨p, ws, hv, hp, _⟩ := R1.mutAt hm
    rw [q1] at hv; cases hv
    refine ⟨.inl ⟨rfl, ws, .of hp⟩, ?_⟩
    have P := Post.mono E1 P
    refine bindP R1 P fun F2 H2 e2 ds vs h2 R2 E2 q2 P2 => ?_
    cases hm2 : mutAt e2 i with
    | none => rw [hm2] at P2; exact P2.elim
    | some xs =>
      rw [hm2] at P2
      simp only at P2
      cases hf : f xs ds with
      | none => rw [hf] at P2; exact P2.elim
      | some zz =>
        obtain ⟨z, xs'⟩ := zz
        rw [hf] at P2
        obtain ⟨p', ws', hv', hp', hd', hF', put, _⟩ := R2.mutAt hm2
        rw [q1] at hv'; cases hv'
        exact hs F2 H2 _ ws' vs xs ds z xs' R2.ext hp' hF' hd' q2 hf Q fun v ys qv qy => P2 v F2 _ (put R2 qy) (.refl F2) qv
/-- name[ix] = val -/
def setS (i : Nat) (ix val : Ev) : St1 := fun e => (toD val e).bind fun d e1 => match mutAt e1 i with
  | none => .no
  | some _ => (opd ix e1).bind fun k e2 => match k, mutAt e2 i with
    | .fz (.int k), some xs => match ixN xs.length k with
      | none => .no
      | some j => .ok .nx (putAt e2 i (xs.set j d))
    | _, _ => .no
theorem rd_set {w : Wd} {D : Ends} {i : Nat} {ix val : Ev} (h : rdS w (setS i ix val) D σ H) : tAsg (rdR w val) (gSub (rdR w (eV i)) (rdR w ix) rSetL) D σ H := by
  obtain ⟨C, F, e, R, P⟩ := h
  refine rd_toD (bindS R P fun F1 H1 e1 d v h1 R1 E1 q1 P1 => ?_)
  cases hm : mutAt e1 i with
  | none => rw [hm] at P1; exact P1.elim
  | some xs0 =>
    rw [hm] at P1
    have hev : eV i e1 = .ok (.bor i) e1 := by
      unfold mutAt at hm
      unfold eV
      split at hm <;> first | (cases hm; done) | skip
      all_goals (rename_i hq; rw [hq])
    refine ⟨C, F1, e1, R1, ?_⟩
    rw [hev]
    intro o F2 H2 R2 E2 qo
    have qo : σ[i]? = some (some o) := qo
    have P1 := PostS.mono E2 P1
    refine rd_opd (bindS R2 P1 fun F3 H3 e3 k u h3 R3 E3 q3 P3 => ?_)
    split at P3
    · rename_i kk xs hm3
      cases q3
      split at P3
      · exact P3.elim
      · rename_i j hj
        obtain ⟨p, ws, hv, hp, hd, hF, put, _⟩ := R3.mutAt hm3
        rw [qo] at hv; cases hv
        refine ⟨p, ws, kk, j, rfl, rfl, hp, by rw [hd.length]; exact hj, ?_⟩
        exact P3.nx' (put R3 (hd.set (Dp.ext (E2.trans E3) q1) j))
    · exact P3.elim
/-- f(name, args): the name's list may be changed -/
def eI (fn : List D → List D → Option (Ret × List D)) (i : Nat) (as : Sem1 (List D)) : Ev := fun e => match mutAt e i with
  | none => .no
  | some _ => (as e).bind fun ds e1 => match mutAt e1 i with
    | none => .no
    | some b => match fn b ds with
      | none => .no
      | some (.ok r, b') => .ok r (putAt e1 i b')
      | some (.ex x, b') => .ex x (putAt e1 i b')
theorem Rp.afterI (R : Rp K C F H e σ) {p : Addr} {i : Nat} {b b' : List D} {F' H' : Hp} {bs' : List V} (hm : VI.mutAt e i = some b) (hv : σ[i]? = some (some (.ref p))) (E : Ext F F') (E' : Ext F' H') (T : TupIn F' H') (frm : ∀ a, a ≠ p → H a ≠ none → F a = none → H' a = H a ∧ F' a = none) (hp : H' p = some (.lst bs')) (pF : F' p = none) (hd : DpAll K F' bs' b') :
    Rp K C F' H' (putAt e i b') σ := by
  obtain ⟨p', ws, hv', hp', hd', hF', put, _⟩ := R.mutAt hm
  rw [hv] at hv'; cases hv'
  -- the heap as if p's list had stayed
  have A : After F F' H (upd H' p (.lst ws)) := ⟨E, E'.mut pF, fun a h1 h2 => by
    by_cases ha : a = p
    · subst ha; rw [upd_same, hp']; exact ⟨rfl, pF⟩
    · rw [upd_ne ha]; exact frm a ha h1 h2, T.mut fun xs z => by cases z⟩
  have R1 := R.after A
  have R2 := put R1 hd
  have : upd (upd H' p (.lst ws)) p (.lst bs') = H' := by
    funext a
    by_cases ha : a = p
    · subst ha; rw [upd_same, hp]
    · rw [upd_ne ha, upd_ne ha]
  rwa [this] at R2
/-- a new list behind such a call is none of ours -/
theorem Rp.apartI (R : Rp K C F H e σ) {p q : Addr} {i : Nat} {b b' : List D} {F' H' : Hp} (hm : VI.mutAt e i = some b) (hv : σ[i]? = some (some (.ref p))) (frm : ∀ a, a ≠ p → H a ≠ none → F a = none → H' a = H a ∧ F' a = none) (hq : H q = none) : Apar K H' (putAt e i b') σ q := by
  have low : ∀ {j : Nat} {y : Sv}, (putAt e i b')[j]? = some (some y) → (y.mu = true ∧ ∃ y', e[j]? = some (some y') ∧ y'.mu = true) ∨ e[j]? = some (some y) := fun {j y} hy => by
    unfold putAt at hy
    split at hy
    · rename_i q hq
      rcases getset hy with ⟨rfl, z⟩ | ⟨hj, hy⟩
      · cases z; exact .inl ⟨rfl, _, hq, rfl⟩
      · exact .inr hy
    · rename_i q hq
      rcases getset hy with ⟨rfl, z⟩ | ⟨hj, hy⟩
      · cases z; exact .inl ⟨rfl, _, hq, rfl⟩
      · exact .inr hy
    · exact .inr hy
  have mu : ∃ y', e[i]? = some (some y') ∧ y'.mu = true := by
    unfold VI.mutAt at hm
    split at hm
    · rename_i q hq; exact ⟨_, hq, rfl⟩
    · rename_i q hq; exact ⟨_, hq, rfl⟩
    · cases hm
  refine ⟨fun j y hy my hs => ?_, fun j fp ht => ?_⟩
  · rcases low hy with ⟨_, y', hy', my'⟩ | hy
    · exact R.apart hq j y' hy' my' hs
    · exact R.apart hq j y hy my hs
  · obtain ⟨b2, t, v, F2, he, hv2, o⟩ := ht
    rcases low he with ⟨z, _⟩ | he
    · cases z
    · refine R.apT hq (fun a h0 h1 _ ⟨k, fp2, ht2, ha⟩ => (frm a (fun z => ?_) h0 h1).1) j fp ⟨b2, t, v, F2, he, hv2, o⟩
      obtain ⟨y', hy', my'⟩ := mu
      exact (R.tn k fp2 ht2).1 a ha i y' hy' my' (by rw [hv, z])
theorem rd_callI {w : Wd} {n i : Nat} {fn : List D → List D → Option (Ret × List D)} {as : List Ev} (hn : as.length + 1 = n) {Q : VK} (h : rdR w (eI fn i (toDs as)) σ H Q) : tCallS (spI w.K w.XR n fn) (WE w.W) (tCons (rdR w (eV i)) (rdDs w (toDs as))) σ H Q := by
  obtain ⟨C, F, e, R, P⟩ := h
  unfold eI at P
  cases hm : mutAt e i with
  | none => rw [hm] at P; exact P.elim
  | some xs0 =>
    rw [hm] at P
    have hev : eV i e = .ok (.bor i) e := by
      unfold mutAt at hm
      unfold eV
      split at hm <;> first | (cases hm; done) | skip
      all_goals (rename_i hq; rw [hq])
    refine ⟨C, F, e, R, ?_⟩
    rw [hev]
    intro v F1 H1 R1 E1 q1
    have q1 : σ[i]? = some (some v) := q1
    have P := Post.mono E1 P
    refine bindP R1 P fun F2 H2 e2 ds vs h2 R2 E2 q2 P2 => ?_
    cases hm2 : mutAt e2 i with
    | none => rw [hm2] at P2; exact P2.elim
    | some b =>
      rw [hm2] at P2
      simp only at P2
      obtain ⟨p, ws, hv, hp, hd, hF, put, _⟩ := R2.mutAt hm2
      rw [q1] at hv; cases hv
      have hl : ∀ (as : List Ev) (e : Env) (ds : List D) (e1 : Env), toDs as e = .ok ds e1 → ds.length = as.length := by
        intro as
        induction as with
        | nil => intro e ds e1 h; cases h; rfl
        | cons a as ih =>
          intro e ds e1 h
          unfold toDs at h
          cases h2 : toD a e with
          | no => rw [h2] at h; cases h
          | ex x e2 => rw [h2] at h; cases h
          | ok x e2 =>
            rw [h2] at h
            have h : (toDs as e2).bind (fun xs e2 => .ok (x :: xs) e2) = .ok ds e1 := h
            cases h3 : toDs as e2 with
            | no => rw [h3] at h; cases h
            | ex y e3 => rw [h3] at h; cases h
            | ok xs e3 => rw [h3] at h; cases h; rw [List.length_cons, List.length_cons, ih _ _ _ h3]
      refine ⟨by rw [List.length_cons, q2.length, hl _ _ _ _ h2]; exact hn, p, vs, ws, F2, b, ds, rfl, R2.ext, R2.tup, hF, hp, hd, q2, ?_⟩
      split at P2
      · exact P2.elim
      · rename_i r b' hfn
        try simp only [hfn]
        intro v F' H' bs' E E' T frm hp' pF hd' qr
        refine P2 v F' H' (R2.afterI hm2 q1 E E' T frm hp' pF hd') E ?_
        cases r with
        | fz d => exact qr
        | fresh ds =>
          obtain ⟨q, zs, rfl, k1, k2, k3, k4⟩ := qr
          exact ⟨q, zs, rfl, k1, k2, k3, R2.notM k4, R2.apartI hm2 q1 frm k4⟩
        | bor j => exact qr.elim
      · rename_i xx b' hfn
        try simp only [hfn]
        intro F' H' bs' cv od E E' T frm hp' pF hd' qx
        exact P2 F' H' cv od (R2.afterI hm2 q1 E E' T frm hp' pF hd') E qx
section
variable {X : Cx} {W : WX} {XR : Hp → Hp → Xc → Value → Option Addr → Prop} {a b o : Expr} {es : List Expr} {ix val : Ev} {as : List Ev} {i : Nat} {p pos apos cpos pos' : Pos} {x y name : Str}
theorem ve_mut {w : Wd} {f : FM} {r : V → List V → Hp → VK → Prop} {id : String} (slot : Slot "list" name id) (hty : typeOf (.builtin id) = pure (.type "method_descriptor")) (hm : MtR X id r) (hs : MutS X.K f r) (hw : w.K = X.K) (ho : PE X o (rdR w (eV i))) (ha : PA X (a :: es) (rdDs w (toDs as)))
    (hbase : attributeBase o name X.env (eval o X.env) = eval o X.env := by rfl)
    (hfew : ((backTo cpos (starEach (a :: es) X.env)).all (fun x => !x.1) && (backToKw cpos (keywordEach [] X.env)).all (fun x => x.1.isSome)
      && decide ((a :: es).length + ([] : List Keyword).length + (if ([] : List Keyword).isEmpty then 0 else 1) < 30)) = true := by rfl)
    (hline : (apos.endLine == cpos.line) = true := by rfl) (h1 : starEach (a :: es) X.env = (false, eval a X.env) :: starEach es X.env := by rfl) (hplain : (backTo cpos (starEach es X.env)).any (·.1) = false := by rfl) :
    PE X (.Call (.Attribute o name apos) (a :: es) [] cpos) (rdR w (eM f i (toDs as))) := pe_mono (pe_bm PySem.F.plainAttrs_list slot hty hm ho ha hbase hfew hline h1 hplain) fun _ _ _ h => by
  rw [← hw] at hs ⊢; exact rd_mut hs h
theorem vs_set {w : Wd} (he : PE X b (rdR w val)) (ho : PE X o (rdR w (eV i))) (hi : PE X a (rdR w ix)) (hg : PG X (.Subscript o a pos') (gSub (rdR w (eV i)) (rdR w ix) rSetL)) (hs : swapsWithSole [.Subscript o a pos'] b pos.line X.env = pure false := by rfl) (hw : swappedStores [.Subscript o a pos'] b X.env = pure none := by rfl)
    (h1 : (assignEach [.Subscript o a pos'] X.env).map (·.2) = [assign (.Subscript o a pos') X.env] := by rfl) : PS X (.Assign [.Subscript o a pos'] b pos) (rdS w (setS i ix val)) := ps_mono (ps_asg he hg hs hw h1) fun _ _ _ h => rd_set h
theorem ve_callI {k n : Nat} {fn : List D → List D → Option (Ret × List D)} (d : Defn X.prog X.w X.K X.mg X.base k x n (spI X.K XR n fn)) (hr : Room k X.A) (hu : X.A.guards = some []) (hg : Gl X x) (hx : ∀ σ, PassesAt (L2.CX X.prog X.w) X σ (WE W σ)) (hn : as.length + 1 = n)
    (ho : PE X a (rdR (wd X W XR) (eV i))) (ha : PA X es (rdDs (wd X W XR) (toDs as))) (hdb : (x == ("__debug__" : Str)) = false := by decide) (he : starEach (a :: es) X.env = (false, eval a X.env) :: starEach es X.env := by rfl) (hpl : (backTo pos (starEach es X.env)).any (·.1) = false := by rfl) :
    PE X (.Call (.Name x p) (a :: es) [] pos) (rdR (wd X W XR) (eI fn i (toDs as))) := by
  obtain ⟨f, fd, ps, hm, hk, hb, hl, F⟩ := d.ex
  exact pe_mono (pe_callG F hr hu hg hm hk hb hx (pa_cons ho ha he) hdb he hpl) fun _ _ _ h => rd_callI hn h
end
def initE (n : Nat) (ds : List D) : Env := ds.map (fun d => some (.fz d)) ++ List.replicate (n - ds.length) none
def initI (n : Nat) (b : List D) (ds : List D) : Env := some (.io b) :: (ds.map (fun d => some (.fz d)) ++ List.replicate (n - (ds.length + 1)) none)
/-- what a def gives, by its body over n names -/
def fnF (body : St1) (n : Nat) (ds : List D) : Option Ret := match body (initE n ds) with
  | .ok (.ret r) _ => some (.ok r)
  | .ok .nx _ => some (.ok (.fz .none))
  | .ex x _ => some (.ex x)
  | _ => none
def ioAt (e : Env) : Option (List D) := match (e[0]? : Option (Option Sv)) with
  | some (some (.io b)) => some b
  | _ => none
def fnI (body : St1) (n : Nat) (b ds : List D) : Option (Ret × List D) := match body (initI n b ds) with
  | .ok (.ret r) e => (ioAt e).bind fun b' => some (.ok r, b')
  | .ok .nx e => (ioAt e).bind fun b' => some (.ok (.fz .none), b')
  | .ex x e => (ioAt e).bind fun b' => some (.ex x, b')
  | _ => none
def cf0 (F H : Hp) (p : Addr) : Cf := ⟨fun a => H a ≠ none ∧ F a = none ∧ a ≠ p, H, fun _ => p, fun _ => False⟩
theorem initE_get {n : Nat} {ds : List D} {i : Nat} {x : Sv} (h : (initE n ds)[i]? = some (some x)) : ∃ d, x = .fz d ∧ ds[i]? = some d := by
  unfold initE at h
  by_cases hi : i < ds.length
  · rw [List.getElem?_append_left (by rw [List.length_map]; exact hi), List.getElem?_map, List.getElem?_eq_getElem hi] at h
    cases h
    exact ⟨_, rfl, List.getElem?_eq_getElem hi⟩
  · rw [List.getElem?_append_right (by rw [List.length_map]; omega), List.getElem?_replicate] at h
    split at h <;> cases h
theorem start_get {N : List Str} {vs : List V} {i : Nat} {v : V} (h : vs[i]? = some v) : (L2.start N vs)[i]? = some (some v) := by
  unfold L2.start
  have hi := (List.getElem?_eq_some_iff.mp h).1
  rw [List.getElem?_append_left (by rw [List.length_map]; exact hi), List.getElem?_map, h]
  rfl
def cfF (F H : Hp) : Cf := ⟨fun a => H a ≠ none ∧ F a = none, H, fun _ => 0, fun _ => False⟩
theorem rp_init {N : List Str} {vs : List V} {ds : List D} (E : Ext F H) (T : TupIn F H) (hd : DpAll K F vs ds) : Rp K (cfF F H) F H (initE N.length ds) (L2.start N vs) := by
  refine ⟨?_, E, fun a ha => ha.2, fun a ha => ⟨rfl, ha.1⟩, fun i x hx => ?_, fun i h => h.elim, fun i j x y hij hx hy mx my => ?_, fun i fp ⟨b, t, v, F', he, _⟩ => by (obtain ⟨d, z, _⟩ := initE_get he; cases z), T⟩
  · unfold initE L2.start
    rw [List.length_append, List.length_append, List.length_map, List.length_map, List.length_replicate, List.length_replicate, hd.length]
  · obtain ⟨d, rfl, hx'⟩ := initE_get hx
    obtain ⟨v, hv, q⟩ := hd.get hx'
    exact ⟨v, start_get hv, q⟩
  · obtain ⟨d, rfl, hx⟩ := initE_get hx
    cases mx
theorem initI_get {n : Nat} {b ds : List D} {i : Nat} {x : Sv} (h : (initI n b ds)[i]? = some (some x)) : (i = 0 ∧ x = .io b) ∨ ∃ j d, i = j + 1 ∧ x = .fz d ∧ ds[j]? = some d := by
  cases i with
  | zero => unfold initI at h; cases h; exact .inl ⟨rfl, rfl⟩
  | succ j =>
    right
    unfold initI at h
    rw [List.getElem?_cons_succ] at h
    by_cases hi : j < ds.length
    · rw [List.getElem?_append_left (by rw [List.length_map]; exact hi), List.getElem?_map, List.getElem?_eq_getElem hi] at h
      cases h
      exact ⟨j, _, rfl, rfl, List.getElem?_eq_getElem hi⟩
    · rw [List.getElem?_append_right (by rw [List.length_map]; omega), List.getElem?_replicate] at h
      split at h <;> cases h
theorem rp_initI {N : List Str} {vs bs : List V} {b ds : List D} {p : Addr} (E : Ext F H) (T : TupIn F H) (hd : DpAll K F vs ds) (hp : H p = some (.lst bs)) (hb : DpAll K F bs b) (pF : F p = none) : Rp K (cf0 F H p) F H (initI N.length b ds) (L2.start N (.ref p :: vs)) := by
  refine ⟨?_, E, fun a ha => ha.2.1, fun a ha => ⟨rfl, ha.1⟩, fun i x hx => ?_, fun i h => h.elim, fun i j x y hij hx hy mx my => ?_, fun i fp ⟨b, t, v, F', he, _⟩ => by (rcases initI_get he with ⟨_, z⟩ | ⟨_, _, _, z, _⟩ <;> cases z), T⟩
  · unfold initI L2.start
    simp only [List.length_append, List.length_map, List.length_replicate, List.length_cons, hd.length]
    omega
  · rcases initI_get hx with ⟨rfl, rfl⟩ | ⟨j, d, rfl, rfl, hx'⟩
    · exact ⟨.ref p, start_get rfl, bs, rfl, hp, hb, pF, fun z => z.2.2 rfl⟩
    · obtain ⟨v, hv, q⟩ := hd.get hx'
      exact ⟨v, start_get (by rw [List.getElem?_cons_succ]; exact hv), q⟩
  · rcases initI_get hx with ⟨rfl, rfl⟩ | ⟨k, d, rfl, rfl, hx⟩
    · rcases initI_get hy with ⟨rfl, rfl⟩ | ⟨k, d, rfl, rfl, hy⟩
      · exact absurd rfl hij
      · cases my
    · cases mx
section
variable {P : Program} {w : World} {mg : Str → Option Value} {base : Heap} {XR : Hp → Hp → Xc → Value → Option Addr → Prop} {x qual : Str} {st : Stmt} {f : Addr} {fd : FuncData} {N ps : List Str} {k : Nat} {body : St1}
/-- THE RULE for a def that changes nothing that stood -/
theorem def_ok (FF : Fun K x qual st f fd) (S : FnScope N ps (defScope st))
    (hbody : ∀ (cdv : Value) (A : Around) (outer : List PySem.Env) (s : Shared) (H : Hp) (E : XK), Room k (A.deeper (envOfC qual (defScope st) s.heap.objs.size f cdv)) → A.guards = some [] →
      PSs (cxOf (L2.CX P w) P w K mg base N qual (defScope st) f cdv A outer s H E) (defBody st) (rdS ⟨K, fun c d _ H => E c d H, XR⟩ body)) : FnG P w K mg base (k + 1) f fd ps (spF K XR ps.length (fnF body N.length)) := by
  refine Fun.okG FF S (fun vs H Q E h => h.1) (fun cdv A outer s H vs Q E hr hgd h => ⟨_, hbody cdv A outer s H E hr hgd, ?_⟩)
  obtain ⟨hl, F, ds, EX, TX, hd, m⟩ := h
  refine ⟨cfF F H, F, initE N.length ds, rp_init EX TX hd, ?_⟩
  have aft : ∀ {F' H' : Hp} {e' : Env} {σ' : L2.St}, Rp K (cfF F H) F' H' e' σ' → Ext F F' → After F F' H H' := fun R E' => ⟨E', R.ext, fun a h1 h2 => ⟨(R.frm a ⟨h1, h2⟩).1, R.off a ⟨h1, h2⟩⟩, R.tup⟩
  unfold fnF at m
  cases hb : body (initE N.length ds) with
  | no => rw [hb] at m; exact m
  | ex x e' => rw [hb] at m; exact fun F' H' σ' cv od R E' q => m F' H' cv od (aft R E') q
  | ok fl e' =>
    rw [hb] at m
    cases fl with
    | nx => exact fun F' H' σ' R E' => m .non F' H' (aft R E') .non
    | bk => exact m.elim
    | ct => exact m.elim
    | ret r =>
      intro v F' H' σ' R E' q hr
      refine m v F' H' (aft R E') ?_
      cases r with
      | fz d => exact q
      | fresh ds =>
        obtain ⟨p, vs, rfl, k1, k2, k3, k4, k5⟩ := q
        refine ⟨p, vs, rfl, k1, k2, k3, ?_⟩
        cases h0 : H p with
        | none => rfl
        | some o => exact absurd ⟨by rw [h0]; exact fun z => (by cases z), E'.free k3⟩ k4
      | bor j => rcases hr with hr | ⟨_, hr⟩ <;> cases hr
/-- .. of one whose first argument is a list that it may change -/
theorem def_okI (FF : Fun K x qual st f fd) (S : FnScope N ps (defScope st))
    (hbody : ∀ (cdv : Value) (A : Around) (outer : List PySem.Env) (s : Shared) (H : Hp) (E : XK), Room k (A.deeper (envOfC qual (defScope st) s.heap.objs.size f cdv)) → A.guards = some [] →
      PSs (cxOf (L2.CX P w) P w K mg base N qual (defScope st) f cdv A outer s H E) (defBody st) (rdS ⟨K, fun c d _ H => E c d H, XR⟩ body)) : FnG P w K mg base (k + 1) f fd ps (spI K XR ps.length (fnI body N.length)) := by
  refine Fun.okG FF S (fun vs H Q E h => h.1) (fun cdv A outer s H vs Q E hr hgd h => ⟨_, hbody cdv A outer s H E hr hgd, ?_⟩)
  obtain ⟨hl, p, ws, bs, F, b, ds, rfl, EX, TX, pF, hp, hb0, hd, m⟩ := h
  refine ⟨cf0 F H p, F, initI N.length b ds, rp_initI EX TX hd hp hb0 pF, ?_⟩
  have frm : ∀ {F' H' : Hp} {e' : Env} {σ' : L2.St}, Rp K (cf0 F H p) F' H' e' σ' → ∀ a, a ≠ p → H a ≠ none → F a = none → H' a = H a ∧ F' a = none := fun R a h0 h1 h2 => ⟨(R.frm a ⟨h1, h2, h0⟩).1, R.off a ⟨h1, h2, h0⟩⟩
  have io : ∀ {F' H' : Hp} {e' : Env} {σ' : L2.St} {b' : List D}, Rp K (cf0 F H p) F' H' e' σ' → ioAt e' = some b' → ∃ bs', H' p = some (.lst bs') ∧ F' p = none ∧ DpAll K F' bs' b' ∧ σ'[0]? = some (some (.ref p)) ∧ e'[0]? = some (some (.io b')) := fun {F' H' e' σ' b'} R h => by
    unfold ioAt at h
    split at h
    · rename_i b1 h1
      cases h
      obtain ⟨v, hv, vs, rfl, k1, k2, k3, k4⟩ := R.sl _ _ h1
      exact ⟨vs, k1, k3, k2, hv, h1⟩
    · cases h
  unfold fnI at m
  cases hb : body (initI N.length b ds) with
  | no => rw [hb] at m; exact m
  | ex x e' =>
    rw [hb] at m
    intro F' H' σ' cv od R E' q
    simp only at m
    cases hi : ioAt e' with
    | none => rw [hi] at m; exact m.elim
    | some b' =>
      rw [hi] at m
      obtain ⟨bs', k1, k2, k3, _⟩ := io R hi
      exact m F' H' bs' cv od E' R.ext R.tup (frm R) k1 k2 k3 q
  | ok fl e' =>
    rw [hb] at m
    cases fl with
    | nx =>
      intro F' H' σ' R E'
      simp only at m
      cases hi : ioAt e' with
      | none => rw [hi] at m; exact m.elim
      | some b' =>
        rw [hi] at m
        obtain ⟨bs', k1, k2, k3, _⟩ := io R hi
        exact m .non F' H' bs' E' R.ext R.tup (frm R) k1 k2 k3 .non
    | bk => exact m.elim
    | ct => exact m.elim
    | ret r =>
      intro v F' H' σ' R E' q hr
      simp only at m
      cases hi : ioAt e' with
      | none => rw [hi] at m; exact m.elim
      | some b' =>
        rw [hi] at m
        obtain ⟨bs', k1, k2, k3, k4, k5⟩ := io R hi
        refine m v F' H' bs' E' R.ext R.tup (frm R) k1 k2 k3 ?_
        cases r with
        | fz d => exact q
        | fresh ds =>
          obtain ⟨q, vs, rfl, j1, j2, j3, j4, j5⟩ := q
          refine ⟨q, vs, rfl, j1, j2, j3, ?_⟩
          cases h0 : H q with
          | none => rfl
          | some o => exact absurd ⟨by rw [h0]; exact fun z => (by cases z), E'.free j3, fun z => j5.1 0 _ k5 rfl (by rw [k4, z])⟩ j4
        | bor j => rcases hr with hr | ⟨_, hr⟩ <;> cases hr
end
end VI
set_option Elab.async false
set_option linter.all false
set_option maxRecDepth 100000
set_option maxHeartbeats 4000000
namespace VI
open PySem PySem.Spec PyProof.Rows L2
theorem tuple_mul1 (l : Addr) (items : Array Value) (n : Nat) (dd : Option Addr) (sl : Array (Option Value)) (x : Int) (u : Tok) (c0 : (decide (x < -(2 ^ 63)) || decide (x ≥ 2 ^ 63)) = false) (c1 : (items.isEmpty || x == 1) = true) :
    Meets (Builtin.«tuple.__mul__» ⟨[.ref l, .int x u], []⟩) (fun _ R s => s.heap.get? l = some { cls := .type "tuple", dict := dd, data := .seq items n, slots := sl } ∧ R (.ok (.ret (Value.ref l))) s) :=
  .of_wp fun prog w A R s h => by
    obtain ⟨hp, g, d, tk, os⟩ := s
    obtain ⟨hl, h⟩ := h
    have f1 := AutoSeq1.idx_int
    wp_walk using wpAny_loadPart' hl
    repeat (first
      | (refine wpAny_ite_false (decide_eq_false (by rw [c0]; exact Bool.false_ne_true)) ?_; wp_walk using wpAny_loadPart' hl)
      | (refine wpAny_ite_true (decide_eq_true c1) ?_; wp_walk using wpAny_loadPart' hl))
    exact ⟨_, rfl, h⟩
theorem tuple_mul0 (l : Addr) (items : Array Value) (n : Nat) (dd : Option Addr) (sl : Array (Option Value)) (x : Int) (u : Tok) (c0 : (decide (x < -(2 ^ 63)) || decide (x ≥ 2 ^ 63)) = false) (c1 : (items.isEmpty || x == 1) = false) (c2 : (decide (x ≤ 0) || items.isEmpty) = true) :
    Meets (Builtin.«tuple.__mul__» ⟨[.ref l, .int x u], []⟩) (fun _ R s => s.heap.get? l = some { cls := .type "tuple", dict := dd, data := .seq items n, slots := sl } ∧
      R (.ok (.ret (Value.ref s.heap.objs.size))) { s with heap := s.heap.push { cls := Value.type "tuple", data := Data.seq #[] }, toks := s.toks }) :=
  .of_wp fun prog w A R s h => by
    obtain ⟨hp, g, d, tk, os⟩ := s
    obtain ⟨hl, h⟩ := h
    have f1 := AutoSeq1.idx_int
    wp_walk using wpAny_loadPart' hl
    repeat (first
      | (refine wpAny_ite_false (decide_eq_false (by rw [c0]; exact Bool.false_ne_true)) ?_; wp_walk using wpAny_loadPart' hl)
      | (refine wpAny_ite_false (decide_eq_false (by rw [c1]; exact Bool.false_ne_true)) ?_; wp_walk using wpAny_loadPart' hl)
      | (refine wpAny_ite_true (decide_eq_true c2) ?_; wp_walk using wpAny_loadPart' hl))
    exact ⟨_, rfl, h⟩
/-- a tuple times 1, an empty one times a number: the same; times 0 or less: nothing -/
def rRepT1 (K : PySem.W.Frag) : R2 := fun x y H Q => ∃ l k xs, x = .ref l ∧ y = .int k ∧ SqT K H l xs ∧ -1000 ≤ k ∧ k ≤ 1000 ∧ (xs = [] ∨ k ≤ 1) ∧ ((xs = [] ∨ k = 1) → Q (.ref l) H) ∧ (xs ≠ [] → k ≤ 0 → ∀ p, H p = none → Q (.ref p) (upd H p (.tup [])))
theorem op_repT1 {X : Cx} : OpR X (binaryOp .Mult) (rRepT1 X.K) := by
  intro pins s σ H x y v u Q I rx ry h
  obtain ⟨l, k, xs, rfl, rfl, hT, h1, h2, hk, q1, q2⟩ := h
  cases rx
  obtain ⟨t, rfl⟩ := ry
  obtain ⟨its, r, ⟨⟨cls, dd, data, sl⟩, ho, hc, n, hd⟩, hs⟩ := I.tuple hT
  simp only at hc hd
  subst hc hd
  have hle : its.length = xs.length := r.length.symm
  have c0 : (decide (k < -(2 ^ 63)) || decide (k ≥ 2 ^ 63)) = false := by
    rw [decide_eq_false (by omega), decide_eq_false (by omega)] <;> rfl
  have he : its.toArray.isEmpty = true ↔ xs = [] := by
    cases its with
    | nil => cases xs with
      | nil => simp
      | cons a b => cases hle
    | cons a b => cases xs with
      | nil => cases hle
      | cons a b => simp
  by_cases hc : xs = [] ∨ k = 1
  · have c1 : (its.toArray.isEmpty || k == 1) = true := by
      rcases hc with hc | hc
      · rw [he.mpr hc]; rfl
      · rw [hc]; simp
    refine wpAny_binaryOp_repeat_ref (T := "tuple") (U := "int") (by decide) ⟨_, ho, rfl⟩ (fun s' => typeIs_int s' k t) noFill_tuple_mul F.fills_int_mul F.slot_int_rmul repeat_tuple F.slot_int_index.lookup
      (call_meets F.slot_int_rmul (typeIs_int s k t) F.entry_int_rmul (F.args_int_rmul_2 _ _) (int_rmul_tuple k t l its.toArray n dd sl)
        ⟨ho, rfl, ⟨_, ho, rfl⟩, call_meets F.slot_tuple_mul ⟨_, ho, rfl⟩ F.entry_tuple_mul (F.args_tuple_mul_2 _ _) (tuple_mul1 l its.toArray n dd sl k t c0 c1) ⟨ho, ?_⟩⟩)
    exact ⟨.ref l, H, I, rfl, q1 hc⟩
  · have hx : xs ≠ [] := fun z => hc (.inl z)
    have hk1 : ¬ k = 1 := fun z => hc (.inr z)
    have hk0 : k ≤ 0 := by
      rcases hk with hk | hk
      · exact absurd hk hx
      · omega
    have hi : its.toArray.isEmpty = false := by
      cases h : its.toArray.isEmpty with
      | false => rfl
      | true => exact absurd (he.mp h) hx
    have c1 : (its.toArray.isEmpty || k == 1) = false := by
      rw [hi, Bool.false_or]
      exact beq_eq_false_iff_ne.mpr hk1
    have c2 : (decide (k ≤ 0) || its.toArray.isEmpty) = true := by rw [decide_eq_true hk0]; rfl
    refine wpAny_binaryOp_repeat_ref (T := "tuple") (U := "int") (by decide) ⟨_, ho, rfl⟩ (fun s' => typeIs_int s' k t) noFill_tuple_mul F.fills_int_mul F.slot_int_rmul repeat_tuple F.slot_int_index.lookup
      (call_meets F.slot_int_rmul (typeIs_int s k t) F.entry_int_rmul (F.args_int_rmul_2 _ _) (int_rmul_tuple k t l its.toArray n dd sl)
        ⟨ho, rfl, ⟨_, ho, rfl⟩, call_meets F.slot_tuple_mul ⟨_, ho, rfl⟩ F.entry_tuple_mul (F.args_tuple_mul_2 _ _) (tuple_mul0 l its.toArray n dd sl k t c0 c1 c2) ⟨ho, ?_⟩⟩)
    refine ⟨.ref s.heap.objs.size, _, I.laid (t' := s.toks) (o := .tup []) (fun b ob q => Heap.get?_push_of_some _ q) (Nat.le_refl _) ?_, rfl, q2 hx hk0 _ (I.hok.fresh (Nat.le_refl _))⟩
    exact ⟨Nat.zero_le _, _, .nil, IsTup.new _ _⟩
/-- a list times a number -/
def rRepLd : R2 := fun x y H Q => ∃ a k xs, x = .ref a ∧ y = .int k ∧ L2.Rd H a (.lst xs) ∧ -(2 ^ 63) ≤ k ∧ k < 2 ^ 63 ∧ xs.length * k.toNat ≤ sizeLine ∧ ∀ p, H p = none → Q (.ref p) (upd H p (.lst (List.replicate k.toNat xs).flatten))
theorem op_repLd {X : Cx} : OpR X (binaryOp .Mult) rRepLd := by
  intro pins s σ H x y v u Q I rx ry h
  obtain ⟨l, k, xs, rfl, rfl, hH, h1, h2, hz, q⟩ := h
  cases rx
  obtain ⟨t, rfl⟩ := ry
  obtain ⟨z, its, n, r, e⟩ := hH.ok I.hok
  have hl : xs.length = its.length := r.length
  have hlen : its.toArray.size * k.toNat ≤ sizeLine := by rw [List.size_toArray, ← hl]; exact hz
  have hcap : ¬ its.toArray.size * k.toNat > (2 ^ 63 - 1) / 8 := by
    have : (sizeLine : Nat) ≤ (2 ^ 63 - 1) / 8 := by decide
    omega
  have hfit : ¬ (!Builtin.List.listFitsIndex k) = true := by
    rw [fitsIndex_both h1 h2]
    exact Bool.false_ne_true
  have hlong : ¬ Builtin.List.listTooLong (its.toArray.size * k.toNat) = true := by
    rw [notLongL hlen]
    exact Bool.false_ne_true
  have hnew : List.foldl (fun x1 x2 => x1 ++ x2) #[] (List.replicate (if its.toArray.isEmpty = true then 0 else k.toNat) its.toArray) = (List.replicate k.toNat its).flatten.toArray := by
    have f0 : ∀ m : Nat, List.foldl (fun x1 x2 => x1 ++ x2) #[] (List.replicate m its.toArray) = (List.replicate m its).flatten.toArray := fun m => by
      have := foldl_rep its m []
      rw [List.nil_append] at this
      exact this
    rw [f0]
    cases its with
    | nil => simp
    | cons a r' => rw [if_neg (by simp)]
  refine wpAny_binaryOp_repeat_ref (T := "list") (U := "int") (by decide) ⟨_, e, rfl⟩ (fun s' => typeIs_int s' k t) noFill_list_mul F.fills_int_mul F.slot_int_rmul repeat_list F.slot_int_index.lookup
    (call_meets F.slot_int_rmul (typeIs_int s k t) F.entry_int_rmul (F.args_int_rmul_2 _ _) (int___rmul___int_list k t l its.toArray n)
      ⟨e, rfl, ⟨_, e, rfl⟩, call_meets F.slot_list_mul ⟨_, e, rfl⟩ F.entry_list_mul (F.args_list_mul_2 _ _) (AutoListH.list___mul___list_int_3 l its.toArray n k t hfit hcap hlong) ⟨e, ?_⟩⟩)
  rw [hnew]
  exact ⟨.ref _, _, I.lnew (t' := s.toks) (r.rep k.toNat) (by rw [PyProof.Rows.lm_len_rep_flat, Nat.mul_comm]; exact hz), rfl, q _ I.fresh⟩
end VI
set_option Elab.async false
set_option linter.all false
set_option maxRecDepth 100000
set_option maxHeartbeats 4000000
namespace VI
open PySem PySem.Spec PyProof.Rows L2
variable {K : PySem.W.Frag} {C : Cf} {F H : Hp} {e e' : Env} {σ : L2.St} {X : Cx}
def ii (f : Int → Int → Option D) : F2 := fun x y => match x, y with
  | .int i, .int j => (f i j).map .fz
  | _, _ => none
theorem ii_some {f : Int → Int → Option D} {dx dy : D} {z : Rv} (h : ii f dx dy = some z) : ∃ i j d, dx = .int i ∧ dy = .int j ∧ f i j = some d ∧ z = .fz d := by
  unfold ii at h
  split at h
  · rename_i i j
    cases q : f i j with
    | none => rw [q] at h; cases h
    | some d => rw [q] at h; cases h; exact ⟨i, j, d, rfl, rfl, q, rfl⟩
  · cases h
theorem opS_C {Cc : Int → Int → Prop} {g : Int → Int → Int} {f : Int → Int → Option D} (h : ∀ i j d, f i j = some d → Cc i j ∧ d = .int (g i j)) : OpS K (ii f) (rI Cc fun i j => .int (g i j)) := by
  intro F H x y dx dy z E hx hy hz Q k
  obtain ⟨i, j, d, rfl, rfl, hf, rfl⟩ := ii_some hz
  obtain ⟨hc, rfl⟩ := h i j d hf
  cases hx; cases hy
  exact ⟨i, j, rfl, rfl, hc, k _ _ (.old (.int _))⟩
theorem opS_0 {g : Int → Int → Int} {f : Int → Int → Option D} (h : ∀ i j d, f i j = some d → d = .int (g i j)) : OpS K (ii f) (rI0 fun i j => .int (g i j)) := by
  intro F H x y dx dy z E hx hy hz Q k
  obtain ⟨i, j, d, rfl, rfl, hf, rfl⟩ := ii_some hz
  obtain rfl := h i j d hf
  cases hx; cases hy
  exact ⟨i, j, rfl, rfl, k _ _ (.old (.int _))⟩
theorem opS_b {g : Int → Int → Bool} {f : Int → Int → Option D} (h : ∀ i j d, f i j = some d → d = .bool (g i j)) : OpS K (ii f) (rI0 fun i j => .bl (g i j)) := by
  intro F H x y dx dy z E hx hy hz Q k
  obtain ⟨i, j, d, rfl, rfl, hf, rfl⟩ := ii_some hz
  obtain rfl := h i j d hf
  cases hx; cases hy
  exact ⟨i, j, rfl, rfl, k _ _ (.old (.bl _))⟩
def subD : F2 := ii fun i j => some (.int (i - j))
def mulOk (i j : Int) : Bool := decide ((Builtin.Int.intBits i : Int) + (Builtin.Int.intBits j : Int) ≤ 134217728)
def divOk (j : Int) : Bool := decide (0 < j) && decide (j.natAbs.log2 < 9000)
def divD : F2 := ii fun i j => if divOk j then some (.int (i / j)) else none
def modD : F2 := ii fun i j => if 0 < j then some (.int (i % j)) else none
def powOk (i j : Int) : Bool := decide (0 ≤ j) && decide (j ≤ 1000000) && decide (i.natAbs < 2 ^ 64)
def powD : F2 := ii fun i j => if powOk i j then some (.int (i ^ j.toNat)) else none
def ltD : F2 := ii fun i j => some (.bool (decide (i < j)))
def leD : F2 := ii fun i j => some (.bool (decide (i ≤ j)))
def gtD : F2 := ii fun i j => some (.bool (decide (j < i)))
def geD : F2 := ii fun i j => some (.bool (decide (j ≤ i)))
theorem s_sub : OpS K subD (rI0 fun i j => .int (i - j)) := opS_0 fun i j d h => by cases h; rfl
theorem s_div : OpS K divD (rI CDivW fun i j => .int (i / j)) := opS_C fun i j d h => by
  split at h
  · rename_i hd
    unfold divOk at hd
    rw [Bool.and_eq_true] at hd
    cases h; exact ⟨⟨of_decide_eq_true hd.1, of_decide_eq_true hd.2⟩, rfl⟩
  · cases h
theorem s_mod : OpS K modD (rI (fun _ j => 0 < j) fun i j => .int (i % j)) := opS_C fun i j d h => by
  split at h
  · rename_i hd; cases h; exact ⟨hd, rfl⟩
  · cases h
theorem s_pow : OpS K powD (rI CPow fun i j => .int (i ^ j.toNat)) := opS_C fun i j d h => by
  split at h
  · rename_i hd
    unfold powOk at hd
    rw [Bool.and_eq_true, Bool.and_eq_true] at hd
    cases h; exact ⟨⟨of_decide_eq_true hd.1.1, of_decide_eq_true hd.1.2, of_decide_eq_true hd.2⟩, rfl⟩
  · cases h
theorem s_lt : OpS K ltD (rI0 fun i j => .bl (decide (i < j))) := opS_b fun i j d h => by cases h; rfl
theorem s_le : OpS K leD (rI0 fun i j => .bl (decide (i ≤ j))) := opS_b fun i j d h => by cases h; rfl
theorem s_gt : OpS K gtD (rI0 fun i j => .bl (decide (j < i))) := opS_b fun i j d h => by cases h; rfl
theorem s_ge : OpS K geD (rI0 fun i j => .bl (decide (j ≤ i))) := opS_b fun i j d h => by cases h; rfl
def negD : F1 := fun x => match x with
  | .int i => some (.fz (.int (-i)))
  | _ => none
theorem s_neg : UnS K negD (rU fun i => .int (-i)) := by
  intro F H x dx z E hx hz Q k
  unfold negD at hz
  split at hz
  · cases hz; cases hx; exact ⟨_, rfl, k _ _ (.old (.int _))⟩
  · cases hz
theorem rdl {pins : List (Addr × Obj)} {s : Shared} {a : Addr} {xs : List V} (I : Inv X pins σ H s) (h : L2.Rd H a (.lst xs)) : ∃ (its : List Value) (n : Nat), Vals xs its ∧ s.heap.get? a = some { cls := .type "list", data := .seq its.toArray n } ∧ xs.length ≤ sizeLine := by
  obtain ⟨z, its, n, r, q⟩ := h.ok I.hok
  exact ⟨its, n, r, q, z⟩
def rCatL : R2 := fun x y H Q => ∃ a b xs ys, x = .ref a ∧ y = .ref b ∧ L2.Rd H a (.lst xs) ∧ L2.Rd H b (.lst ys) ∧ xs.length + ys.length ≤ sizeLine ∧ ∀ p, H p = none → Q (.ref p) (upd H p (.lst (xs ++ ys)))
theorem op_catL : OpR X (binaryOp .Add) rCatL := by
  rintro pins s σ H x y v u Q I rx ry ⟨a, b, xs, ys, rfl, rfl, ha, hb, hz, k⟩
  cases rx; cases ry
  obtain ⟨i1, n1, v1, o1, z1⟩ := rdl I ha
  obtain ⟨i2, n2, v2, o2, z2⟩ := rdl I hb
  have l1 := v1.length
  have l2 := v2.length
  have both : i1.toArray ++ i2.toArray = (i1 ++ i2).toArray := by simp
  refine PySem.P.add_list o1 o2 ?_ (by rw [List.size_toArray, List.size_toArray]; omega)
  rw [both]
  exact ⟨.ref _, _, I.lnew (t' := s.toks) (v1.append v2) (by rw [List.length_append]; exact hz), rfl, k _ I.fresh⟩
def addD : F2 := fun x y => match x, y with
  | .int i, .int j => some (.fz (.int (i + j)))
  | .str i, .str j => if i.length + j.length ≤ sizeLine then some (.fz (.str (i ++ j))) else none
  | .tuple xs, .tuple ys => if xs.length + ys.length ≤ sizeLine then some (.fz (.tuple (xs ++ ys))) else none
  | .list xs, .list ys => if xs.length + ys.length ≤ sizeLine then some (.fresh (xs ++ ys)) else none
  | _, _ => none
def rAddU (K : PySem.W.Frag) : R2 := fun x y H Q => (rI0 fun i j => .int (i + j)) x y H Q ∨ (fun x y H Q => ∃ i j, x = .str i ∧ y = .str j ∧ i.length + j.length ≤ sizeLine ∧ Q (.str (i ++ j)) H) x y H Q ∨ rCatA K x y H Q ∨ rCatL x y H Q
theorem op_addU : OpR X (binaryOp .Add) (rAddU X.K) := op_add.or (op_add_str.or (op_catA.or op_catL))
theorem s_add : OpS K addD (rAddU K) := by
  intro F H x y dx dy z E hx hy hz Q k
  unfold addD at hz
  split at hz
  · cases hz; cases hx; cases hy; exact .inl ⟨_, _, rfl, rfl, k _ _ (.old (.int _))⟩
  · split at hz
    · rename_i hl; cases hz; cases hx; cases hy; exact .inr (.inl ⟨_, _, rfl, rfl, hl, k _ _ (.old (.str _))⟩)
    · cases hz
  · split at hz
    · rename_i ds es hl
      cases hz
      cases hx with
      | tup h1 d1 =>
        cases hy with
        | tup h2 d2 =>
          refine .inr (.inr (.inl ⟨_, _, _, _, rfl, rfl, ext_t E h1, ext_t E h2, by rw [d1.length, d2.length]; exact hl, fun e0 => ?_, fun _ e0 => ?_, fun _ _ p hp => k _ _ (.tup hp (d1.append d2))⟩))
          · subst e0; cases d1; exact k _ _ (.old (.tup h2 d2))
          · subst e0; cases d2; rw [List.append_nil] at k; exact k _ _ (.old (.tup h1 d1))
    · cases hz
  · split at hz
    · rename_i ds es hl
      cases hz
      cases hx with
      | lst h1 d1 =>
        cases hy with
        | lst h2 d2 => exact .inr (.inr (.inr ⟨_, _, _, _, rfl, rfl, h1, h2, by rw [d1.length, d2.length]; exact hl, fun p hp => k _ _ (.lst hp (d1.append d2))⟩))
    · cases hz
  · cases hz
theorem DpAll.rep {vs : List V} {ds : List D} (h : DpAll K F vs ds) : ∀ n : Nat, DpAll K F (List.replicate n vs).flatten (List.replicate n ds).flatten
  | 0 => .nil
  | n + 1 => by
    rw [List.replicate_succ, List.replicate_succ, List.flatten_cons, List.flatten_cons]
    exact h.append (DpAll.rep h n)
def mulD : F2 := fun x y => match x, y with
  | .int i, .int j => if mulOk i j then some (.fz (.int (i * j))) else none
  | .tuple xs, .int k => if -1000 ≤ k ∧ k ≤ 1000 ∧ xs.length ≤ 1000 then some (.fz (.tuple (List.replicate k.toNat xs).flatten)) else none
  | .list xs, .int k => if -1000 ≤ k ∧ k ≤ 1000 ∧ xs.length ≤ 1000 then some (.fresh (List.replicate k.toNat xs).flatten) else none
  | _, _ => none
def rMulU (K : PySem.W.Frag) : R2 := fun x y H Q => (rI CMulX fun i j => .int (i * j)) x y H Q ∨ rRepT K x y H Q ∨ rRepT1 K x y H Q ∨ rRepLd x y H Q
theorem op_mulU {X : Cx} : OpR X (binaryOp .Mult) (rMulU X.K) := op_mulX.or (op_repT.or (op_repT1.or op_repLd))
theorem mulOk_ok {i j : Int} (h : mulOk i j = true) : CMulX i j := by
  unfold mulOk at h
  have h2 := of_decide_eq_true h
  exact h2
theorem flat_rep_nil {α : Type} : ∀ n : Nat, (List.replicate n ([] : List α)).flatten = []
  | 0 => rfl
  | n + 1 => by rw [List.replicate_succ, List.flatten_cons, flat_rep_nil n]; rfl
theorem s_mul : OpS K mulD (rMulU K) := by
  intro F H x y dx dy z E hx hy hz Q k
  unfold mulD at hz
  split at hz
  · split at hz
    · rename_i hm; cases hz; cases hx; cases hy; exact .inl ⟨_, _, rfl, rfl, mulOk_ok hm, k _ _ (.old (.int _))⟩
    · cases hz
  · split at hz
    · rename_i ds kk hc
      cases hz
      cases hy
      cases hx with
      | tup h1 d1 =>
        rename_i a xs
        by_cases h2 : xs ≠ [] ∧ 2 ≤ kk
        · exact .inr (.inl ⟨_, _, _, rfl, rfl, ext_t E h1, h2.1, h2.2, hc.2.1, by rw [d1.length]; exact hc.2.2, fun p hp => k _ _ (.tup hp (d1.rep _))⟩)
        · refine .inr (.inr (.inl ⟨_, _, _, rfl, rfl, ext_t E h1, hc.1, hc.2.1, ?_, fun h3 => ?_, fun h3 h4 p hp => ?_⟩))
          · by_cases h3 : xs = []
            · exact .inl h3
            · exact .inr (by
                have : ¬ (2 ≤ kk) := fun z => h2 ⟨h3, z⟩
                omega)
          · have e : (List.replicate kk.toNat ds).flatten = ds := by
              rcases h3 with h3 | h3
              · subst h3; cases d1; exact flat_rep_nil _
              · subst h3; simp
            rw [e] at k
            exact k _ _ (.old (.tup h1 d1))
          · have e : (List.replicate kk.toNat ds).flatten = [] := by
              rw [show kk.toNat = 0 by omega]; rfl
            rw [e] at k
            exact k _ _ (.tup hp .nil)
    · cases hz
  · split at hz
    · rename_i ds kk hc
      cases hz
      cases hy
      cases hx with
      | lst h1 d1 =>
        have hl := d1.length
        refine .inr (.inr (.inr ⟨_, _, _, rfl, rfl, h1, by omega, by omega, ?_, fun p hp => k _ _ (.lst hp (d1.rep _))⟩))
        have : ds.length * kk.toNat ≤ 1000 * 1000 := Nat.mul_le_mul hc.2.2 (by omega)
        rw [hl, sizeLine_eq]; omega
    · cases hz
  · cases hz
def twoStr : D → D → Bool
  | .str _, .str _ => true
  | _, _ => false
def eqD : F2 := fun x y => if twoStr x y || (SeqAt.shaped x && SeqAt.shaped y) then some (.fz (.bool (PyData.eqv x y))) else none
def neD : F2 := fun x y => if twoStr x y || (SeqAt.shaped x && SeqAt.shaped y) then some (.fz (.bool (!PyData.eqv x y))) else none
def rEqU (K : PySem.W.Frag) : R2 := fun x y H Q => rEq x y H Q ∨ rEqD K x y H Q
def rNeU (K : PySem.W.Frag) : R2 := fun x y H Q => rNe x y H Q ∨ rNeD K x y H Q
theorem op_eqU {X : Cx} (hu : X.A.units + 64 < cLine) : OpR X (compareOp .Eq) (rEqU X.K) := op_eq.or (op_eqD hu)
theorem op_neU {X : Cx} (hu : X.A.units + 64 < cLine) : OpR X (compareOp .NotEq) (rNeU X.K) := op_ne.or (op_neD hu)
theorem s_eq : OpS K eqD (rEqU K) := by
  intro F H x y dx dy z E hx hy hz Q k
  unfold eqD at hz
  split at hz
  · rename_i hs
    cases hz
    rw [Bool.or_eq_true, Bool.and_eq_true] at hs
    rcases hs with hs | hs
    · unfold twoStr at hs
      split at hs
      · cases hx; cases hy
        exact .inl ⟨rfl, by rw [dec_str]; exact k _ _ (.old (.bl _))⟩
      · cases hs
    · exact .inr ⟨dx, dy, (hx.dp E).l2 (plain_shaped hs.1), (hy.dp E).l2 (plain_shaped hs.2), hs.1, hs.2, k _ _ (.old (.bl _))⟩
  · cases hz
theorem s_ne : OpS K neD (rNeU K) := by
  intro F H x y dx dy z E hx hy hz Q k
  unfold neD at hz
  split at hz
  · rename_i hs
    cases hz
    rw [Bool.or_eq_true, Bool.and_eq_true] at hs
    rcases hs with hs | hs
    · unfold twoStr at hs
      split at hs
      · cases hx; cases hy
        exact .inl ⟨rfl, by rw [dec_str]; exact k _ _ (.old (.bl _))⟩
      · cases hs
    · exact .inr ⟨dx, dy, (hx.dp E).l2 (plain_shaped hs.1), (hy.dp E).l2 (plain_shaped hs.2), hs.1, hs.2, k _ _ (.old (.bl _))⟩
  · cases hz
def isNone : D → Bool
  | .none => true
  | _ => false
def isND : F2 := fun x y => match y with
  | .none => some (.fz (.bool (isNone x)))
  | _ => none
def notND : F2 := fun x y => match y with
  | .none => some (.fz (.bool (!isNone x)))
  | _ => none
theorem isNone_v {x : V} {d : D} (h : Dh K F H x d) : decide (x = V.non) = isNone d := by
  cases h with
  | oth h => cases h <;> (apply decide_eq_false; exact fun z => by cases z)
  | _ => first | rfl | (apply decide_eq_false; exact fun z => by cases z)
theorem s_isN : OpS K isND (fun x y H Q => y = .non ∧ Q (.bl (decide (x = .non))) H) := by
  intro F H x y dx dy z E hx hy hz Q k
  unfold isND at hz
  split at hz
  · cases hz; cases hy; exact ⟨rfl, by rw [isNone_v hx]; exact k _ _ (.old (.bl _))⟩
  · cases hz
theorem s_notN : OpS K notND (fun x y H Q => y = .non ∧ Q (.bl (!decide (x = .non))) H) := by
  intro F H x y dx dy z E hx hy hz Q k
  unfold notND at hz
  split at hz
  · cases hz; cases hy; exact ⟨rfl, by rw [isNone_v hx]; exact k _ _ (.old (.bl _))⟩
  · cases hz
def ixD : F2 := fun x y => match x, y with
  | .list ds, .int i => (atI ds i).map .fz
  | .tuple ds, .int i => (atI ds i).map .fz
  | .str z, .int i => if z.length ≤ sizeLine then (atI z.cps.toList i).map fun c => .fz (.str ⟨#[c]⟩) else none
  | _, _ => none
theorem DpAll.at {vs : List V} {ds : List D} {i : Int} {d : D} (h : DpAll K F vs ds) (q : atI ds i = some d) : ∃ v, atI vs i = some v ∧ Dp K F v d := by
  unfold atI at q ⊢
  rw [h.length]
  cases hj : ixN ds.length i with
  | none => rw [hj] at q; cases q
  | some j =>
    rw [hj] at q
    obtain ⟨v, h1, h2⟩ := h.get (i := j) q
    exact ⟨v, h1, h2⟩
theorem s_ix : OpS K ixD (rIx K) := by
  intro F H x y dx dy z E hx hy hz Q k
  unfold ixD at hz
  split at hz
  · rename_i ds i
    cases hy
    cases q : atI ds i with
    | none => rw [q] at hz; cases hz
    | some d =>
      rw [q] at hz; cases hz
      cases hx with
      | lst h1 d1 =>
        obtain ⟨v, h2, h3⟩ := d1.at q
        exact .inl ⟨_, _, _, v, rfl, rfl, .inl h1, h2, k _ _ (.old h3)⟩
  · rename_i ds i
    cases hy
    cases q : atI ds i with
    | none => rw [q] at hz; cases hz
    | some d =>
      rw [q] at hz; cases hz
      cases hx with
      | tup h1 d1 =>
        obtain ⟨v, h2, h3⟩ := d1.at q
        exact .inr (.inl ⟨_, _, _, v, rfl, rfl, ext_t E h1, h2, k _ _ (.old h3)⟩)
  · rename_i t i
    split at hz
    · rename_i hl
      cases hy; cases hx
      cases q : atI t.cps.toList i with
      | none => rw [q] at hz; cases hz
      | some c =>
        rw [q] at hz; cases hz
        exact .inr (.inr ⟨_, _, c, rfl, rfl, hl, q, k _ _ (.old (.str _))⟩)
    · cases hz
  · cases hz
/-- x[lo:hi] -/
def cutD (xs : List D) (lo hi : Option Int) : List D := (xs.drop (HT.sIx xs.length 0 lo)).take (HT.sIx xs.length xs.length hi - HT.sIx xs.length 0 lo)
def slD (x : D) (lo hi : Option Int) : Option Rv := match x with
  | .list ds => some (.fresh (cutD ds lo hi))
  | .tuple ds => some (.fz (.tuple (cutD ds lo hi)))
  | .str z => if z.length ≤ sizeLine then some (.fz (.str (cutS z lo hi))) else none
  | _ => none
theorem DpAll.cut {vs : List V} {ds : List D} (h : DpAll K F vs ds) (lo hi : Option Int) : DpAll K F (cutV vs lo hi) (cutD ds lo hi) := by
  unfold cutV cutD
  rw [h.length]
  exact (h.drop _).take _
def rSlU (K : PySem.W.Frag) : V → Option Int → Option Int → Hp → VK → Prop := fun x lo hi H Q => rSlL K x lo hi H Q ∨ rSlA K x lo hi H Q ∨ rSlS x lo hi H Q
theorem sl_any : SlR X (rSlU X.K) := sl_list.or (sl_tupA.or sl_str)
theorem s_sl {F H : Hp} {x : V} {dx : D} {lo hi : Option Int} {z : Rv} (E : Ext F H) (hx : Dh K F H x dx) (hz : slD dx lo hi = some z) {Q : VK} (k : ∀ v H', Res K F H z v H' → Q v H') : rSlU K x lo hi H Q := by
  unfold slD at hz
  split at hz
  · cases hz
    cases hx with
    | lst h1 d1 => exact .inl ⟨_, _, rfl, .inl h1, fun p hp => k _ _ (.lst hp (d1.cut lo hi))⟩
  · rename_i ds
    cases hz
    cases hx with
    | tup h1 d1 =>
      refine .inr (.inl ⟨_, _, rfl, ext_t E h1, fun hw => ?_, fun _ p hp => k _ _ (.tup hp (d1.cut lo hi))⟩)
      have : cutD ds lo hi = ds := by
        unfold cutD
        rw [d1.length] at hw
        rw [hw.1, hw.2, List.drop_zero, Nat.sub_zero, List.take_length]
      rw [this] at k
      exact k _ _ (.old (.tup h1 d1))
  · split at hz
    · rename_i hl
      cases hz; cases hx
      exact .inr (.inr ⟨_, rfl, hl, k _ _ (.old (.str _))⟩)
    · cases hz
  · cases hz
/-- a part of a cut: none, or an int -/
def opI (a : Option Ev) : Sem1 (Option Int) := fun e => match a with
  | none => .ok none e
  | some a => (opd a e).bind fun r e1 => match r with
    | .fz (.int i) => .ok (some i) e1
    | _ => .no
def slE (a : Ev) (lo hi : Option Ev) : Ev := fun e => (opd a e).bind fun x e1 => (opI lo e1).bind fun l e2 => (opI hi e2).bind fun u e3 => ofO ((peek x e3).bind fun dx => slD dx l u) e3
abbrev RO : Cf → Hp → Hp → Env → L2.St → Option Int → Option Int → Prop := fun _ _ _ _ _ a b => a = b
abbrev rdO (w : Wd) (a : Option Ev) : TO := Rd w RO (opI a)
theorem po_mono {ex : Option Expr} {t t' : TO} (h : PO X ex t) (w : ∀ σ H Q, t' σ H Q → t σ H Q) : PO X ex t' := ⟨fun pins s σ H Q I q => h.run pins s σ H Q I (w σ H Q q)⟩
theorem vo_none {w : Wd} : PO X none (rdO w none) := po_mono po_none fun σ H Q q => by
  obtain ⟨C, F, e, R, P⟩ := q
  exact P.ok' R rfl
theorem vo_some {w : Wd} {ex : Expr} {a : Ev} (h : PE X ex (rdR w a)) : PO X (some ex) (rdO w (some a)) := po_mono (po_some h) fun σ H Q q => by
  obtain ⟨C, F, e, R, P⟩ := q
  refine rd_opd (bindP R P fun F1 H1 e1 r v h1 R1 E1 q1 P1 => ?_)
  split at P1
  · cases q1; exact ⟨_, rfl, P1.ok' R1 rfl⟩
  · exact P1.elim
theorem ve_slice {w : Wd} {ex : Expr} {lo hi : Option Expr} {p2 pos : Pos} {a : Ev} {l u : Option Ev} (hw : w.K = X.K) (he : PE X ex (rdR w a)) (hl : PO X lo (rdO w l)) (hu : PO X hi (rdO w u)) : PE X (.Subscript ex (.Slice lo hi none p2) pos) (rdR w (slE a l u)) :=
  pe_mono (pe_slice sl_any he hl hu) fun σ H Q h => by
    obtain ⟨C, F, e, R, P⟩ := h
    refine rd_opd (bindP R P fun F1 H1 e1 x v h1 R1 E1 q1 P1 => ?_)
    refine bindP R1 P1 fun F2 H2 e2 li l' h2 R2 E2 q2 P2 => ?_
    cases q2
    refine bindP R2 P2 fun F3 H3 e3 ui u' h3 R3 E3 q3 P3 => ?_
    cases q3
    obtain ⟨z, hz, P4⟩ := post_ofO P3
    obtain ⟨dx, hx, hf⟩ := Option.bind_eq_some_iff.mp hz
    rw [← hw]
    exact s_sl R3.ext (RvR.peek R3 (opd_still h1) (RvR.later (opd_still h1) (E2.trans E3) q1) hx) hf fun v H' q => P4.res R3 q
end VI
set_option Elab.async false
set_option linter.all false
set_option maxRecDepth 100000
set_option maxHeartbeats 4000000
namespace VI
open PySem PySem.Spec PyProof.Rows L2
variable {K : PySem.W.Frag} {C : Cf} {F H : Hp} {e e' : Env} {σ : L2.St}
def intsD : List D → Option (List Int)
  | [] => some []
  | .int i :: ds => (intsD ds).map (i :: ·)
  | _ :: _ => none
theorem intsD_map : ∀ (ns : List Int), intsD (ns.map .int) = some ns
  | [] => rfl
  | n :: ns => by
    show (intsD (ns.map .int)).map (n :: ·) = _
    rw [intsD_map ns]; rfl
def boolsD : List D → Option (List Bool)
  | [] => some []
  | .bool i :: ds => (boolsD ds).map (i :: ·)
  | _ :: _ => none
theorem boolsD_some : ∀ {ds : List D} {ns : List Bool}, boolsD ds = some ns → ds = ns.map .bool
  | [], _, h => by cases h; rfl
  | .bool i :: ds, ns, h => by
    unfold boolsD at h
    cases q : boolsD ds with
    | none => rw [q] at h; cases h
    | some ms => rw [q] at h; cases h; rw [boolsD_some q]; rfl
  | .none :: _, _, h => by cases h
  | .int _ :: _, _, h => by cases h
  | .str _ :: _, _, h => by cases h
  | .list _ :: _, _, h => by cases h
  | .tuple _ :: _, _, h => by cases h
  | .dict _ :: _, _, h => by cases h
theorem boolsD_map : ∀ (ns : List Bool), boolsD (ns.map .bool) = some ns
  | [] => rfl
  | n :: ns => by
    show (boolsD (ns.map .bool)).map (n :: ·) = _
    rw [boolsD_map ns]; rfl
def on1 (f : D → Option Rv) : List D → Option Rv
  | [d] => f d
  | _ => none
theorem callS1 {f : D → Option Rv} {r : List V → Hp → VK → Prop} (h : ∀ F H v d z, Ext F H → Dh K F H v d → f d = some z → ∀ Q : VK, (∀ v H', Res K F H z v H' → Q v H') → r [v] H Q) : CallS K (on1 f) r := by
  intro F H vs ds z E hv hz Q k
  cases hv with
  | nil => cases hz
  | cons h1 h2 =>
    cases h2 with
    | nil => exact h F H _ _ z E h1 hz Q k
    | cons _ _ => cases hz
def on2 (f : D → D → Option Rv) : List D → Option Rv
  | [c, d] => f c d
  | _ => none
def lenD : D → Option Rv
  | .list ds => some (.fz (.int ds.length))
  | .tuple ds => some (.fz (.int ds.length))
  | .str z => if z.length ≤ sizeLine then some (.fz (.int z.length)) else none
  | _ => none
def rLenU (K : PySem.W.Frag) : List V → Hp → VK → Prop := fun xs H Q => (∃ p ys, xs = [.ref p] ∧ (SqL K H p ys ∨ SqT K H p ys) ∧ Q (.int ys.length) H) ∨ (∃ z, xs = [.str z] ∧ z.length ≤ sizeLine ∧ Q (.int z.length) H)
theorem c_len {X : Cx} : CallR X (.builtin "len") (rLenU X.K) := call_len_seq.or call_len_str
theorem s_len : CallS K (on1 lenD) (rLenU K) := callS1 fun F H v d z E h hz Q k => by
  unfold lenD at hz
  split at hz
  · cases hz
    cases h with
    | lst h1 d1 => exact .inl ⟨_, _, rfl, .inl (.inl h1), by rw [d1.length]; exact k _ _ (.old (.int _))⟩
  · cases hz
    cases h with
    | tup h1 d1 => exact .inl ⟨_, _, rfl, .inr (ext_t E h1), by rw [d1.length]; exact k _ _ (.old (.int _))⟩
  · split at hz
    · rename_i hl
      cases hz; cases h
      exact .inr ⟨_, rfl, hl, k _ _ (.old (.int _))⟩
    · cases hz
  · cases hz
def tupD : D → Option Rv
  | .list ds => some (.fz (.tuple ds))
  | .tuple ds => some (.fz (.tuple ds))
  | _ => none
theorem s_tup : CallS K (on1 tupD) (fun xs H Q => ∃ p ys, xs = [V.ref p] ∧ ((SqL K H p ys ∧ ∀ l, H l = none → Q (.ref l) (upd H l (.tup ys))) ∨ (SqT K H p ys ∧ Q (.ref p) H))) := callS1 fun F H v d z E h hz Q k => by
  unfold tupD at hz
  split at hz
  · cases hz
    cases h with
    | lst h1 d1 => exact ⟨_, _, rfl, .inl ⟨.inl h1, fun p hp => k _ _ (.tup hp d1)⟩⟩
  · cases hz
    cases h with
    | tup h1 d1 => exact ⟨_, _, rfl, .inr ⟨ext_t E h1, k _ _ (.old (.tup h1 d1))⟩⟩
  · cases hz
def lstD : D → Option Rv
  | .list ds => some (.fresh ds)
  | .tuple ds => some (.fresh ds)
  | _ => none
theorem s_lst : CallS K (on1 lstD) (fun xs H Q => ∃ p ys, xs = [V.ref p] ∧ (SqL K H p ys ∨ SqT K H p ys) ∧ ∀ l, H l = none → Q (.ref l) (upd H l (.lst ys))) := callS1 fun F H v d z E h hz Q k => by
  unfold lstD at hz
  split at hz
  · cases hz
    cases h with
    | lst h1 d1 => exact ⟨_, _, rfl, .inl (.inl h1), fun p hp => k _ _ (.lst hp d1)⟩
  · cases hz
    cases h with
    | tup h1 d1 => exact ⟨_, _, rfl, .inr (ext_t E h1), fun p hp => k _ _ (.lst hp d1)⟩
  · cases hz
def absD : D → Option Rv
  | .int i => some (.fz (.int (if i < 0 then -i else i)))
  | _ => none
theorem s_abs : CallS K (on1 absD) (fun xs H Q => ∃ i, xs = [V.int i] ∧ Q (.int (if i < 0 then -i else i)) H) := callS1 fun F H v d z E h hz Q k => by
  unfold absD at hz
  split at hz
  · cases hz; cases h; exact ⟨_, rfl, k _ _ (.old (.int _))⟩
  · cases hz
def intD : D → Option Rv
  | .int i => some (.fz (.int i))
  | .bool b => some (.fz (.int (if b then 1 else 0)))
  | _ => none
theorem s_int : CallS K (on1 intD) (fun xs H Q => (∃ i, xs = [V.int i] ∧ Q (.int i) H) ∨ ∃ k, xs = [V.bl k] ∧ Q (.int (if k then 1 else 0)) H) := callS1 fun F H v d z E h hz Q k => by
  unfold intD at hz
  split at hz
  · cases hz; cases h; exact .inl ⟨_, rfl, k _ _ (.old (.int _))⟩
  · cases hz; cases h; exact .inr ⟨_, rfl, k _ _ (.old (.int _))⟩
  · cases hz
def strD : D → Option Rv
  | .int i => if i.natAbs.log2 < 1920 then some (.fz (.str (toString i))) else none
  | _ => none
theorem s_str : CallS K (on1 strD) (fun xs H Q => ∃ i, xs = [V.int i] ∧ i.natAbs.log2 < 1920 ∧ Q (.str (toString i)) H) := callS1 fun F H v d z E h hz Q k => by
  unfold strD at hz
  split at hz
  · split at hz
    · rename_i hl; cases hz; cases h; exact ⟨_, rfl, hl, k _ _ (.old (.str _))⟩
    · cases hz
  · cases hz
def min2D : D → D → Option Rv
  | .int i, .int j => some (.fz (.int (if j < i then j else i)))
  | _, _ => none
def max2D : D → D → Option Rv
  | .int i, .int j => some (.fz (.int (if j > i then j else i)))
  | _, _ => none
def allD : D → Option Rv
  | .list ds => (boolsD ds).map fun bs => .fz (.bool (bs.all id))
  | _ => none
def anyD : D → Option Rv
  | .list ds => (boolsD ds).map fun bs => .fz (.bool (bs.any id))
  | _ => none
theorem s_all : CallS K (on1 allD) (rAll K) := callS1 fun F H v d z E h hz Q k => by
  unfold allD at hz
  split at hz
  · rename_i ds
    obtain ⟨bs, h1, h2⟩ := Option.map_eq_some_iff.mp hz
    cases h2
    have := boolsD_some h1
    subst this
    cases h with
    | lst h1 d1 =>
      have := d1.bls
      subst this
      exact ⟨_, bs, rfl, .inl h1, k _ _ (.old (.bl _))⟩
  · cases hz
theorem s_any : CallS K (on1 anyD) (rAny K) := callS1 fun F H v d z E h hz Q k => by
  unfold anyD at hz
  split at hz
  · rename_i ds
    obtain ⟨bs, h1, h2⟩ := Option.map_eq_some_iff.mp hz
    cases h2
    have := boolsD_some h1
    subst this
    cases h with
    | lst h1 d1 =>
      have := d1.bls
      subst this
      exact ⟨_, bs, rfl, .inl h1, k _ _ (.old (.bl _))⟩
  · cases hz
end VI
set_option Elab.async false
set_option linter.all false
set_option maxRecDepth 100000
set_option maxHeartbeats 4000000
namespace VI
open PySem PySem.Spec PyProof.Rows L2
variable {K : PySem.W.Frag} {C : Cf} {F H : Hp} {e e' : Env} {σ : L2.St}
def isIntB : D → Bool
  | .int _ => true
  | .bool _ => true
  | _ => false
def isBoolB : D → Bool
  | .bool _ => true
  | _ => false
def isStrB : D → Bool
  | .str _ => true
  | _ => false
def isLstB : D → Bool
  | .list _ => true
  | _ => false
def isTupB : D → Bool
  | .tuple _ => true
  | _ => false
structure KindF (T : String) (f : D → Bool) : Prop where
  mem : T ∈ ["int", "bool", "str", "list", "tuple"]
  oth : ∀ kvs, f (.dict kvs) = false
  dct : kitB "dict" T = some false
  non : kitB "NoneType" T = some (f .none)
  bl : ∀ b, kitB "bool" T = some (f (.bool b))
  int : ∀ b, kitB "int" T = some (f (.int b))
  str : ∀ b, kitB "str" T = some (f (.str b))
  lst : ∀ b, kitB "list" T = some (f (.list b))
  tup : ∀ b, kitB "tuple" T = some (f (.tuple b))
theorem kindInt : KindF "int" isIntB := ⟨by decide, fun _ => rfl, by decide +kernel, by decide +kernel, fun _ => by show kitB "bool" "int" = some true; decide +kernel, fun _ => by show kitB "int" "int" = some true; decide +kernel, fun _ => by show kitB "str" "int" = some false; decide +kernel, fun _ => by show kitB "list" "int" = some false; decide +kernel, fun _ => by show kitB "tuple" "int" = some false; decide +kernel⟩
theorem kindBool : KindF "bool" isBoolB := ⟨by decide, fun _ => rfl, by decide +kernel, by decide +kernel, fun _ => by show kitB "bool" "bool" = some true; decide +kernel, fun _ => by show kitB "int" "bool" = some false; decide +kernel, fun _ => by show kitB "str" "bool" = some false; decide +kernel, fun _ => by show kitB "list" "bool" = some false; decide +kernel, fun _ => by show kitB "tuple" "bool" = some false; decide +kernel⟩
theorem kindStr : KindF "str" isStrB := ⟨by decide, fun _ => rfl, by decide +kernel, by decide +kernel, fun _ => by show kitB "bool" "str" = some false; decide +kernel, fun _ => by show kitB "int" "str" = some false; decide +kernel, fun _ => by show kitB "str" "str" = some true; decide +kernel, fun _ => by show kitB "list" "str" = some false; decide +kernel, fun _ => by show kitB "tuple" "str" = some false; decide +kernel⟩
theorem kindLst : KindF "list" isLstB := ⟨by decide, fun _ => rfl, by decide +kernel, by decide +kernel, fun _ => by show kitB "bool" "list" = some false; decide +kernel, fun _ => by show kitB "int" "list" = some false; decide +kernel, fun _ => by show kitB "str" "list" = some false; decide +kernel, fun _ => by show kitB "list" "list" = some true; decide +kernel, fun _ => by show kitB "tuple" "list" = some false; decide +kernel⟩
theorem kindTup : KindF "tuple" isTupB := ⟨by decide, fun _ => rfl, by decide +kernel, by decide +kernel, fun _ => by show kitB "bool" "tuple" = some false; decide +kernel, fun _ => by show kitB "int" "tuple" = some false; decide +kernel, fun _ => by show kitB "str" "tuple" = some false; decide +kernel, fun _ => by show kitB "list" "tuple" = some false; decide +kernel, fun _ => by show kitB "tuple" "tuple" = some true; decide +kernel⟩
theorem asked_kind {C : Addr} {n : Str} (x : ExK K C n) {T : String} {f : D → Bool} (k : KindF T f) : PySem.W.kitOne K (.ref C) (.type T) = some false := by
  have h := x.asked T (by have := k.mem; revert this; unfold askedB; simp only [List.mem_cons, List.not_mem_nil, or_false]; rintro (h | h | h | h | h) <;> simp [h])
  rw [h]
  have e : T ≠ excBase n := by
    have := k.mem
    have hb : excBase n = "LookupError" ∨ excBase n = "RuntimeError" ∨ excBase n = "OverflowError" ∨ excBase n = "ValueError" := by
      unfold excBase
      split
      · exact .inl rfl
      · split
        · exact .inr (.inl rfl)
        · split
          · exact .inr (.inr (.inl rfl))
          · exact .inr (.inr (.inr rfl))
    simp only [List.mem_cons, List.not_mem_nil, or_false] at this
    rcases this with h | h | h | h | h <;> rcases hb with q | q | q | q <;> rw [h, q] <;> decide
  rw [decide_eq_false e]
/-- the type of a thing: isinstance's answers -/
inductive TyE (K : PySem.W.Frag) (H : Hp) : V → Value → Prop where
  | one {v : V} {t : Value} : TyX K H v t → TyE K H v t
  | exc {a C d : Addr} {n : Str} : ExK K C n → H a = some (exk a C d) → (∃ fs, H d = some (.xd fs)) → TyE K H (.ref a) (.ref C)
  | dcT {a : Addr} {kvs : List (List Key × V)} : L2.Rd H a (.dT kvs) → TyE K H (.ref a) (.type "dict")
  | dcK {a : Addr} {kvs : List (Key × V)} : L2.Rd H a (.dK kvs) → TyE K H (.ref a) (.type "dict")
theorem ty_of {v : V} {d : D} (E : Ext F H) (h : Dh K F H v d) : ∃ t, TyE K H v t ∧ ∀ T f, KindF T f → PySem.W.kitOne K t (.type T) = some (f d) := by
  cases h with
  | non => exact ⟨_, .one (.base .non), fun T f k => kit_ty k.non⟩
  | bl b => exact ⟨_, .one (.base (.bl b)), fun T f k => kit_ty (k.bl b)⟩
  | int b => exact ⟨_, .one (.base (.int b)), fun T f k => kit_ty (k.int b)⟩
  | str b => exact ⟨_, .one (.base (.str b)), fun T f k => kit_ty (k.str b)⟩
  | lst h1 d1 =>
    refine ⟨.type "list", .one ?_, fun T f k => kit_ty (k.lst _)⟩
    rcases h1 with h1 | ⟨o, h1⟩
    · exact .base (.lst h1)
    · exact .base (.frz h1)
  | tup h1 d1 =>
    refine ⟨.type "tuple", .one ?_, fun T f k => kit_ty (k.tup _)⟩
    rcases ext_t E h1 with h1 | ⟨o, its, n, h1, h2, _⟩
    · rcases h1 with h1 | ⟨o, h1⟩
      · exact .base (.tup h1)
      · exact .fTuple h1
    · exact .kTuple h1 h2
  | oth h =>
    cases h with
    | exc x h1 h2 r => exact ⟨_, .exc x (E _ _ h1) ⟨_, E _ _ h2⟩, fun T f k => by rw [asked_kind x k, k.oth]⟩
    | dcT h1 _ => exact ⟨_, .dcT (.inr ⟨_, E _ _ h1⟩), fun T f k => by rw [k.oth]; exact kit_ty k.dct⟩
    | dcK h1 _ => exact ⟨_, .dcK (.inr ⟨_, E _ _ h1⟩), fun T f k => by rw [k.oth]; exact kit_ty k.dct⟩
section
variable {X : Cx} {pins : List (Addr × Obj)} {s : Shared}
theorem kit_ofE {x : V} {u t : Value} (I : Inv X pins σ H s) (rx : RelV x u) (ty : TyE X.K H x t) : ∃ P : Heap → Prop, PySem.W.KitX X.K u t P ∧ P s.heap ∧ u ≠ .builtin "__main__.__loader__#opaque" := by
  cases ty with
  | one ty => exact kit_of I rx ty
  | @exc a C d n x h1 h2 =>
    cases (show u = Value.ref a from rx)
    obtain ⟨fs, h2⟩ := h2
    obtain ⟨oe, vs, e1, e2, e3⟩ := exk_at I.hok h1
    have hx : ObjOk X.prog X.w H s.heap d (.xd fs) := I.hok d _ h2
    obtain ⟨mA, hns, hr⟩ := hx
    obtain ⟨od, ho, hl⟩ := lookIn_ns hns
    refine ⟨fun h => PySem.W.InstAt h a oe C (some od), PySem.W.kitx_exc (by
      have := x.nm
      unfold clsNm at this
      cases hc : PySem.W.clsIn X.K C with
      | none => rw [hc] at this; cases this
      | some cd => rfl) x.ex.hg x.ex.hk x.ex.hs x.ex.ha x.ex.hn x.ex.ht x.ex.hm, ?_, fun z => nomatch z⟩
    exact ⟨e1, e2.1, by unfold PySem.W.notCls; rw [e3], by rw [e2.2]; exact ho⟩
  | @dcT a kvs h =>
    rcases h with h | ⟨o, h⟩
    · exact kit_of I rx (.base (.dT h))
    · cases (show u = Value.ref a from rx)
      obtain ⟨_, _, _, xs, _, o', es, ep, h1, h2, _⟩ := (show ObjOk X.prog X.w H s.heap a (.frz o (.dT kvs)) from I.hok a _ h)
      exact ⟨_, PySem.W.kitx_dict, ⟨o', h1, h2.1⟩, fun z => nomatch z⟩
  | @dcK a kvs h =>
    rcases h with h | ⟨o, h⟩
    · exact kit_of I rx (.base (.dK h))
    · exact kit_of I rx (.fDict h)
end
def isD (fs : List (D → Bool)) : F1 := fun d => some (.fz (.bool (fs.any fun f => f d)))
def KindFs : List String → List (D → Bool) → Prop := Paired KindF
theorem kit_any {n : Value} {d : D} : ∀ {Ts : List String} {fs : List (D → Bool)}, KindFs Ts fs → (∀ T f, KindF T f → PySem.W.kitOne K n (.type T) = some (f d)) → PySem.W.kitAny K n (Ts.map Value.type) = some (fs.any fun f => f d)
  | _, _, .nil, _ => kitAny_nil
  | _, _, .cons (a := T) (b := f) k r, h => by
    rw [List.map_cons, List.any_cons]
    refine kitAny_cons (b := f d) (h T f k) (fun e => ?_) (fun e => by rw [e]; rfl)
    rw [e, Bool.false_or]
    exact kit_any r h
section
variable {X : Cx}
def rIsX (K : PySem.W.Frag) : List V → Hp → VK → Prop := fun xs H Q => ∃ (x c : V) (t u : Value) (b : Bool), xs = [x, c] ∧ ClsV c u ∧ TyE K H x t ∧ PySem.W.kitOne K t u = some b ∧ Q (.bl b) H
def rIsXT (K : PySem.W.Frag) : List V → Hp → VK → Prop := fun xs H Q => ∃ (x : V) (tp : Addr) (cs : List V) (t : Value) (us : List Value) (b : Bool), xs = [x, .ref tp] ∧ H tp = some (.tup cs) ∧ Paired ClsV cs us ∧ TyE K H x t ∧ PySem.W.kitAny K t us = some b ∧ Q (.bl b) H
theorem call_isX : CallR X (.builtin "isinstance") (rIsX X.K) := by
  intro pins s σ H xs us Q I r h
  obtain ⟨x, c, t, u, b, rfl, k, ty, e, q⟩ := h
  obtain ⟨u1, u2, rfl, r1, r2⟩ := vals2 r
  have e2 := k.eq r2
  subst e2
  obtain ⟨P, Z, p, hx⟩ := kit_ofE I r1 ty
  exact PySem.W.kia_one Z I.kIn p e hx fun tk => ⟨.bl b, H, I.tok tk, rfl, q⟩
theorem call_isXT : CallR X (.builtin "isinstance") (rIsXT X.K) := by
  intro pins s σ H xs us Q I r h
  obtain ⟨x, tp, cs, t, ws, b, rfl, hT, k, ty, e, q⟩ := h
  obtain ⟨u1, u2, rfl, r1, r2⟩ := vals2 r
  cases (show u2 = Value.ref tp from r2)
  obtain ⟨P, Z, p, hx⟩ := kit_ofE I r1 ty
  obtain ⟨_, its, rv, o, h1, h2, n, h3⟩ := (show ObjOk X.prog X.w H s.heap tp (.tup cs) from I.hok tp _ hT)
  have e3 := ClsV.all k rv
  subst e3
  obtain ⟨oc, od, dt, sl⟩ := o
  simp only at h2 h3
  subst h2 h3
  exact PySem.W.kia_tup Z I.kIn p h1 e hx fun tk => ⟨.bl b, H, I.tok tk, rfl, q⟩
end
theorem rd_isi {w : Wd} {T : String} {f : D → Bool} {ea : Ev} (k : KindF T f) {Q : VK} (h : rdR w (un1 (isD [f]) ea) σ H Q) : tCB (rIsX w.K) (tCons (rdR w ea) (tCons (tC (.ty T)) tNil)) σ H Q := by
  obtain ⟨C, F, e, R, P⟩ := h
  refine rd_opd (bindP R P fun F1 H1 e1 x v h1 R1 E1 q1 P1 => ?_)
  obtain ⟨z, hz, P2⟩ := post_ofO P1
  obtain ⟨d, hd, hf⟩ := Option.bind_eq_some_iff.mp hz
  cases hf
  obtain ⟨n, h2, h3⟩ := ty_of R1.ext (RvR.peek R1 (opd_still h1) q1 hd)
  show rIsX w.K [v, .ty T] _ Q
  refine ⟨v, .ty T, n, .type T, f d, rfl, .ty T, h2, h3 T f k, ?_⟩
  have := P2.ok' R1 (.bl _ : RvR w.K C F1 H1 e1 σ (.fz (.bool ([f].any fun f => f d))) _)
  rwa [List.any_cons, List.any_nil, Bool.or_false] at this
theorem pairedTy : ∀ Ts : List String, Paired ClsV (Ts.map V.ty) (Ts.map Value.type)
  | [] => .nil
  | T :: Ts => .cons (.ty T) (pairedTy Ts)
theorem rd_isiT {w : Wd} {T U : String} {f g : D → Bool} {ea : Ev} (k : KindF T f) (k2 : KindF U g) {Q : VK} (h : rdR w (un1 (isD [f, g]) ea) σ H Q) : tCB (rIsXT w.K) (tCons (rdR w ea) (tCons (tTup (tCons (tC (.ty T)) (tCons (tC (.ty U)) tNil))) tNil)) σ H Q := by
  obtain ⟨C, F, e, R, P⟩ := h
  refine rd_opd (bindP R P fun F1 H1 e1 x v h1 R1 E1 q1 P1 => ?_)
  obtain ⟨z, hz, P2⟩ := post_ofO P1
  obtain ⟨d, hd, hf⟩ := Option.bind_eq_some_iff.mp hz
  cases hf
  refine ⟨by show 2 ≤ sizeLine; rw [sizeLine_eq]; omega, fun p hp => ?_⟩
  have R2 := R1.growT (o := .tup [.ty T, .ty U]) hp
  have EF : Ext F1 (upd F1 p (.tup [.ty T, .ty U])) := Ext.new (R1.ext.free hp)
  have q2 := RvR.peek R2 (opd_still h1) (RvR.later (e' := e1) (H' := upd H1 p (.tup [.ty T, .ty U])) (opd_still h1) EF q1) hd
  obtain ⟨n, h2, h3⟩ := ty_of R2.ext q2
  show rIsXT w.K [v, .ref p] _ Q
  refine ⟨v, p, [.ty T, .ty U], n, [.type T, .type U], [f, g].any fun f => f d, rfl, upd_same, pairedTy [T, U], h2, kit_any (Ts := [T, U]) (.cons k (.cons k2 .nil)) h3, ?_⟩
  exact (Post.mono EF P2).ok' R2 (.bl _)
section
variable {w : Wd} {X : Cx} {a : Expr} {ea : Ev} {p p2 p3 p4 pos : Pos}
theorem ve_isi {x : Str} {n : String} {f : D → Bool} (k : KindF n f) (hw : w.K = X.K) (hg : Gl X "isinstance") (hm : X.mg "isinstance" = none) (hg2 : Gl X x) (hm2 : X.mg x = none) (hv2 : bootBuiltins x = some (.type n)) (ha : PE X a (rdR w ea))
    (hn2 : x ≠ "__name__" := by decide) (hd2 : (x == ("__debug__" : Str)) = false := by decide)
    (h1 : starEach [a, .Name x p2] X.env = (false, eval a X.env) :: starEach [.Name x p2] X.env := by rfl) (h2 : starEach [.Name x p2] X.env = (false, eval (.Name x p2) X.env) :: starEach [] X.env := by rfl)
    (hpl : (backTo pos (starEach [.Name x p2] X.env)).any (·.1) = false := by rfl) : PE X (.Call (.Name "isinstance" p) [a, .Name x p2] [] pos) (rdR w (un1 (isD [f]) ea)) :=
  pe_mono (pe_callB call_isX hg hm PyProof.Rows.boot_isinstance (pa_cons ha (pa_cons (pe_bltn hg2 hm2 hv2 (v := .ty n) rfl hn2 hd2) pa_nil h2) h1) (by decide) (by decide) h1 hpl) fun _ _ _ h => hw ▸ rd_isi k h
theorem ve_isiT {x y : Str} {n m : String} {f g : D → Bool} {j : Nat} (k : KindF n f) (k2 : KindF m g) (hw : w.K = X.K) (hg : Gl X "isinstance") (hm : X.mg "isinstance" = none) (hg2 : Gl X x) (hm2 : X.mg x = none) (hv2 : bootBuiltins x = some (.type n))
    (hg3 : Gl X y) (hm3 : X.mg y = none) (hv3 : bootBuiltins y = some (.type m)) (ha : PE X a (rdR w ea))
    (hn2 : x ≠ "__name__" := by decide) (hd2 : (x == ("__debug__" : Str)) = false := by decide) (hn3 : y ≠ "__name__" := by decide) (hd3 : (y == ("__debug__" : Str)) = false := by decide)
    (h1 : starEach [a, .Tuple [.Name x p2, .Name y p3] j p4] X.env = (false, eval a X.env) :: starEach [.Tuple [.Name x p2, .Name y p3] j p4] X.env := by rfl)
    (h2 : starEach [.Tuple [.Name x p2, .Name y p3] j p4] X.env = (false, eval (.Tuple [.Name x p2, .Name y p3] j p4) X.env) :: starEach [] X.env := by rfl)
    (h3 : starEach [.Name x p2, .Name y p3] X.env = (false, eval (.Name x p2) X.env) :: starEach [.Name y p3] X.env := by rfl) (h4 : starEach [.Name y p3] X.env = (false, eval (.Name y p3) X.env) :: starEach [] X.env := by rfl)
    (hpl : (backTo pos (starEach [.Tuple [.Name x p2, .Name y p3] j p4] X.env)).any (·.1) = false := by rfl) : PE X (.Call (.Name "isinstance" p) [a, .Tuple [.Name x p2, .Name y p3] j p4] [] pos) (rdR w (un1 (isD [f, g]) ea)) :=
  pe_mono (pe_callB call_isXT hg hm PyProof.Rows.boot_isinstance (pa_cons ha (pa_cons (pe_tup (pa_cons (pe_bltn hg2 hm2 hv2 (v := .ty n) rfl hn2 hd2) (pa_cons (pe_bltn hg3 hm3 hv3 (v := .ty m) rfl hn3 hd3) pa_nil h4) h3)) pa_nil h2) h1) (by decide) (by decide) h1 hpl) fun _ _ _ h => hw ▸ rd_isiT k k2 h
end
def inD : F2 := fun x y => match y with
  | .list ds => if SeqAt.shaped x && SeqAt.shaped y then some (.fz (.bool (ds.any fun z => PyData.eqv z x))) else none
  | _ => none
def notInD : F2 := fun x y => match y with
  | .list ds => if SeqAt.shaped x && SeqAt.shaped y then some (.fz (.bool (!ds.any fun z => PyData.eqv z x))) else none
  | _ => none
theorem s_in : OpS K inD (rInD K) := by
  intro F H x y dx dy z E hx hy hz Q k
  unfold inD at hz
  split at hz
  · split at hz
    · rename_i hs
      rw [Bool.and_eq_true] at hs
      cases hz
      exact ⟨dx, _, (hx.dp E).l2 (plain_shaped hs.1), (hy.dp E).l2 (plain_shaped hs.2), hs.1, hs.2, k _ _ (.old (.bl _))⟩
    · cases hz
  · cases hz
theorem s_notIn : OpS K notInD (rNotInD K) := by
  intro F H x y dx dy z E hx hy hz Q k
  unfold notInD at hz
  split at hz
  · split at hz
    · rename_i hs
      rw [Bool.and_eq_true] at hs
      cases hz
      exact ⟨dx, _, (hx.dp E).l2 (plain_shaped hs.1), (hy.dp E).l2 (plain_shaped hs.2), hs.1, hs.2, k _ _ (.old (.bl _))⟩
    · cases hz
  · cases hz
def sumD : D → Option Rv
  | .list ds => (intsD ds).map fun ns => .fz (.int ns.sum)
  | .tuple ds => (intsD ds).map fun ns => .fz (.int ns.sum)
  | _ => none
section
variable {X : Cx} {pins : List (Addr × Obj)} {s : Shared}
end
mutual
theorem plain_alike : ∀ d : D, PySem.W.alike d d = true → plainD d = true
  | .none, _ => by unfold plainD; rfl
  | .bool _, _ => by unfold plainD; rfl
  | .int _, _ => by unfold plainD; rfl
  | .str _, _ => by unfold plainD; rfl
  | .list ds, h => by unfold plainD; unfold PySem.W.alike at h; exact plainA_alike ds h
  | .tuple ds, h => by unfold plainD; unfold PySem.W.alike at h; exact plainA_alike ds h
  | .dict _, h => by unfold PySem.W.alike at h; cases h
theorem plainA_alike : ∀ ds : List D, PySem.W.alikeAll ds ds = true → plainA ds = true
  | [], _ => by unfold plainA; rfl
  | d :: ds, h => by
    unfold PySem.W.alikeAll at h
    rw [Bool.and_eq_true] at h
    unfold plainA
    rw [plain_alike d h.1, plainA_alike ds h.2]; rfl
end
def oneNil : List D → Bool
  | [.tuple []] => true
  | _ => false
def sortB (ds : List D) : Bool := (ds.all fun x => ds.all fun y => PySem.W.alike x y) && ((ds.all fun x => match x with | .tuple (_ :: _) => true | _ => false) || ((ds.all fun x => match x with | .tuple _ => false | .none => false | _ => true) || oneNil ds)) && decide (ds.length ≤ sizeLine) && ds.all fun x => decide (x.depth ≤ 40)
end VI
set_option Elab.async false
set_option linter.all false
set_option maxRecDepth 100000
set_option maxHeartbeats 4000000
namespace VI
open PySem PySem.Spec PyProof.Rows L2
variable {K : PySem.W.Frag} {C : Cf} {F H : Hp} {e e' : Env} {σ : L2.St}
end VI
set_option Elab.async false
set_option linter.all false
set_option maxRecDepth 100000
set_option maxHeartbeats 4000000
namespace VI
open PySem PySem.Spec PyProof.Rows L2
variable {K : PySem.W.Frag} {C : Cf} {F H : Hp} {e e' : Env} {σ : L2.St}
/-- a list or a tuple -/
inductive Sk where
  | l | t
def SqK (K : PySem.W.Frag) (H : Hp) : Sk → Addr → List V → Prop
  | .l => SqL K H
  | .t => SqT K H
def IsSq (h : Heap) : Sk → Addr → Array Value → Prop
  | .l => h.IsList
  | .t => h.IsTuple
def IterAt (h : Heap) : Sk → Addr → Addr → Nat → Prop
  | .l => h.IsListIter
  | .t => h.IsTupleIter
def itObj : Sk → Addr → Obj
  | .l, a => { cls := .type "list_iterator", data := .fields #[.ref a, .int 0 0] }
  | .t, a => { cls := .type "tuple_iterator", data := .fields #[.ref a, .int 0 0] }
theorem begins_sq (k : Sk) (a : Addr) (xs : Array Value) : Begins (.ref a) (itObj k a) (fun h => IsSq h k a xs) := by
  cases k with
  | l => exact begins_list a xs
  | t => exact begins_tuple a xs
theorem draws_sq {prog : Program} {w : World} {A : Around} (hh : A.handled = none) (k : Sk) (it a : Addr) (hne : a ≠ it) (xs : Array Value) :
    Draws prog w A it [it, a] xs.size (fun i v => xs[i]? = some v) (fun i h => IterAt h k it a i ∧ IsSq h k a xs) := by
  cases k with
  | l => exact Draws.list hh it a hne xs
  | t => exact Draws.tuple hh it a hne xs
theorem iter0 (k : Sk) {h : Heap} {it a : Addr} (e : h.get? it = some (itObj k a)) : IterAt h k it a 0 := by
  cases k with
  | l => exact ⟨_, e, rfl, rfl⟩
  | t => exact ⟨_, e, rfl, rfl⟩
theorem IterAt.keep {k : Sk} {h h' : Heap} {it a : Addr} {i : Nat} (x : IterAt h k it a i) (q : ∀ o, h.get? it = some o → h'.get? it = some o) : IterAt h' k it a i := by
  cases k with
  | l => exact Heap.IsListIter.at x q
  | t => exact Heap.IsTupleIter.at x q
theorem IterAt.obj {k : Sk} {h : Heap} {it a : Addr} {i : Nat} (x : IterAt h k it a i) : ∃ o, h.get? it = some o ∧ ∀ v, o.data ≠ .cell v := by
  cases k with
  | l => obtain ⟨o, h1, _, h3⟩ := x; exact ⟨o, h1, fun v z => by rw [h3] at z; cases z⟩
  | t => obtain ⟨o, h1, _, h3⟩ := x; exact ⟨o, h1, fun v z => by rw [h3] at z; cases z⟩
section
variable {X : Cx} {pins : List (Addr × Obj)} {s : Shared} {k : Sk} {a : Addr} {xs ys : List V}
theorem sq_at (I : Inv X pins σ H s) (h : SqK X.K H k a xs) : ∃ its : List Value, Vals xs its ∧ IsSq s.heap k a its.toArray ∧ xs.length ≤ sizeLine ∧ a < s.heap.objs.size := by
  cases k with
  | l => obtain ⟨its, r, p, z⟩ := I.list h; exact ⟨its, r, p.isList, z, p.lt⟩
  | t => obtain ⟨its, r, p, z⟩ := I.tuple h; exact ⟨its, r, p, z, by obtain ⟨o, ho, _⟩ := p; exact Heap.lt_size ho⟩
theorem sq_one (I : Inv X pins σ H s) (h : SqK X.K H k a xs) (h' : SqK X.K H k a ys) : xs = ys := by
  cases k with
  | l => exact I.list_inj h h'
  | t => exact I.tuple_inj h h'
end
theorem IsSq.cls {k : Sk} {h : Heap} {a : Addr} {xs : Array Value} (x : IsSq h k a xs) : ∃ o, h.get? a = some o ∧ (o.cls = .type "list" ∨ o.cls = .type "tuple") := by
  cases k with
  | l => obtain ⟨o, q, q2, _⟩ := x; exact ⟨o, q, .inl q2⟩
  | t => obtain ⟨o, q, q2, _⟩ := x; exact ⟨o, q, .inr q2⟩
theorem IsSq.apart {k : Sk} {h : Heap} {a b : Addr} {xs : Array Value} {o : Obj} (x : IsSq h k a xs) (e : h.get? b = some o) (n : o.cls ≠ .type "list" ∧ o.cls ≠ .type "tuple") : a ≠ b := fun z => by
  obtain ⟨o', q, q2⟩ := x.cls
  rw [z, e] at q; cases q
  exact q2.elim n.1 n.2
theorem IterAt.apart {k k2 : Sk} {h : Heap} {it a b : Addr} {i : Nat} {xs : Array Value} (x : IterAt h k it a i) (y : IsSq h k2 b xs) : b ≠ it := by
  cases k with
  | l => obtain ⟨o, h1, h2, h3⟩ := x; exact y.apart h1 (by rw [h2]; simp)
  | t => obtain ⟨o, h1, h2, h3⟩ := x; exact y.apart h1 (by rw [h2]; simp)
def IteK (K : PySem.W.Frag) (k : Sk) (a : Addr) : It :=
  ⟨fun i H => ∃ (xs : List V) (x : V), SqK K H k a xs ∧ xs[i]? = some x, fun i H v H' => ∃ T x, v = .ref T ∧ H T = none ∧ H' = upd H T (.tup [.int (i : Nat), x]) ∧ ∀ xs, SqK K H k a xs → xs[i]? = some x,
    fun i H => ∃ xs : List V, SqK K H k a xs ∧ xs.length = i⟩
theorem turn_enumK {P : Program} {w : World} {K : PySem.W.Frag} {elts : List Expr} {kk : Nat} {tpos : Pos} (k : Sk) (a e it : Addr) :
    Turn P w K (.Tuple elts kk tpos) (IteK K k a) [e, it] e (fun i h => (∃ old, IsEnum h e it (0 + (i : Int)) old) ∧ IterAt h k it a i ∧ e ≠ it) where
  mem := List.mem_cons_self
  obj := fun i h st b hb => by
    obtain ⟨⟨old, he⟩, hi, _⟩ := st
    rcases List.mem_cons.mp hb with z | z
    · subst z; exact ⟨_, he, fun v q => by cases q⟩
    · rw [List.mem_singleton.mp z]; exact hi.obj
  keep := fun i h h' st q => let ⟨⟨old, he⟩, hi, hne⟩ := st; ⟨⟨old, q e List.mem_cons_self _ he⟩, hi.keep (q it (List.mem_cons_of_mem _ List.mem_cons_self)), hne⟩
  item := by
    intro X hP hw hK hc i pins s σ H E I hf st hg
    subst hP hw hK
    obtain ⟨he, hit, hne⟩ := st
    obtain ⟨xs, x, hq, hx⟩ := hg
    obtain ⟨its, rv, p, hz, hal⟩ := sq_at I hq
    obtain ⟨u, hu, ru⟩ := rv.get hx
    have hel : e < s.heap.objs.size := by obtain ⟨_, q⟩ := he; exact Heap.lt_size q
    have hil : it < s.heap.objs.size := by obtain ⟨_, q, _⟩ := hit.obj; exact Heap.lt_size q
    have f1 := hf it (List.mem_cons_of_mem _ List.mem_cons_self)
    have f0 := hf e List.mem_cons_self
    have key : a ≠ it ∧ a ≠ e := ⟨hit.apart p, by obtain ⟨old, he⟩ := he; exact p.apart he (by simp)⟩
    have W := GoesN.enumFrom (prog := X.prog) (w := X.w) (A := X.A) (elts := elts) (x1 := kk) (pos := tpos) 0 (draws_sq (A := X.A.in1) (I.ok.hd hc) k it a key.1 its.toArray) e hne
      (fun z => by rcases List.mem_cons.mp z with z | z; exact hne z; exact key.2 (List.mem_singleton.mp z).symm) List.mem_cons_self
    have hlt : i < its.toArray.size := by
      rw [List.size_toArray]; exact (List.getElem?_eq_some_iff.mp hu).1
    refine W.goes i s _ E hlt ⟨he, hit, p⟩ fun v h' tk hY st' hk htk => ?_
    obtain ⟨T, t, y, rfl, hT, hy, hTup⟩ := hY
    have hy : its[i]? = some y := by simpa using hy
    rw [hu] at hy; cases hy
    have hT0 : H T = none := I.hok.fresh hT
    obtain ⟨o, o1, o2, n, o3⟩ := hTup
    have new : ObjOk X.prog X.w (upd H T (.tup [.int (i : Nat), x])) h' T (.tup [.int (i : Nat), x]) :=
      ⟨by show 2 ≤ sizeLine; decide, [.int (0 + (i : Int)) t, u], .cons ⟨t, by rw [Int.zero_add]⟩ (.cons ru .nil), ⟨o, o1, o2, n, o3⟩⟩
    have I1 : Inv X pins σ (upd H T (.tup [.int (i : Nat), x])) { s with heap := h', toks := tk } := I.turnedNew (ch := [e, it]) hk hf hT new
    refine ⟨.ref T, _, I1, rfl, ⟨T, x, rfl, hT0, rfl, fun ys hys => by rw [sq_one I hys hq]; exact hx⟩, ⟨st'.1, st'.2.1, hne⟩, fun b hb => ?_⟩
    have hb' : b < s.heap.objs.size := by
      rcases List.mem_cons.mp hb with z | z
      · rw [z]; exact hel
      · rw [List.mem_singleton.mp z]; exact hil
    rw [upd_ne (Nat.ne_of_lt (Nat.lt_of_lt_of_le hb' hT))]
    exact (hf b hb).1
  done := by
    intro X hP hw hK hc i pins s σ H E I hf st hg
    subst hP hw hK
    obtain ⟨he, hit, hne⟩ := st
    obtain ⟨xs, hq, hx⟩ := hg
    obtain ⟨its, rv, p, hz, hal⟩ := sq_at I hq
    have key : a ≠ it ∧ a ≠ e := ⟨hit.apart p, by obtain ⟨old, he⟩ := he; exact p.apart he (by simp)⟩
    have W := GoesN.enumFrom (prog := X.prog) (w := X.w) (A := X.A) (elts := elts) (x1 := kk) (pos := tpos) 0 (draws_sq (A := X.A.in1) (I.ok.hd hc) k it a key.1 its.toArray) e hne
      (fun z => by rcases List.mem_cons.mp z with z | z; exact hne z; exact key.2 (List.mem_singleton.mp z).symm) List.mem_cons_self
    have hn : its.toArray.size = i := by rw [List.size_toArray, ← rv.length]; exact hx
    exact W.stops s _ E (by rw [hn]; exact ⟨he, hit, p⟩) fun h' tk hk htk => I.turnedL (t' := tk) (ch := [e, it]) hk hf
  self := fun A i s Q E st h => let ⟨⟨_, he⟩, _⟩ := st; wpAny_pyIter_enum he h
theorem walk_enumK {k : Sk} {a : Addr} {xs : List V} : Walk (IteK K k a) xs.length (fun H => SqK K H k a xs) (YPair (fun i => some (.int (i : Nat))) (fun i => xs[i]?)) := by
  refine ⟨fun i _ hi q => ⟨xs, xs[i], q, by simp [hi]⟩, fun _ q => ⟨xs, q, rfl⟩, fun i H v H' _ q y => ?_⟩
  obtain ⟨T, x, h1, h2, h3, h4⟩ := y
  exact ⟨T, .int (i : Nat), x, h1, h2, h3, rfl, h4 xs q⟩
theorem meets_enumT (t : Addr) (xs : Array Value) :
    Meets (Builtin.«enumerate.__new__» ⟨[.type "enumerate", .ref t], []⟩) (fun _ R s => s.heap.IsTuple t xs ∧
      R (.ok (.ret (.ref (s.heap.push (itObj .t t)).objs.size))) { s with heap := (s.heap.push (itObj .t t)).push { cls := .type "enumerate", data := .fields #[.none, .bool false, .ref s.heap.objs.size, rawInt 0, .none, .none] } }) :=
  .of_wp fun prog w A R s h => by
    obtain ⟨hp, g, d, tk, os⟩ := s
    obtain ⟨⟨ob, hl, hcl, n, hdt⟩, h⟩ := h
    obtain ⟨c, dct, dt, sl⟩ := ob
    simp only at hcl hdt
    subst hcl hdt
    have hsub := sub_enumerate
    have hT : Heap.IsTuple (Shared.heap ⟨hp, g, d, tk, os⟩) t xs := ⟨_, hl, rfl, n, rfl⟩
    wp_walk using AutoSeq1.wpAny_loadPart' hl
    refine wpAny_stack_any (fun st => wpAny_pure ?_)
    split
    · rename_i c _ _ _ _ _
      cases (c == Value.type "enumerate")
      · wp_walk using AutoSeq1.wpAny_loadPart' hl, wpAny_pyIter_tuple hT
        exact ⟨_, rfl, h⟩
      · wp_walk using AutoSeq1.wpAny_loadPart' hl, wpAny_pyIter_tuple hT
        exact ⟨_, rfl, h⟩
    · wp_walk using AutoSeq1.wpAny_loadPart' hl, wpAny_pyIter_tuple hT
      exact ⟨_, rfl, h⟩
theorem call_enumT {prog : Program} {w : World} {A : Around} {E : Value → Shared → Prop} {s : Shared} {t : Addr} {xs : Array Value} {Q : Value → Shared → Prop} (hT : s.heap.IsTuple t xs)
    (h : ∀ h', IsEnum h' (s.heap.objs.size + 1) s.heap.objs.size 0 .none → h'.IsTupleIter s.heap.objs.size t 0 → (∀ b o, s.heap.get? b = some o → h'.get? b = some o) → Q (.ref (s.heap.objs.size + 1)) { s with heap := h' }) :
    wpAny (model prog w) A (call (.type "enumerate") [.ref t]) Q E s := by
  refine callType_new F.called_enumerate (by decide) (F.typeCall_enumerate_1 _) (F.newCall_enumerate_1 _) (fun obj => F.args_object_init_2 obj _) F.entry_enumerate_new (meets_enumT t xs) ⟨hT, ?_⟩
  have hz : (s.heap.push (itObj .t t)).objs.size = s.heap.objs.size + 1 := Heap.size_push ..
  show _ ∧ _
  rw [hz]
  have he : IsEnum ((s.heap.push (itObj .t t)).push { cls := .type "enumerate", data := .fields #[.none, .bool false, .ref s.heap.objs.size, rawInt 0, .none, .none] }) (s.heap.objs.size + 1) s.heap.objs.size 0 .none := by
    have := Heap.get?_push_size (s.heap.push (itObj .t t)) (o := { cls := .type "enumerate", data := .fields #[.none, .bool false, .ref s.heap.objs.size, rawInt 0, .none, .none] }) rfl
    rwa [hz] at this
  exact ⟨⟨_, he, rfl⟩, h _ he ⟨_, Heap.get?_push_of_some _ (Heap.get?_push_size _ rfl), rfl, rfl⟩ fun b o x => Heap.get?_push_of_some _ (Heap.get?_push_of_some _ x)⟩
def iEnumK (K : PySem.W.Frag) (ta : TA) : TI := fun σ H R => ta σ H fun vs H1 => ∃ k a xs, vs = [.ref a] ∧ SqK K H1 k a xs ∧ R (IteK K k a) H1
theorem pi_enumK {X : Cx} {ex : Expr} {ta : TA} {p pos tpos : Pos} {elts : List Expr} {kk : Nat} (hg : Gl X "enumerate") (hm : X.mg "enumerate" = none) (ha : PA X [ex] ta) (hs : starEach [ex] X.env = [(false, eval ex X.env)] := by rfl) :
    PI X (.Tuple elts kk tpos) (.Call (.Name "enumerate" p) [ex] [] pos) (iEnumK X.K ta) := by
  refine ⟨fun pins s σ H R I h => ?_⟩
  refine Call_ (ld_blt I hg hm boot_enumerate (PyProof.Rows.callWith_type1 (thn (ha.run pos pins s σ H _ I h) fun us s1 ⟨vs, H1, I1, r1, q1⟩ => ?_) hs rfl))
  obtain ⟨k, a, xs, rfl, hq, q⟩ := q1
  rw [Vals.ref1 r1]
  obtain ⟨its, rv, p', hz, hal⟩ := sq_at I1 hq
  have fin : ∀ h', IsEnum h' (s1.heap.objs.size + 1) s1.heap.objs.size 0 .none → IterAt h' k s1.heap.objs.size a 0 → (∀ b o, s1.heap.get? b = some o → h'.get? b = some o) →
      wpAny (model X.prog X.w) X.A (pyIter (.ref (s1.heap.objs.size + 1))) (PIE X pins σ (.Tuple elts kk tpos) R) X.xe { s1 with heap := h' } := fun h' he hit hk => by
    refine wpAny_pyIter_enum he ?_
    refine ⟨s1.heap.objs.size + 1, [s1.heap.objs.size + 1, s1.heap.objs.size], _, _, H1, rfl, I1.kept (t' := s1.toks) hk, turn_enumK k a (s1.heap.objs.size + 1) s1.heap.objs.size, ⟨⟨.none, he⟩, hit, Nat.succ_ne_self _⟩, fun b hb => ?_, q⟩
    have hle : s1.heap.objs.size ≤ b := by
      rcases List.mem_cons.mp hb with z | z
      · rw [z]; exact Nat.le_succ _
      · rw [List.mem_singleton.mp z]; exact Nat.le_refl _
    exact I1.fpOk hle (I1.hok.fresh hle)
  cases k with
  | l => exact call_enumerate_list p' fun h' he hit hsz hk => fin h' he hit hk
  | t => exact call_enumT p' fun h' he hit hk => fin h' he hit hk
end VI
set_option Elab.async false
set_option linter.all false
set_option maxRecDepth 100000
set_option maxHeartbeats 4000000
namespace VI
open PySem PySem.Spec PyProof.Rows L2
variable {K : PySem.W.Frag} {C : Cf} {F H : Hp} {e e' : Env} {σ : L2.St}
structure ZApart (z TI TO i1 i2 a b : Addr) : Prop where
  aTO : a ≠ TO
  bTO : b ≠ TO
  TIz : TI ≠ z
  TOz : TO ≠ z
  TITO : TI ≠ TO
  TIi1 : TI ≠ i1
  TIi2 : TI ≠ i2
  zi1 : z ≠ i1
  zi2 : z ≠ i2
  TOi1 : TO ≠ i1
  TOi2 : TO ≠ i2
  i12 : i1 ≠ i2
def ItzK (K : PySem.W.Frag) (k1 k2 : Sk) (a b : Addr) : It :=
  ⟨fun i H => ∃ (xs ys : List V) (x y : V), SqK K H k1 a xs ∧ SqK K H k2 b ys ∧ xs[i]? = some x ∧ ys[i]? = some y,
    fun i H v H' => ∃ T x y, v = .ref T ∧ H T = none ∧ H' = upd H T (.tup [x, y]) ∧ (∀ xs, SqK K H k1 a xs → xs[i]? = some x) ∧ ∀ ys, SqK K H k2 b ys → ys[i]? = some y,
    fun i H => ∃ xs ys : List V, SqK K H k1 a xs ∧ SqK K H k2 b ys ∧ min xs.length ys.length = i⟩
theorem five {c z TI TO i1 i2 : Addr} (h : c ∈ [z, TI, TO, i1, i2]) : c = z ∨ c = TI ∨ c = TO ∨ c = i1 ∨ c = i2 := by simpa using h
theorem turn_zipK {P : Program} {w : World} {K : PySem.W.Frag} {elts : List Expr} {kk : Nat} {tpos : Pos} {k1 k2 : Sk} {a b z TI TO i1 i2 : Addr} (D : ZApart z TI TO i1 i2 a b) :
    Turn P w K (.Tuple elts kk tpos) (ItzK K k1 k2 a b) [z, TI, TO, i1, i2] z (fun i h => IsZip h z TI TO .none ∧ IsTupOf2 h TI (.ref i1) (.ref i2) ∧ (∃ x y, IsTupOf2 h TO x y) ∧ IterAt h k1 i1 a i ∧ IterAt h k2 i2 b i) := by
  have wr : ∀ c, c ∉ [z, TI, TO, i1, i2] → c ∉ [z, TO, i1, i2] := fun c hc q => hc (by
    rcases List.mem_cons.mp q with q | q
    · simp [q]
    · rcases List.mem_cons.mp q with q | q
      · simp [q]
      · rcases List.mem_cons.mp q with q | q
        · simp [q]
        · simp [List.mem_singleton.mp q])
  have mk : ∀ (X : Cx), X.calm = true → ∀ {pins : List (Addr × Obj)} {s : Shared} {σ : L2.St} {H : Hp} {its its2 : Array Value} {i : Nat}, Inv X pins σ H s → IsZip s.heap z TI TO .none → (∃ x y, IsTupOf2 s.heap TO x y) → IterAt s.heap k1 i1 a i → IterAt s.heap k2 i2 b i →
      IsSq s.heap k1 a its → IsSq s.heap k2 b its2 → GoesN X.prog X.w X.A (.Tuple elts kk tpos) z (z :: TI :: TO :: ([i1, a] ++ [i2, b])) [z, TO, i1, i2] (min its.size its2.size)
        (fun i h₀ v h => ∃ T x y, v = .ref T ∧ h₀.objs.size ≤ T ∧ its[i]? = some x ∧ its2[i]? = some y ∧ h.IsTuple T #[x, y])
        (fun i h => IsZip h z TI TO .none ∧ IsTupOf2 h TI (.ref i1) (.ref i2) ∧ (∃ a1 a2, IsTupOf2 h TO a1 a2) ∧ (IterAt h k1 i1 a i ∧ IsSq h k1 a its) ∧ (IterAt h k2 i2 b i ∧ IsSq h k2 b its2)) := by
    intro X hc pins s σ H its its2 i I hz hTO h1 h2 p1 p2
    have az : a ≠ z := p1.apart hz (by simp)
    have bz : b ≠ z := p2.apart hz (by simp)
    have a1 : a ≠ i1 := h1.apart p1
    have a2 : a ≠ i2 := h2.apart p1
    have b1 : b ≠ i1 := h1.apart p2
    have b2 : b ≠ i2 := h2.apart p2
    have S : ZipSep2 z TI TO i1 i2 [i1, a] [i2, b] :=
      { TIz := D.TIz, TOz := D.TOz, TITO := D.TITO, TIi1 := D.TIi1, TIi2 := D.TIi2, mem1 := List.mem_cons_self, mem2 := List.mem_cons_self,
        zf1 := fun q => by rcases List.mem_cons.mp q with q | q; exact D.zi1 q; exact az (List.mem_singleton.mp q).symm,
        Tf1 := fun q => by rcases List.mem_cons.mp q with q | q; exact D.TOi1 q; exact D.aTO (List.mem_singleton.mp q).symm,
        zf2 := fun q => by rcases List.mem_cons.mp q with q | q; exact D.zi2 q; exact bz (List.mem_singleton.mp q).symm,
        Tf2 := fun q => by rcases List.mem_cons.mp q with q | q; exact D.TOi2 q; exact D.bTO (List.mem_singleton.mp q).symm,
        sep1_2 := fun q => by rcases List.mem_cons.mp q with q | q; exact D.i12 q; exact b1 (List.mem_singleton.mp q).symm,
        sep2_1 := fun q => by rcases List.mem_cons.mp q with q | q; exact D.i12 q.symm; exact a2 (List.mem_singleton.mp q).symm }
    exact GoesN.zip2 S (draws_sq (A := X.A.in1) (I.ok.hd hc) k1 i1 a a1 its) (draws_sq (A := X.A.in1) (I.ok.hd hc) k2 i2 b b2 its2)
  refine ⟨List.mem_cons_self, fun i h st c hc => ?_, fun i h h' st q => ?_, ?_, ?_, fun A i s Q E st h => wpAny_pyIter_zip st.1 h⟩
  · obtain ⟨hz, hTI, ⟨x, y, hTO⟩, h1, h2⟩ := st
    rcases five hc with q | q | q | q | q <;> subst q
    · exact ⟨_, hz, fun v q => by cases q⟩
    · exact ⟨_, hTI, fun v q => by cases q⟩
    · exact ⟨_, hTO, fun v q => by cases q⟩
    · exact h1.obj
    · exact h2.obj
  · obtain ⟨hz, hTI, ⟨x, y, hTO⟩, h1, h2⟩ := st
    exact ⟨q _ (by simp) _ hz, q _ (by simp) _ hTI, ⟨x, y, q _ (by simp) _ hTO⟩, h1.keep (q _ (by simp)), h2.keep (q _ (by simp))⟩
  · intro X hP hw hK hc i pins s σ H E I hf st hg
    subst hP hw hK
    obtain ⟨hz, hTI, hTO, h1, h2⟩ := st
    obtain ⟨xs, ys, x, y, hqx, hqy, hx, hy⟩ := hg
    obtain ⟨its, rv, p, _, la⟩ := sq_at I hqx
    obtain ⟨its2, rv2, p2, _, lb⟩ := sq_at I hqy
    obtain ⟨u, hu, ru⟩ := rv.get hx
    obtain ⟨u2, hu2, ru2⟩ := rv2.get hy
    have W := mk X hc I hz hTO h1 h2 p p2
    have hlt : i < min its.toArray.size its2.toArray.size := by
      have z1 := (List.getElem?_eq_some_iff.mp hu).1
      have z2 := (List.getElem?_eq_some_iff.mp hu2).1
      rw [List.size_toArray, List.size_toArray]; omega
    refine W.goes i s _ E hlt ⟨hz, hTI, hTO, ⟨h1, p⟩, ⟨h2, p2⟩⟩ fun v h' tk hY st' hk htk => ?_
    obtain ⟨T, v1, v2, rfl, hT, hv1, hv2, hTup⟩ := hY
    have hv1 : its[i]? = some v1 := by simpa using hv1
    have hv2 : its2[i]? = some v2 := by simpa using hv2
    rw [hu] at hv1; cases hv1
    rw [hu2] at hv2; cases hv2
    have hT0 : H T = none := I.hok.fresh hT
    obtain ⟨o, o1, o2, n, o3⟩ := hTup
    have new : ObjOk X.prog X.w (upd H T (.tup [x, y])) h' T (.tup [x, y]) := ⟨by show 2 ≤ sizeLine; decide, [u, u2], .cons ru (.cons ru2 .nil), ⟨o, o1, o2, n, o3⟩⟩
    have I1 : Inv X pins σ (upd H T (.tup [x, y])) { s with heap := h', toks := tk } := I.turnedNew (ch := [z, TI, TO, i1, i2]) (fun c o' hb q => hk c o' (wr c hb) q) hf hT new
    refine ⟨.ref T, _, I1, rfl, ⟨T, x, y, rfl, hT0, rfl, fun l hl => by rw [sq_one I hl hqx]; exact hx, fun l hl => by rw [sq_one I hl hqy]; exact hy⟩, ⟨st'.1, st'.2.1, st'.2.2.1, st'.2.2.2.1.1, st'.2.2.2.2.1⟩, fun c hcm => ?_⟩
    have hlt : c < s.heap.objs.size := by
      obtain ⟨t1, t2, hTO⟩ := hTO
      rcases five hcm with q | q | q | q | q <;> subst q
      · exact Heap.lt_size hz
      · exact Heap.lt_size hTI
      · exact Heap.lt_size hTO
      · obtain ⟨_, e1, _⟩ := h1.obj; exact Heap.lt_size e1
      · obtain ⟨_, e1, _⟩ := h2.obj; exact Heap.lt_size e1
    rw [upd_ne (Nat.ne_of_lt (Nat.lt_of_lt_of_le hlt hT))]
    exact (hf c hcm).1
  · intro X hP hw hK hc i pins s σ H E I hf st hg
    subst hP hw hK
    obtain ⟨hz, hTI, hTO, h1, h2⟩ := st
    obtain ⟨xs, ys, hqx, hqy, hn⟩ := hg
    obtain ⟨its, rv, p, _, la⟩ := sq_at I hqx
    obtain ⟨its2, rv2, p2, _, lb⟩ := sq_at I hqy
    have W := mk X hc I hz hTO h1 h2 p p2
    have hn' : min its.toArray.size its2.toArray.size = i := by rw [List.size_toArray, List.size_toArray, ← rv.length, ← rv2.length]; exact hn
    exact W.stops s _ E (by rw [hn']; exact ⟨hz, hTI, hTO, ⟨h1, p⟩, ⟨h2, p2⟩⟩) fun h' tk hk htk => I.turnedL (t' := tk) (ch := [z, TI, TO, i1, i2]) (fun c o' hb q => hk c o' (wr c hb) q) hf
theorem walk_zipK {k1 k2 : Sk} {a b : Addr} {xs ys : List V} : Walk (ItzK K k1 k2 a b) (min xs.length ys.length) (fun H => SqK K H k1 a xs ∧ SqK K H k2 b ys) (YPair (fun i => xs[i]?) (fun i => ys[i]?)) := by
  refine ⟨fun i _ hi q => ?_, fun _ q => ⟨xs, ys, q.1, q.2, rfl⟩, fun i H v H' _ q y => ?_⟩
  · have z1 : i < xs.length := Nat.lt_of_lt_of_le hi (Nat.min_le_left _ _)
    have z2 : i < ys.length := Nat.lt_of_lt_of_le hi (Nat.min_le_right _ _)
    exact ⟨xs, ys, xs[i], ys[i], q.1, q.2, by simp [z1], by simp [z2]⟩
  · obtain ⟨T, x, z, h1, h2, h3, h4, h5⟩ := y
    exact ⟨T, x, z, h1, h2, h3, h4 xs q.1, h5 ys q.2⟩
def iZipK (K : PySem.W.Frag) (ta : TA) : TI := fun σ H R => ta σ H fun vs H1 => ∃ k1 k2 a b xs ys, vs = [.ref a, .ref b] ∧ SqK K H1 k1 a xs ∧ SqK K H1 k2 b ys ∧ R (ItzK K k1 k2 a b) H1
theorem pi_zipK {X : Cx} {ex e2 : Expr} {ta : TA} {p pos tpos : Pos} {elts : List Expr} {kk : Nat} (hg : Gl X "zip") (hm : X.mg "zip" = none) (ha : PA X [ex, e2] ta)
    (hs : starEach [ex, e2] X.env = (false, eval ex X.env) :: starEach [e2] X.env := by rfl) (hpl : (backTo pos (starEach [e2] X.env)).any (·.1) = false := by rfl) :
    PI X (.Tuple elts kk tpos) (.Call (.Name "zip" p) [ex, e2] [] pos) (iZipK X.K ta) := by
  refine ⟨fun pins s σ H R I h => ?_⟩
  refine Call_ (ld_blt I hg hm PyProof.Rows.boot_zip (PyProof.Rows.callWith_type1 (thn (ha.run pos pins s σ H _ I h) fun us s1 ⟨vs, H1, I1, r1, q1⟩ => ?_) hs hpl))
  obtain ⟨k1, k2, a, b, xs, ys, rfl, hqx, hqy, q⟩ := q1
  obtain ⟨u1, u2, rfl, hr1, hr2⟩ := vals2 r1
  cases hr1
  cases hr2
  obtain ⟨its, rv, p1, _, la⟩ := sq_at I1 hqx
  obtain ⟨its2, rv2, p2, _, lb⟩ := sq_at I1 hqy
  refine zip_begins2 (begins_sq k1 a its.toArray) (begins_sq k2 b its2.toArray) p1 p2 fun h' hz hTI hTO h1 h2 hsz hk => wpAny_pyIter_zip hz ?_
  have D : ZApart (s1.heap.objs.size + 4) (s1.heap.objs.size + 2) (s1.heap.objs.size + 3) s1.heap.objs.size (s1.heap.objs.size + 1) a b := by
    constructor
    · exact Nat.ne_of_lt (Nat.lt_of_lt_of_le la (Nat.le_add_right _ 3))
    · exact Nat.ne_of_lt (Nat.lt_of_lt_of_le lb (Nat.le_add_right _ 3))
    all_goals (refine PySem.W.neN ?_; omega)
  refine ⟨s1.heap.objs.size + 4, [s1.heap.objs.size + 4, s1.heap.objs.size + 2, s1.heap.objs.size + 3, s1.heap.objs.size, s1.heap.objs.size + 1], _, _, H1, rfl, I1.kept (t' := s1.toks) hk, turn_zipK D, ⟨hz, hTI, ⟨_, _, hTO⟩, iter0 k1 h1, iter0 k2 h2⟩, fun c hcm => ?_, q⟩
  have hle : s1.heap.objs.size ≤ c := by
    rcases five hcm with z | z | z | z | z <;> rw [z] <;> first | exact Nat.le_refl _ | exact Nat.le_add_right _ _
  exact I1.fpOk hle (I1.hok.fresh hle)
end VI
set_option Elab.async false
set_option linter.all false
set_option maxRecDepth 100000
set_option maxHeartbeats 4000000
namespace VI
open PySem PySem.Spec PyProof.Rows L2
variable {K : PySem.W.Frag} {C : Cf} {F H : Hp} {e e' : Env} {σ : L2.St}
def heldR (K : PySem.W.Frag) (C : Cf) (F H : Hp) (e1 : Env) (σ : L2.St) (s : Src) (v : V) : Prop := ∃ k a xs C', v = V.ref a ∧ Rp K C' F H e1 σ ∧ Back K C C' s.lend ∧ DpAll K F xs s.items ∧ ∀ F2 H2 e2 σ2, Rp K C' F2 H2 e2 σ2 → Ext F F2 → SqK K H2 k a xs
theorem src_held {r : Rv} {v : V} {s : Src} {e1 : Env} (R : Rp K C F H e σ) (hs : r.still = true) (q : RvR K C F H e σ r v) (h : srcR r e = .ok s e1) : heldR K C F H e1 σ s v := by
  have lst : ∀ {ds : List D}, Dp K F v (.list ds) → heldR K C F H e σ ⟨ds, []⟩ v := fun {ds} z => by
    cases z with
    | lst h1 h2 => exact ⟨.l, _, _, C, rfl, R, back_nil, h2, fun F2 H2 e2 σ2 R2 E2 => .inl (ext_rd (E2.trans R2.ext) h1)⟩
  have tup : ∀ {ds : List D}, Dp K F v (.tuple ds) → heldR K C F H e σ ⟨ds, []⟩ v := fun {ds} z => by
    cases z with
    | tup h1 h2 => exact ⟨.t, _, _, C, rfl, R, back_nil, h2, fun F2 H2 e2 σ2 R2 E2 => ext_t (E2.trans R2.ext) h1⟩
  cases r with
  | fresh ds => cases hs
  | fz d =>
    cases d with
    | list ds => cases h; exact lst q
    | tuple ds => cases h; exact tup q
    | _ => cases h
  | bor i =>
    have h' : σ[i]? = some (some v) := q
    unfold srcR at h
    simp only at h
    split at h
    · rename_i ds hd
      obtain ⟨u, hu, z⟩ := R.sl _ _ hd
      rw [h'] at hu; cases hu; cases h
      exact lst z
    · rename_i ds hd
      obtain ⟨u, hu, z⟩ := R.sl _ _ hd
      rw [h'] at hu; cases hu; cases h
      exact tup z
    · rename_i ds hd
      obtain ⟨u, hu, vs, rfl, h1, h2, h3⟩ := R.sl _ _ hd
      rw [h'] at hu; cases hu; cases h
      refine ⟨.l, _, _, C, rfl, R, back_nil, h2, fun F2 H2 e2 σ2 R2 E2 => SqL.of ?_⟩
      rw [(R2.frm _ (R.ml _ h3)).1, ← (R.frm _ (R.ml _ h3)).1]; exact h1
    · rename_i ds hd
      obtain ⟨u, hu, p, vs, rfl, h1, h2, h3, h4⟩ := R.sl _ _ hd
      rw [h'] at hu; cases hu; cases h
      obtain ⟨R1, B⟩ := R.lend hd h' h1 h2 h3 h4
      refine ⟨.l, _, _, _, rfl, R1, B, h2, fun F2 H2 e2 σ2 R2 E2 => SqL.of ?_⟩
      rw [(R2.frm p (.inr rfl)).1]; exact h1
    · cases h
theorem unlend_cons (i : Nat) (l : List Nat) (e : Env) : unlend (i :: l) e = unlend l (unlend [i] e) := by
  cases h : e[i]? with
  | none => simp only [unlend, h]
  | some o =>
    cases o with
    | none => simp only [unlend, h]
    | some x => cases x <;> simp only [unlend, h]
theorem unlend_app (l m : List Nat) (e : Env) : unlend (l ++ m) e = unlend m (unlend l e) := by
  induction l generalizing e with
  | nil => rfl
  | cons i l ih => rw [List.cons_append, unlend_cons, ih, unlend_cons i l]
theorem Back.trans {C1 C2 : Cf} {l m : List Nat} (a : Back K C C1 l) (b : Back K C1 C2 m) : Back K C C2 (m ++ l) :=
  ⟨fun F2 H2 e2 σ2 R => by rw [unlend_app]; exact a.rp _ _ _ _ (b.rp _ _ _ _ R), fun F2 H2 e2 σ2 ds v R q => by rw [unlend_app]; exact a.rv _ _ _ _ ds v (b.rp _ _ _ _ R) (b.rv _ _ _ _ ds v R q)⟩
def enumD (ds : List D) : List D := ds.zipIdx.map fun p => .tuple [.int (p.2 : Nat), p.1]
def enumE (a : Ev) : Sem1 Src := fun e => (opd a e).bind fun r e1 => (srcR r e1).bind fun s e2 => .ok ⟨enumD s.items, s.lend⟩ e2
theorem enumD_len (ds : List D) : (enumD ds).length = ds.length := by unfold enumD; rw [List.length_map, List.length_zipIdx]
theorem enumD_get {ds : List D} {i : Nat} {d : D} (h : ds[i]? = some d) : (enumD ds)[i]? = some (.tuple [.int (i : Nat), d]) := by
  unfold enumD
  rw [List.getElem?_map, List.getElem?_zipIdx, h]
  simp
theorem itOk_enum {k : Sk} {a : Addr} {xs : List V} {ds : List D} (hd : DpAll K F xs ds) (hs : ∀ F2 H2 e2 σ2, Rp K C F2 H2 e2 σ2 → Ext F F2 → SqK K H2 k a xs) : ItOk K C F (IteK K k a) (enumD ds) := by
  refine ⟨fun H => SqK K H k a xs, _, by rw [enumD_len, ← hd.length]; exact walk_enumK, hs, fun i x H1 H2 F1 E E1 _ y hi => ?_⟩
  obtain ⟨T, x1, x2, rfl, hT, rfl, h1, h2⟩ := y
  cases h1
  obtain ⟨d, h3, h4⟩ := hd.get' h2
  exact ⟨_, enumD_get h3, .tup hT (.cons (.int _) (.cons (Dp.ext E h4) .nil))⟩
theorem srcR_ok {r : Rv} {s : Src} {w : Wd} {Rr : It → Hp → Prop} {f : Src → Env → Rs Src} (P : PostI w C F σ Rr ((srcR r e).bind f)) : ∃ s e1, srcR r e = .ok s e1 ∧ PostI w C F σ Rr (f s e1) := by
  cases h : srcR r e with
  | no => rw [h] at P; exact P.elim
  | ok s e1 => rw [h] at P; exact ⟨s, e1, rfl, P⟩
  | ex x e1 =>
    exfalso
    unfold srcR at h
    split at h <;> first | (cases h; done) | (split at h <;> cases h)
theorem rd_enum {w : Wd} {a : Ev} {Rr : It → Hp → Prop} (h : rdI w (enumE a) σ H Rr) : iEnumK w.K (tCons (rdR w a) tNil) σ H Rr := by
  obtain ⟨C, F, e, R, P⟩ := h
  refine rd_opd (bindI R P fun F1 H1 e1 r v h1 R1 E1 q1 P1 => ?_)
  obtain ⟨s, e2, h2, P2⟩ := srcR_ok (s := ⟨[], []⟩) P1
  obtain ⟨k, a, xs, C', rfl, R2, B, hd, hs⟩ := src_held R1 (opd_still h1) q1 h2
  exact ⟨k, a, xs, rfl, hs _ _ _ _ R2 (.refl F1), P2 C' _ F1 H1 R2 (.refl F1) B (itOk_enum hd hs)⟩
def zipD (xs ys : List D) : List D := (xs.zip ys).map fun p => .tuple [p.1, p.2]
def zipE (a b : Ev) : Sem1 Src := fun e => (opd a e).bind fun r e1 => (opd b e1).bind fun s e2 => (srcR r e2).bind fun x e3 => (srcR s e3).bind fun y e4 => .ok ⟨zipD x.items y.items, y.lend ++ x.lend⟩ e4
theorem zipD_len (xs ys : List D) : (zipD xs ys).length = min xs.length ys.length := by unfold zipD; rw [List.length_map, List.length_zip]
theorem zipD_get {xs ys : List D} {i : Nat} {x y : D} (h : xs[i]? = some x) (h' : ys[i]? = some y) : (zipD xs ys)[i]? = some (.tuple [x, y]) := by
  unfold zipD
  rw [List.getElem?_map, List.getElem?_zip_eq_some (z := (x, y)) |>.mpr ⟨h, h'⟩]; rfl
theorem itOk_zip {k1 k2 : Sk} {a b : Addr} {xs ys : List V} {ds es : List D} (hd : DpAll K F xs ds) (he : DpAll K F ys es) (hs : ∀ F2 H2 e2 σ2, Rp K C F2 H2 e2 σ2 → Ext F F2 → SqK K H2 k1 a xs ∧ SqK K H2 k2 b ys) : ItOk K C F (ItzK K k1 k2 a b) (zipD ds es) := by
  refine ⟨fun H => SqK K H k1 a xs ∧ SqK K H k2 b ys, _, by rw [zipD_len, ← hd.length, ← he.length]; exact walk_zipK, hs, fun i x H1 H2 F1 E E1 _ y hi => ?_⟩
  obtain ⟨T, x1, x2, rfl, hT, rfl, h1, h2⟩ := y
  obtain ⟨d, h3, h4⟩ := hd.get' h1
  obtain ⟨d2, h5, h6⟩ := he.get' h2
  exact ⟨_, zipD_get h3 h5, .tup hT (.cons (Dp.ext E h4) (.cons (Dp.ext E h6) .nil))⟩
theorem rd_zip {w : Wd} {a b : Ev} {Rr : It → Hp → Prop} (h : rdI w (zipE a b) σ H Rr) : iZipK w.K (tCons (rdR w a) (tCons (rdR w b) tNil)) σ H Rr := by
  obtain ⟨C, F, e, R, P⟩ := h
  refine rd_opd (bindI R P fun F1 H1 e1 r v h1 R1 E1 q1 P1 => ?_)
  refine rd_opd (bindI R1 P1 fun F2 H2 e2 s u h2 R2 E2 q2 P2 => ?_)
  obtain ⟨x, e3, h3, P3⟩ := srcR_ok (s := ⟨[], []⟩) P2
  obtain ⟨y, e4, h4, P4⟩ := srcR_ok (s := ⟨[], []⟩) P3
  obtain ⟨k1, a1, xs, C1, rfl, R3, B1, hd, hs⟩ := src_held R2 (opd_still h1) (RvR.later (opd_still h1) E2 q1) h3
  have q3 : RvR w.K C1 F2 H2 e3 σ s u := by
    cases s with
    | fz d => exact q2
    | fresh ds => cases opd_still h2
    | bor j => exact q2
  obtain ⟨k2, b1, ys, C2, rfl, R4, B2, he, hs2⟩ := src_held R3 (opd_still h2) q3 h4
  have both : ∀ F2' H2' e2' σ2', Rp w.K C2 F2' H2' e2' σ2' → Ext F2 F2' → SqK w.K H2' k1 a1 xs ∧ SqK w.K H2' k2 b1 ys := fun F' H' e' σ' R' E' => ⟨hs _ _ _ _ (B2.rp _ _ _ _ R') E', hs2 _ _ _ _ R' E'⟩
  have h0 := both _ _ _ _ R4 (.refl F2)
  exact ⟨k1, k2, a1, b1, xs, ys, rfl, h0.1, h0.2, P4 C2 _ F2 H2 R4 (.refl F2) (B1.trans B2) (itOk_zip hd he both)⟩
section
variable {X : Cx} {w : Wd} {a b c : Expr} {ea eb ec : Ev} {p pos tpos : Pos} {elts : List Expr} {kk : Nat} {tg : Expr}
theorem vi_enum (hw : w.K = X.K) (hg : Gl X "enumerate") (hm : X.mg "enumerate" = none) (ha : PE X a (rdR w ea)) (h1 : starEach [a] X.env = (false, eval a X.env) :: starEach [] X.env := by rfl) (hs : starEach [a] X.env = [(false, eval a X.env)] := by rfl) :
    PI X (.Tuple elts kk tpos) (.Call (.Name "enumerate" p) [a] [] pos) (rdI w (enumE ea)) := pi_mono (pi_enumK hg hm (pa_cons ha pa_nil h1) hs) fun _ _ _ q => hw ▸ rd_enum q
theorem vi_zip (hw : w.K = X.K) (hg : Gl X "zip") (hm : X.mg "zip" = none) (ha : PE X a (rdR w ea)) (hb : PE X b (rdR w eb)) (h1 : starEach [a, b] X.env = (false, eval a X.env) :: starEach [b] X.env := by rfl) (h2 : starEach [b] X.env = (false, eval b X.env) :: starEach [] X.env := by rfl)
    (hpl : (backTo pos (starEach [b] X.env)).any (·.1) = false := by rfl) : PI X (.Tuple elts kk tpos) (.Call (.Name "zip" p) [a, b] [] pos) (rdI w (zipE ea eb)) := pi_mono (pi_zipK hg hm (pa_cons ha (pa_cons hb pa_nil h2) h1) h1 hpl) fun _ _ _ q => hw ▸ rd_zip q
end
end VI
set_option Elab.async false
set_option linter.all false
set_option maxRecDepth 100000
set_option maxHeartbeats 4000000
namespace VI
open PySem PySem.Spec PyProof.Rows L2
variable {K : PySem.W.Frag} {C : Cf} {F H : Hp} {e e' : Env} {σ : L2.St}
def fmApp : FM := fun xs ds => match ds with
  | [d] => if xs.length < sizeLine then some (.none, xs ++ [d]) else none
  | _ => none
theorem m_app : MutS K fmApp rAppend := by
  intro F H p xs vs dx ds z dx' E hp pF hd hv hz Q k
  unfold fmApp at hz
  split at hz
  · split at hz
    · rename_i d hl
      cases hz
      cases hv with
      | cons h1 h2 =>
        cases h2
        exact ⟨p, xs, _, rfl, rfl, hp, by rw [hd.length]; exact hl, k _ _ .non (hd.append (.cons h1 .nil))⟩
    · cases hz
  · cases hz
def fmPop : FM := fun xs ds => match ds with
  | [] => (xs.getLast?).map fun d => (d, xs.dropLast)
  | _ => none
def fmRev : FM := fun xs ds => match ds with
  | [] => some (.none, xs.reverse)
  | _ => none
theorem m_rev : MutS K fmRev rReverse := by
  intro F H p xs vs dx ds z dx' E hp pF hd hv hz Q k
  unfold fmRev at hz
  split at hz
  · cases hz; cases hv
    exact ⟨p, xs, rfl, rfl, hp, k _ _ .non hd.reverse⟩
  · cases hz
structure DF (K : PySem.W.Frag) (mg : Str → Option Value) (x qual : Str) (st : Stmt) (ps : List Str) : Prop where
  ex : ∃ (f : Addr) (fd : FuncData), mg x = some (.ref f) ∧ PySem.W.keepIn K (.ref f) = true ∧ Binds K fd ps [] ∧ Fun K x qual st f fd
theorem DF.to {P : Program} {W : World} {mg : Str → Option Value} {base : Heap} {x qual : Str} {st : Stmt} {ps : List Str} {k n : Nat} {sp : Sp} (d : DF K mg x qual st ps) (hn : ps.length = n) (h : ∀ f fd, Fun K x qual st f fd → FnG P W K mg base k f fd ps sp) : Defn P W K mg base k x n sp := by
  obtain ⟨f, fd, h1, h2, h3, h4⟩ := d.ex
  exact ⟨f, fd, ps, h1, h2, h3, hn, h f fd h4⟩
theorem df_mk {mg : Str → Option Value} {h : Heap} {x qual : Str} {st : Stmt} {ps : List Str} {f : Addr} {oc : Value} {od an : Option Addr} {osl : Array (Option Value)} {kV doc pm cdv ct : Value} (X : K.In h) (G : h.Ns mainGlobals mg)
    (a : PySem.W.nsIn K mainGlobals x = some (some (.ref f))) (l : K.lookup f = some ⟨oc, od, .func (PySem.W.fnOf x qual (defArgs st) (defBody st) (defScope st) .none kV doc pm an cdv ct), osl⟩) (c : PySem.W.codeIn K cdv qual = true) (k : PySem.W.keepIn K (.ref f) = true)
    (hb : ∀ (kV doc pm : Value) (an : Option Addr) (cdv ct : Value) (us : List Value), us.length = ps.length → bindArgs (PySem.W.fnOf x qual (defArgs st) (defBody st) (defScope st) .none kV doc pm an cdv ct) ⟨us, []⟩ = pure (ps.zip us)) : DF K mg x qual st ps :=
  ⟨f, _, PySem.W.mg_of X G a, k, (fun_mk l c k).binds hb, fun_mk l c k⟩
theorem Defn.up {P : Program} {W : World} {mg : Str → Option Value} {base : Heap} {x : Str} {j k n : Nat} {sp : Sp} (d : Defn P W K mg base j x n sp) (h : j ≤ k) : Defn P W K mg base k x n sp := by
  obtain ⟨f, fd, ps, h1, h2, h3, h4, h5⟩ := d.ex
  exact ⟨f, fd, ps, h1, h2, h3, h4, h5.mono h⟩
/-- a promise that nobody asks for -/
theorem DF.no {P : Program} {W : World} {mg : Str → Option Value} {base : Heap} {x qual : Str} {st : Stmt} {ps : List Str} {k n : Nat} {XR : Hp → Hp → Xc → Value → Option Addr → Prop} (d : DF K mg x qual st ps) (hn : ps.length = n) : Defn P W K mg base k x n (spF K XR n fun _ => none) :=
  d.to hn fun f fd _ => ⟨fun vs H Q E h => by rw [hn]; exact h.1, fun A out s H given us vs Q E _ _ _ _ _ h => by obtain ⟨_, F, ds, _, _, _, z⟩ := h; exact z.elim⟩
theorem DF.noI {P : Program} {W : World} {mg : Str → Option Value} {base : Heap} {x qual : Str} {st : Stmt} {ps : List Str} {k n : Nat} {XR : Hp → Hp → Xc → Value → Option Addr → Prop} (d : DF K mg x qual st ps) (hn : ps.length = n) : Defn P W K mg base k x n (spI K XR n fun _ _ => none) :=
  d.to hn fun f fd _ => ⟨fun vs H Q E h => by rw [hn]; exact h.1, fun A out s H given us vs Q E _ _ _ _ _ h => by obtain ⟨_, p, ws, bs, F, b, ds, _, _, _, _, _, _, _, z⟩ := h; exact z.elim⟩
/-- within a block nothing is let out -/
theorem passF {X : Cx} (σ : L2.St) : PassesAt (L2.CX X.prog X.w) X σ (WE (fun _ _ _ _ => False) σ) := fun _ _ _ _ _ _ h => by
  obtain ⟨_, _, _, _, _, _, _, _, _, _, _, _, z⟩ := h
  exact z.elim
theorem u65 {k : Nat} {A : Around} (hr : Room k A) : A.units + 65 < cLine := Nat.lt_of_le_of_lt (Nat.add_le_add_left (by omega : 65 ≤ 16 * k + 200) _) (by have := hr.un; omega)
end VI
set_option Elab.async false
set_option linter.all false
set_option maxRecDepth 100000
set_option maxHeartbeats 4000000
namespace VI
open PySem PySem.Spec PyProof.Rows L2
variable {K : PySem.W.Frag} {C : Cf} {F H : Hp} {e e' : Env} {σ : L2.St}
section
variable {X : Cx}
end
def addI : F2 := ii fun i j => some (.int (i + j))
def mulI : F2 := ii fun i j => if mulOk i j then some (.int (i * j)) else none
def pick {α : Type} (is : List Nat) (l : List α) : List α := is.filterMap fun i => l[i]?
theorem vals_pick {vs : List V} {us : List Value} (h : Vals vs us) : ∀ is : List Nat, Vals (pick is vs) (pick is us)
  | [] => .nil
  | i :: is => by
    unfold pick
    rw [List.filterMap_cons, List.filterMap_cons]
    cases hv : vs[i]? with
    | none =>
      have : us[i]? = none := by rw [List.getElem?_eq_none_iff] at hv ⊢; rw [← h.length]; exact hv
      rw [this]; exact vals_pick h is
    | some v =>
      obtain ⟨u, hu, r⟩ := h.get hv
      rw [hu]; exact .cons r (vals_pick h is)
def KB (K : PySem.W.Frag) (fd : FuncData) (ps ks : List Str) (is : List Nat) : Prop := ∀ (s : Shared) (ws : List Value), K.In s.heap → ws.length = ks.length → BindsTo s fd ⟨[], ks.zip ws⟩ (ps.zip (pick is ws))
structure DefnK (P : Program) (W : World) (K : PySem.W.Frag) (mg : Str → Option Value) (base : Heap) (k : Nat) (x : Str) (ks : List Str) (is : List Nat) (sp : Sp) : Prop where
  ex : ∃ (f : Addr) (fd : FuncData) (ps : List Str), mg x = some (.ref f) ∧ PySem.W.keepIn K (.ref f) = true ∧ KB K fd ps ks is ∧ FnG P W K mg base k f fd ps sp
structure DFK (K : PySem.W.Frag) (mg : Str → Option Value) (x qual : Str) (st : Stmt) (ps ks : List Str) (is : List Nat) : Prop where
  ex : ∃ (f : Addr) (fd : FuncData), mg x = some (.ref f) ∧ PySem.W.keepIn K (.ref f) = true ∧ KB K fd ps ks is ∧ Fun K x qual st f fd
theorem DFK.to {P : Program} {W : World} {mg : Str → Option Value} {base : Heap} {x qual : Str} {st : Stmt} {ps ks : List Str} {is : List Nat} {k : Nat} {sp : Sp} (d : DFK K mg x qual st ps ks is) (h : ∀ f fd, Fun K x qual st f fd → FnG P W K mg base k f fd ps sp) : DefnK P W K mg base k x ks is sp := by
  obtain ⟨f, fd, h1, h2, h3, h4⟩ := d.ex
  exact ⟨f, fd, ps, h1, h2, h3, h f fd h4⟩
theorem dfk_mk {mg : Str → Option Value} {h : Heap} {x qual : Str} {st : Stmt} {ps ks : List Str} {is : List Nat} {f : Addr} {oc : Value} {od an : Option Addr} {osl : Array (Option Value)} {kV doc pm cdv ct : Value} (X : K.In h) (G : h.Ns mainGlobals mg)
    (a : PySem.W.nsIn K mainGlobals x = some (some (.ref f))) (l : K.lookup f = some ⟨oc, od, .func (PySem.W.fnOf x qual (defArgs st) (defBody st) (defScope st) .none kV doc pm an cdv ct), osl⟩) (c : PySem.W.codeIn K cdv qual = true) (k : PySem.W.keepIn K (.ref f) = true)
    (hb : ∀ (ws : List Value), ws.length = ks.length → bindArgs (PySem.W.fnOf x qual (defArgs st) (defBody st) (defScope st) .none kV doc pm an cdv ct) ⟨[], ks.zip ws⟩ = pure (ps.zip (pick is ws))) : DFK K mg x qual st ps ks is :=
  ⟨f, _, PySem.W.mg_of X G a, k, fun s ws _ hl => .of_eq (hb ws hl), fun_mk l c k⟩
def eFK (fn : List D → Option Ret) (is : List Nat) (n : Nat) (as : Sem1 (List D)) : Ev := fun e => (as e).bind fun ds e1 => if ds.length = n then match fn (pick is ds) with
  | none => .no
  | some (.ok r) => .ok r e1
  | some (.ex x) => .ex x e1 else .no
theorem DpAll.pick {vs : List V} {ds : List D} (h : DpAll K F vs ds) : ∀ is : List Nat, DpAll K F (VI.pick is vs) (VI.pick is ds)
  | [] => .nil
  | i :: is => by
    unfold VI.pick
    rw [List.filterMap_cons, List.filterMap_cons]
    cases hv : ds[i]? with
    | none =>
      have : vs[i]? = none := by rw [List.getElem?_eq_none_iff] at hv ⊢; rw [h.length]; exact hv
      rw [this]; exact DpAll.pick h is
    | some v =>
      obtain ⟨u, hu, r⟩ := h.get hv
      rw [hu]; exact .cons r (DpAll.pick h is)
def tCallKS (sp : Sp) (is : List Nat) (n : Nat) (E : L2.St → XK) (t : TA) : TE := fun σ H Q => t σ H fun vs H1 => vs.length = n ∧ sp (pick is vs) H1 Q (E σ)
theorem rd_callK {w : Wd} {m n : Nat} {fn : List D → Option Ret} {is : List Nat} {as : Sem1 (List D)} (hp : ∀ ds : List D, ds.length = n → (pick is ds).length = m) {Q : VK} (h : rdR w (eFK fn is n as) σ H Q) : tCallKS (spF w.K w.XR m fn) is n (WE w.W) (rdDs w as) σ H Q := by
  obtain ⟨C, F, e, R, P⟩ := h
  refine bindP R P fun F1 H1 e1 ds vs h1 R1 E1 q1 P1 => ?_
  split at P1
  · rename_i hn
    refine ⟨by rw [q1.length]; exact hn, by rw [(DpAll.pick q1 is).length]; exact hp ds hn, F1, _, R1.ext, R1.tup, DpAll.pick q1 is, ?_⟩
    split at P1
    · exact P1.elim
    · rename_i r hf
      simp only [hf]
      exact fun v F' H' A q => P1 v F' H' (R1.after A) A.ext (q.rv R1 A)
    · rename_i x hf
      simp only [hf]
      exact fun F' H' cv od A q => P1 F' H' cv od (R1.after A) A.ext q
  · exact P1.elim
section
variable {X : Cx} {W : WX} {XR : Hp → Hp → Xc → Value → Option Addr → Prop} {k m n : Nat} {x : Str} {p pos kpos : Pos} {kws : List Keyword} {ks : List Str} {is : List Nat} {ex : Expr} {nm : Option Str} {a : Ev} {as : List Ev} {w : Wd}
theorem pk_mono {t t' : TA} (h : PK X kws t) (w : ∀ σ H Q, t' σ H Q → t σ H Q) : PK X kws t' := ⟨fun pos pins s σ H Q I q => h.run pos pins s σ H Q I (w σ H Q q)⟩
theorem vk_nil : PK X [] (rdDs w (toDs [])) := pk_mono pk_nil fun _ _ _ h => rd_toDs_nil h
theorem vk_cons (ha : PE X ex (rdR w a)) (hr : PK X kws (rdDs w (toDs as))) : PK X (⟨nm, ex, kpos⟩ :: kws) (rdDs w (toDs (a :: as))) := pk_mono (pk_cons ha hr) fun _ _ _ h => rd_toDs_cons h
theorem ve_callK {fn : List D → Option Ret} (d : DefnK X.prog X.w X.K X.mg X.base k x ks is (spF X.K XR m fn)) (hr : Room k X.A) (hu : X.A.guards = some []) (hg : Gl X x) (hx : ∀ σ, PassesAt (L2.CX X.prog X.w) X σ (WE W σ)) (hn : ks.length = n) (hp : ∀ ds : List D, ds.length = n → (pick is ds).length = m)
    (ha : PK X kws (rdDs (wd X W XR) (toDs as))) (hall : (backToKw pos (keywordEach kws X.env)).all (·.1.isSome) = true := by rfl) (hks : (backToKw pos (keywordEach kws X.env)).filterMap (·.1) = ks := by rfl) (hdb : (x == ("__debug__" : Str)) = false := by decide)
    (hpl : ((backTo pos (starEach [] X.env)).any (·.1) || (backToKw pos (keywordEach kws X.env)).any (·.1.isNone)) = false := by rfl) : PE X (.Call (.Name x p) [] kws pos) (rdR (wd X W XR) (eFK fn is n (toDs as))) := by
  obtain ⟨f, fd, ps, hm, hk, hb, G⟩ := d.ex
  have base : PE X (.Call (.Name x p) [] kws pos) (tCallKS (spF X.K XR m fn) is n (WE W) (rdDs (wd X W XR) (toDs as))) := ⟨fun pins s σ H Q I h => by
    refine wpAny_Call_Name_kw (ld_glob I hg hm ?_ hdb)
    refine PySem.W.callWith_KW0 (h₀ := X.base) I.ok.mod.kin hk hall (thn (ha.run pos pins s σ H _ I h) fun ws s2 ⟨zs, H2, I2, rz, hl, q2⟩ => ⟨I2.kIn, ?_⟩) hpl
    rw [hks]
    have r2 := vals_pick rz is
    refine wpAny_call (codeAny_mono (G.run X.A X.stack s2 H2 ⟨[], ks.zip ws⟩ (pick is ws) (pick is zs) Q (WE W σ) hr hu I2.env0 (hb s2 ws I2.kIn (by rw [← rz.length, hl, hn])) r2 q2) fun r s3 hc => ?_)
    match r, hc with
    | .ok (.ret u), hc => exact cr_ends I2 (hx σ) hc
    | .ok .next, hc => exact False.elim hc
    | .ok .brk, hc => exact False.elim hc
    | .ok .cont, hc => exact False.elim hc
    | .error z, hc => exact cr_ends I2 (hx σ) hc⟩
  exact pe_mono base fun _ _ _ h => rd_callK hp h
end
section
variable {prog : Program} {w : World} {A : Around} {E : Value → Shared → Prop} {s : Shared}
end
def revD : F1 := fun d => match d with
  | .list ds => some (.fresh ds.reverse)
  | .tuple ds => some (.fz (.tuple ds.reverse))
  | _ => none
end VI
set_option Elab.async false
set_option linter.all false
namespace VI
open PySem PySem.Spec PyProof.Rows L2
theorem bb_len : bootBuiltins "len" = some (.builtin "len") := by decide +kernel
theorem bb_abs : bootBuiltins "abs" = some (.builtin "abs") := by decide +kernel
theorem bb_all : bootBuiltins "all" = some (.builtin "all") := by decide +kernel
theorem bb_any : bootBuiltins "any" = some (.builtin "any") := by decide +kernel
theorem bb_tuple : bootBuiltins "tuple" = some (.type "tuple") := by decide +kernel
theorem bb_list : bootBuiltins "list" = some (.type "list") := by decide +kernel
theorem bb_int : bootBuiltins "int" = some (.type "int") := by decide +kernel
theorem bb_str : bootBuiltins "str" = some (.type "str") := by decide +kernel
theorem bb_bool : bootBuiltins "bool" = some (.type "bool") := by decide +kernel
/-- the law's own def: what it gives at every script, told to the end -/
theorem law_fn {P : Program} {W : World} {K : PySem.W.Frag} {mg : Str → Option Value} {base : Heap} {XR : Hp → Hp → Xc → Value → Option Addr → Prop} {k n : Nat} {f : Addr} {fd : FuncData} {x : Str} {fn : List D → Option Ret} (G : FnG P W K mg base k f fd [x] (spF K XR 1 fn))
    (hl : ∀ ns : List Int, ns.length ≤ n → (∀ k ∈ ns, Builtin.Int.intBits k ≤ 1048576) → fn [.list (ns.map .int)] = some (.ok (.fz (.bool true)))) : FnG P W K mg base k f fd [x] (spLaw n) where
  len := fun vs H Q E ⟨a, o, ns, h, _⟩ => by subst h; rfl
  run := fun A out s H given us vs Q E hr hu e0 bnd rv ⟨a, o, ns, h, h1, h2, h3, h4⟩ => by
    subst h h3
    refine G.run A out s _ given us _ Q E hr hu e0 bnd rv ⟨rfl, scriptHp a o ns, [.list (ns.map .int)], .refl _, fun b xs z => z, .cons (.lst (.inr ⟨o, scriptHp_at⟩) (DpAll.of_ints ns)) .nil, ?_⟩
    rw [hl ns h1 h2]
    intro v F' H' _ q
    have q : Dp K F' v (.bool true) := q
    cases q
    exact h4 H'
end VI
set_option Elab.async false
set_option linter.all false
set_option maxRecDepth 100000
set_option maxHeartbeats 4000000
namespace VI
open PySem PySem.Spec PyProof.Rows L2
abbrev Po (α : Type) := α → Env → Prop
/-- it ends well, and so -/
def Ok {α : Type} (r : Rs α) (Q : Po α) : Prop := match r with
  | .ok a e => Q a e
  | _ => False
section
variable {α β : Type} {e : Env} {i j : Nat} {d x y : D} {ds xs : List D} {r : Rv} {rs : List Rv} {o : Option (Option Sv)} {a b c : Ev} {as : List Ev} {f g : F2} {f1 : F1} {fb : List D → Option Rv} {s t u : Sem1 Bool} {p q : St1} {ps : List St1}
@[simp] theorem ok_ok {z : α} {Q : Po α} : Ok (.ok z e) Q = Q z e := rfl
@[simp] theorem ok_no {Q : Po α} : Ok .no Q = False := rfl
theorem ok_bind {z : Rs α} {k : α → Env → Rs β} {Q : Po β} : Ok (z.bind k) Q = Ok z (fun w e => Ok (k w e) Q) := by cases z <;> rfl
@[simp] theorem ok_ite {m : Prop} [Decidable m] {z w : Rs α} {Q : Po α} : Ok (if m then z else w) Q = if m then Ok z Q else Ok w Q := by split <;> rfl
theorem Ok.mono {z : Rs α} {Q Q' : Po α} (h : Ok z Q) (k : ∀ w e, Q w e → Q' w e) : Ok z Q' := by
  cases z with
  | ok w e => exact k w e h
  | no => exact h
  | ex w e => exact h
theorem ok_get {z : Rs α} {Q : Po α} (h : Ok z Q) : ∃ w e, z = .ok w e ∧ Q w e := by
  cases z with
  | ok w e => exact ⟨w, e, rfl, h⟩
  | no => exact h.elim
  | ex w e => exact h.elim
def okO (z : Option α) (e : Env) (Q : Po α) : Prop := match z with
  | none => False
  | some w => Q w e
@[simp] theorem okO_some {w : α} {Q : Po α} : okO (some w) e Q = Q w e := rfl
@[simp] theorem okO_none {Q : Po α} : okO none e Q = False := rfl
@[simp] theorem okO_ite {m : Prop} [Decidable m] {z w : Option α} {Q : Po α} : okO (if m then z else w) e Q = if m then okO z e Q else okO w e Q := by split <;> rfl
@[simp] theorem ok_ofO {z : Option α} {Q : Po α} : Ok (ofO z e) Q = okO z e Q := by cases z <;> rfl
def okL (o : Option (Option Sv)) (i : Nat) (e : Env) (Q : Po Rv) : Prop := match o with
  | some (some (.fz d)) => Q (.fz d) e
  | some (some _) => Q (.bor i) e
  | _ => False
@[simp] theorem okL_fz {Q : Po Rv} : okL (some (some (.fz d))) i e Q = Q (.fz d) e := rfl
@[simp] theorem okL_own {Q : Po Rv} : okL (some (some (.own ds))) i e Q = Q (.bor i) e := rfl
@[simp] theorem okL_lent {Q : Po Rv} : okL (some (some (.lent ds))) i e Q = Q (.bor i) e := rfl
@[simp] theorem okL_io {Q : Po Rv} : okL (some (some (.io ds))) i e Q = Q (.bor i) e := rfl
@[simp] theorem ok_V {Q : Po Rv} : Ok (eV i e) Q = okL e[i]? i e Q := by
  unfold eV okL
  cases e[i]? with
  | none => rfl
  | some z => cases z with
    | none => rfl
    | some y => cases y <;> rfl
@[simp] theorem ok_C {Q : Po Rv} : Ok (eC d e) Q = Q (.fz d) e := rfl
@[simp] theorem calm_fz : calmR (.fz d) = .fz d := rfl
@[simp] theorem calm_fresh : calmR (.fresh ds) = .fz (.list ds) := rfl
@[simp] theorem calm_bor : calmR (.bor i) = .bor i := rfl
def kOpd (Q : Po Rv) : Po Rv := fun r e => Q (calmR r) e
@[simp] theorem kOpd_eq {Q : Po Rv} : kOpd Q r e = Q (calmR r) e := rfl
@[simp] theorem ok_opd {Q : Po Rv} : Ok (opd a e) Q = Ok (a e) (kOpd Q) := by unfold opd; rw [ok_bind]; rfl
def okF (o : Option (Option Sv)) (i : Nat) (e : Env) (Q : Po D) : Prop := match o with
  | some (some (.fz d)) => Q d e
  | some (some (.own ds)) => Q (.list ds) (e.set i (some (.fz (.list ds))))
  | _ => False
@[simp] theorem okF_fz {Q : Po D} : okF (some (some (.fz d))) i e Q = Q d e := rfl
@[simp] theorem okF_own {Q : Po D} : okF (some (some (.own ds))) i e Q = Q (.list ds) (e.set i (some (.fz (.list ds)))) := rfl
def kFrz (Q : Po D) : Po Rv := fun r e => Ok (frz r e) Q
@[simp] theorem kFrz_fz {Q : Po D} : kFrz Q (.fz d) e = Q d e := rfl
@[simp] theorem kFrz_fresh {Q : Po D} : kFrz Q (.fresh ds) e = Q (.list ds) e := rfl
@[simp] theorem kFrz_bor {Q : Po D} : kFrz Q (.bor i) e = okF e[i]? i e Q := by
  unfold kFrz frz okF
  simp only
  cases e[i]? with
  | none => rfl
  | some z => cases z with
    | none => rfl
    | some y => cases y <;> rfl
@[simp] theorem ok_toD {Q : Po D} : Ok (toD a e) Q = Ok (a e) (kFrz Q) := by unfold toD; rw [ok_bind]; rfl
def lookD (o : Option (Option Sv)) : Option D := match o with
  | some (some (.fz d)) => some d
  | some (some (.own ds)) => some (.list ds)
  | some (some (.lent ds)) => some (.list ds)
  | some (some (.io ds)) => some (.list ds)
  | _ => none
@[simp] theorem peek_fz : peek (.fz d) e = some d := rfl
@[simp] theorem peek_fresh : peek (.fresh ds) e = some (.list ds) := rfl
@[simp] theorem peek_bor : peek (.bor i) e = lookD e[i]? := rfl
@[simp] theorem lookD_fz : lookD (some (some (.fz d))) = some d := rfl
@[simp] theorem lookD_own : lookD (some (some (.own ds))) = some (.list ds) := rfl
@[simp] theorem lookD_lent : lookD (some (some (.lent ds))) = some (.list ds) := rfl
@[simp] theorem lookD_io : lookD (some (some (.io ds))) = some (.list ds) := rfl
def kDs2 (x : D) (Q : Po (List D)) : Po (List D) := fun xs e => Q (x :: xs) e
@[simp] theorem kDs2_eq {Q : Po (List D)} : kDs2 x Q xs e = Q (x :: xs) e := rfl
def kDs1 (as : List Ev) (Q : Po (List D)) : Po D := fun x e => Ok (toDs as e) (kDs2 x Q)
@[simp] theorem kDs1_eq {Q : Po (List D)} : kDs1 as Q x e = Ok (toDs as e) (kDs2 x Q) := rfl
@[simp] theorem ok_toDs_nil {Q : Po (List D)} : Ok (toDs [] e) Q = Q [] e := rfl
@[simp] theorem ok_toDs {Q : Po (List D)} : Ok (toDs (a :: as) e) Q = Ok (a e) (kFrz (kDs1 as Q)) := by
  unfold toDs
  rw [ok_bind, ok_toD]
  congr 2
  funext x e1
  rw [ok_bind]; rfl
def kRs2 (x : Rv) (Q : Po (List Rv)) : Po (List Rv) := fun xs e => Q (x :: xs) e
@[simp] theorem kRs2_eq {Q : Po (List Rv)} : kRs2 r Q rs e = Q (r :: rs) e := rfl
def kRs1 (as : List Ev) (Q : Po (List Rv)) : Po Rv := fun x e => Ok (opds as e) (kRs2 x Q)
@[simp] theorem kRs1_eq {Q : Po (List Rv)} : kRs1 as Q r e = Ok (opds as e) (kRs2 r Q) := rfl
@[simp] theorem ok_opds_nil {Q : Po (List Rv)} : Ok (opds [] e) Q = Q [] e := rfl
@[simp] theorem ok_opds {Q : Po (List Rv)} : Ok (opds (a :: as) e) Q = Ok (a e) (kOpd (kRs1 as Q)) := by
  unfold opds
  rw [ok_bind, ok_opd]
  congr 2
  funext x e1
  rw [ok_bind]; rfl
@[simp] theorem peeks_nil : peeks [] e = some [] := rfl
@[simp] theorem peeks_cons : peeks (r :: rs) e = (peek r e).bind fun d => (peeks rs e).bind fun ds => some (d :: ds) := rfl
@[simp] theorem ap2_eq {x y : Rv} : ap2 f x y e = (peek x e).bind fun dx => (peek y e).bind fun dy => f dx dy := rfl
@[simp] theorem ap1_eq {x : Rv} : ap1 f1 x e = (peek x e).bind f1 := rfl
def kB2 (f : F2) (x : Rv) (Q : Po Rv) : Po Rv := kOpd fun y e2 => Ok (ofO (ap2 f x y e2) e2) Q
def kB1 (f : F2) (b : Ev) (Q : Po Rv) : Po Rv := kOpd fun x e1 => Ok ((opd b e1).bind fun y e2 => ofO (ap2 f x y e2) e2) Q
@[simp] theorem kB2_eq {x : Rv} {Q : Po Rv} : kB2 f x Q r e = okO (ap2 f x (calmR r) e) e Q := ok_ofO
@[simp] theorem kB1_eq {Q : Po Rv} : kB1 f b Q r e = Ok (b e) (kB2 f (calmR r) Q) := by
  show Ok ((opd b e).bind fun y e2 => ofO (ap2 f (calmR r) y e2) e2) Q = _
  rw [ok_bind, ok_opd]; rfl
@[simp] theorem ok_bin {Q : Po Rv} : Ok (bin2 f a b e) Q = Ok (a e) (kB1 f b Q) := by unfold bin2; rw [ok_bind, ok_opd]; rfl
def kU (f1 : F1) (Q : Po Rv) : Po Rv := kOpd fun x e1 => Ok (ofO (ap1 f1 x e1) e1) Q
@[simp] theorem kU_eq {Q : Po Rv} : kU f1 Q r e = okO (ap1 f1 (calmR r) e) e Q := ok_ofO
@[simp] theorem ok_un {Q : Po Rv} : Ok (un1 f1 a e) Q = Ok (a e) (kU f1 Q) := by unfold un1; rw [ok_bind, ok_opd]; rfl
def kBl (fb : List D → Option Rv) (Q : Po Rv) : Po (List Rv) := fun rs e => okO ((peeks rs e).bind fb) e Q
@[simp] theorem kBl_eq {Q : Po Rv} : kBl fb Q rs e = okO ((peeks rs e).bind fb) e Q := rfl
@[simp] theorem ok_B {k : Sem1 (List Rv)} {Q : Po Rv} : Ok (eB fb k e) Q = Ok (k e) (kBl fb Q) := by
  unfold eB
  rw [ok_bind]
  congr 1
  funext rs e1
  exact ok_ofO
@[simp] theorem on1_eq {h : D → Option Rv} : on1 h [d] = h d := rfl
@[simp] theorem on2_eq {h : D → D → Option Rv} : on2 h [x, y] = h x y := rfl
def kTup (Q : Po Rv) : Po (List D) := fun ds e => ds.length ≤ sizeLine ∧ Q (.fz (.tuple ds)) e
@[simp] theorem kTup_eq {Q : Po Rv} : kTup Q ds e = (ds.length ≤ sizeLine ∧ Q (.fz (.tuple ds)) e) := rfl
@[simp] theorem ok_tup {k : Sem1 (List D)} {Q : Po Rv} : Ok (eTup k e) Q = Ok (k e) (kTup Q) := by
  unfold eTup
  rw [ok_bind]
  congr 1
  funext ds e1
  by_cases h : ds.length ≤ sizeLine <;> simp [h]
def kLst (Q : Po Rv) : Po (List D) := fun ds e => ds.length ≤ sizeLine ∧ Q (.fresh ds) e
@[simp] theorem kLst_eq {Q : Po Rv} : kLst Q ds e = (ds.length ≤ sizeLine ∧ Q (.fresh ds) e) := rfl
@[simp] theorem ok_lst {k : Sem1 (List D)} {Q : Po Rv} : Ok (eLst k e) Q = Ok (k e) (kLst Q) := by
  unfold eLst
  rw [ok_bind]
  congr 1
  funext ds e1
  by_cases h : ds.length ≤ sizeLine <;> simp [h]
def okI (r : Rv) (e : Env) (Q : Po (Option Int)) : Prop := match r with
  | .fz (.int i) => Q (some i) e
  | _ => False
@[simp] theorem okI_eq {z : Int} {Q : Po (Option Int)} : okI (.fz (.int z)) e Q = Q (some z) e := rfl
def kI (Q : Po (Option Int)) : Po Rv := fun r e => okI (calmR r) e Q
@[simp] theorem kI_eq {Q : Po (Option Int)} : kI Q r e = okI (calmR r) e Q := rfl
@[simp] theorem ok_opI0 {Q : Po (Option Int)} : Ok (opI none e) Q = Q none e := rfl
@[simp] theorem ok_opI1 {Q : Po (Option Int)} : Ok (opI (some a) e) Q = Ok (a e) (kI Q) := by
  show Ok ((opd a e).bind _) Q = _
  rw [ok_bind, ok_opd]
  congr 2
  funext r e1
  cases r with
  | fz d => cases d <;> rfl
  | fresh _ => rfl
  | bor _ => rfl
def kS3 (x : Rv) (l : Option Int) (Q : Po Rv) : Po (Option Int) := fun u e => okO ((peek x e).bind fun dx => slD dx l u) e Q
def kS2 (x : Rv) (hi : Option Ev) (Q : Po Rv) : Po (Option Int) := fun l e => Ok (opI hi e) (kS3 x l Q)
def kS1 (lo hi : Option Ev) (Q : Po Rv) : Po Rv := fun r e => Ok (opI lo e) (kS2 (calmR r) hi Q)
@[simp] theorem kS3_eq {x : Rv} {l u : Option Int} {Q : Po Rv} : kS3 x l Q u e = okO ((peek x e).bind fun dx => slD dx l u) e Q := rfl
@[simp] theorem kS2_eq {x : Rv} {l : Option Int} {hi : Option Ev} {Q : Po Rv} : kS2 x hi Q l e = Ok (opI hi e) (kS3 x l Q) := rfl
@[simp] theorem kS1_eq {lo hi : Option Ev} {Q : Po Rv} : kS1 lo hi Q r e = Ok (opI lo e) (kS2 (calmR r) hi Q) := rfl
@[simp] theorem ok_sl {lo hi : Option Ev} {Q : Po Rv} : Ok (slE a lo hi e) Q = Ok (a e) (kS1 lo hi Q) := by
  unfold slE
  rw [ok_bind, ok_opd]
  congr 1
  funext r e1
  show Ok ((opI lo e1).bind _) Q = _
  rw [ok_bind]
  show _ = Ok (opI lo e1) _
  congr 1
  funext l e2
  rw [ok_bind]
  show _ = Ok (opI hi e2) _
  congr 1
  funext u e3
  exact ok_ofO
def okB (r : Rv) (e : Env) (Q : Po Bool) : Prop := match r with
  | .fz (.bool b) => Q b e
  | _ => False
@[simp] theorem okB_eq {z : Bool} {Q : Po Bool} : okB (.fz (.bool z)) e Q = Q z e := rfl
def kT (Q : Po Bool) : Po Rv := fun r e => okB r e Q
@[simp] theorem kT_eq {Q : Po Bool} : kT Q r e = okB r e Q := rfl
@[simp] theorem ok_tst {Q : Po Bool} : Ok (tst a e) Q = Ok (a e) (kT Q) := by
  unfold tst
  rw [ok_bind]
  congr 1
  funext r e1
  cases r with
  | fz d => cases d <;> rfl
  | fresh _ => rfl
  | bor _ => rfl
def kIf (p q : Sem1 α) (Q : Po α) : Po Bool := fun z e => if z then Ok (p e) Q else Ok (q e) Q
@[simp] theorem kIf_t {p q : Sem1 α} {Q : Po α} : kIf p q Q true e = Ok (p e) Q := rfl
@[simp] theorem kIf_f {p q : Sem1 α} {Q : Po α} : kIf p q Q false e = Ok (q e) Q := rfl
@[simp] theorem kIf_d {m : Prop} [Decidable m] {p q : Sem1 α} {Q : Po α} : kIf p q Q (decide m) e = if m then Ok (p e) Q else Ok (q e) Q := by by_cases h : m <;> simp [h, kIf]
@[simp] theorem kIf_n {z : Bool} {p q : Sem1 α} {Q : Po α} : kIf p q Q (!z) e = kIf q p Q z e := by cases z <;> rfl
def cT (z : Bool) : Sem1 Bool := fun e => .ok z e
@[simp] theorem ok_cT {z : Bool} {Q : Po Bool} : Ok (cT z e) Q = Q z e := rfl
def cV (z : Bool) : Ev := fun e => .ok (.fz (.bool z)) e
@[simp] theorem ok_cV {z : Bool} {Q : Po Rv} : Ok (cV z e) Q = Q (.fz (.bool z)) e := rfl
theorem ok_if2 {z : Rs Bool} {p q : Sem1 α} {Q : Po α} : Ok (z.bind fun w e1 => if w then p e1 else q e1) Q = Ok z (kIf p q Q) := by
  rw [ok_bind]
  congr 1
  funext w e1
  cases w <;> rfl
@[simp] theorem ok_and {Q : Po Bool} : Ok (andT s t e) Q = Ok (s e) (kIf t (cT false) Q) := ok_if2 (q := cT false)
@[simp] theorem ok_or {Q : Po Bool} : Ok (orT s t e) Q = Ok (s e) (kIf (cT true) t Q) := ok_if2 (p := cT true)
def kNot (Q : Po Bool) : Po Bool := fun z e => Q (!z) e
@[simp] theorem kNot_eq {z : Bool} {Q : Po Bool} : kNot Q z e = Q (!z) e := rfl
@[simp] theorem ok_not {Q : Po Bool} : Ok (notT s e) Q = Ok (s e) (kNot Q) := by unfold notT; rw [ok_bind]; rfl
@[simp] theorem ok_andV {Q : Po Rv} : Ok (andV a b e) Q = Ok (a e) (kT (kIf b (cV false) Q)) := by
  rw [← ok_tst]; exact ok_if2 (q := cV false)
@[simp] theorem ok_orV {Q : Po Rv} : Ok (orV a b e) Q = Ok (a e) (kT (kIf (cV true) b Q)) := by
  rw [← ok_tst]; exact ok_if2 (p := cV true)
def kNotV (Q : Po Rv) : Po Bool := fun z e => Q (.fz (.bool (!z))) e
@[simp] theorem kNotV_eq {z : Bool} {Q : Po Rv} : kNotV Q z e = Q (.fz (.bool (!z))) e := rfl
@[simp] theorem ok_notV {Q : Po Rv} : Ok (notV a e) Q = Ok (a e) (kT (kNotV Q)) := by unfold notV; rw [ok_bind, ok_tst]; rfl
@[simp] theorem ok_iteV {Q : Po Rv} : Ok (iteV s a b e) Q = Ok (s e) (kIf a b Q) := ok_if2
@[simp] theorem ok_yes {Q : Po Bool} : Ok (yesT e) Q = Q true e := rfl
def kSeq (q : St1) (Q : Po Fl) : Po Fl := fun w e => match w with
  | .nx => Ok (q e) Q
  | w => Q w e
@[simp] theorem kSeq_nx {Q : Po Fl} : kSeq q Q .nx e = Ok (q e) Q := rfl
@[simp] theorem kSeq_bk {Q : Po Fl} : kSeq q Q .bk e = Q .bk e := rfl
@[simp] theorem kSeq_ct {Q : Po Fl} : kSeq q Q .ct e = Q .ct e := rfl
@[simp] theorem kSeq_ret {Q : Po Fl} : kSeq q Q (.ret r) e = Q (.ret r) e := rfl
theorem ok_seq {Q : Po Fl} : Ok (seqS p q e) Q = Ok (p e) (kSeq q Q) := by
  unfold seqS
  rw [ok_bind]
  congr 1
  funext w e1
  cases w <;> rfl
@[simp] theorem ok_blk0 {Q : Po Fl} : Ok (block [] e) Q = Q .nx e := rfl
@[simp] theorem ok_blk1 {Q : Po Fl} : Ok (block [p] e) Q = Ok (p e) Q := rfl
@[simp] theorem ok_blk {Q : Po Fl} : Ok (block (p :: q :: ps) e) Q = Ok (p e) (kSeq (block (q :: ps)) Q) := ok_seq
@[simp] theorem ok_skip {Q : Po Fl} : Ok (skipS e) Q = Q .nx e := rfl
def okP (o : Option (Option Sv)) (i : Nat) (z : Sv) (e : Env) (Q : Po Fl) : Prop := match o with
  | some (some (.lent _)) => False
  | some (some (.io _)) => False
  | some (some (.tr _ _)) => False
  | some _ => Q .nx (e.set i (some z))
  | none => False
@[simp] theorem okP_none {z : Sv} {Q : Po Fl} : okP (some none) i z e Q = Q .nx (e.set i (some z)) := rfl
@[simp] theorem okP_fz {z : Sv} {Q : Po Fl} : okP (some (some (.fz d))) i z e Q = Q .nx (e.set i (some z)) := rfl
@[simp] theorem okP_own {z : Sv} {Q : Po Fl} : okP (some (some (.own ds))) i z e Q = Q .nx (e.set i (some z)) := rfl
theorem okP_eq {z : Sv} {Q : Po Fl} : Ok (if freeAt e i then .ok .nx (e.set i (some z)) else .no : Rs Fl) Q = okP e[i]? i z e Q := by
  unfold freeAt
  cases e[i]? with
  | none => rfl
  | some o => cases o with
    | none => rfl
    | some y => cases y <;> rfl
def kSt (i : Nat) (Q : Po Fl) : Po Rv := fun r e => Ok (store i r e) Q
@[simp] theorem kSt_fz {Q : Po Fl} : kSt i Q (.fz d) e = okP e[i]? i (.fz d) e Q := okP_eq
@[simp] theorem kSt_fresh {Q : Po Fl} : kSt i Q (.fresh ds) e = okP e[i]? i (.own ds) e Q := okP_eq
def kSt2 (i : Nat) (Q : Po Fl) : Po D := fun d e => okP e[i]? i (.fz d) e Q
@[simp] theorem kSt2_eq {Q : Po Fl} : kSt2 i Q d e = okP e[i]? i (.fz d) e Q := rfl
@[simp] theorem kSt_bor {Q : Po Fl} : kSt i Q (.bor j) e = okF e[j]? j e (kSt2 i Q) := by
  show Ok ((frz (.bor j) e).bind _) Q = _
  rw [ok_bind, ← kFrz_bor]
  show _ = Ok (frz (.bor j) e) _
  congr 1
  funext d e1
  exact okP_eq
@[simp] theorem ok_asg {Q : Po Fl} : Ok (asgS i a e) Q = Ok (a e) (kSt i Q) := by unfold asgS; rw [ok_bind]; rfl
@[simp] theorem ok_if {Q : Po Fl} : Ok (ifS s p q e) Q = Ok (s e) (kIf p q Q) := ok_if2
def kEx (Q : Po Fl) : Po Rv := fun _ e => Q .nx e
@[simp] theorem kEx_eq {Q : Po Fl} : kEx Q r e = Q .nx e := rfl
@[simp] theorem ok_expr {Q : Po Fl} : Ok (exprS a e) Q = Ok (a e) (kEx Q) := by unfold exprS; rw [ok_bind]; rfl
def okR (o : Option (Option Sv)) (i : Nat) (e : Env) (Q : Po Fl) : Prop := match o with
  | some (some (.own ds)) => Q (.ret (.fresh ds)) (e.set i none)
  | some (some (.fz d)) => Q (.ret (.fz d)) e
  | _ => False
@[simp] theorem okR_own {Q : Po Fl} : okR (some (some (.own ds))) i e Q = Q (.ret (.fresh ds)) (e.set i none) := rfl
@[simp] theorem okR_fz {Q : Po Fl} : okR (some (some (.fz d))) i e Q = Q (.ret (.fz d)) e := rfl
def kRet (Q : Po Fl) : Po Rv := fun r e => match r with
  | .fz d => Q (.ret (.fz d)) e
  | .fresh ds => Q (.ret (.fresh ds)) e
  | .bor i => okR e[i]? i e Q
@[simp] theorem kRet_fz {Q : Po Fl} : kRet Q (.fz d) e = Q (.ret (.fz d)) e := rfl
@[simp] theorem kRet_fresh {Q : Po Fl} : kRet Q (.fresh ds) e = Q (.ret (.fresh ds)) e := rfl
@[simp] theorem kRet_bor {Q : Po Fl} : kRet Q (.bor i) e = okR e[i]? i e Q := rfl
@[simp] theorem ok_ret {Q : Po Fl} : Ok (retS a e) Q = Ok (a e) (kRet Q) := by
  unfold retS
  rw [ok_bind]
  congr 1
  funext r e1
  cases r with
  | fz d => rfl
  | fresh d => rfl
  | bor i =>
    show Ok (match e1[i]? with | some (some (.own ds)) => .ok (.ret (.fresh ds)) (e1.set i none) | some (some (.fz d)) => .ok (.ret (.fz d)) e1 | _ => .no) Q = okR e1[i]? i e1 Q
    cases e1[i]? with
    | none => rfl
    | some o => cases o with
      | none => rfl
      | some y => cases y <;> rfl
@[simp] theorem ok_retN {Q : Po Fl} : Ok (retN e) Q = Q (.ret (.fz .none)) e := rfl
@[simp] theorem ok_bk {Q : Po Fl} : Ok (bkS e) Q = Q .bk e := rfl
@[simp] theorem ok_ct {Q : Po Fl} : Ok (ctS e) Q = Q .ct e := rfl
end
end VI
set_option Elab.async false
set_option linter.all false
set_option maxRecDepth 100000
set_option maxHeartbeats 4000000
namespace VI
open PySem PySem.Spec PyProof.Rows L2
section
variable {α β : Type} {e : Env} {i j n : Nat} {d x y : D} {ds xs : List D} {r : Rv} {rs : List Rv} {o : Option (Option Sv)} {a b c : Ev} {as : List Ev} {f g : F2} {s t u : Sem1 Bool} {p q : St1} {ps : List St1} {is : List Nat}
def kMv (Q : Po Rv) : Po Rv := fun r e => Ok (mvR r e) Q
def kMv1 (Q : Po Rv) : Po D := fun d e => Q (.fz d) e
@[simp] theorem kMv1_eq {Q : Po Rv} : kMv1 Q d e = Q (.fz d) e := rfl
@[simp] theorem kMv_fz {Q : Po Rv} : kMv Q (.fz d) e = Q (.fz d) e := rfl
@[simp] theorem kMv_fresh {Q : Po Rv} : kMv Q (.fresh ds) e = Q (.fresh ds) e := rfl
@[simp] theorem kMv_bor {Q : Po Rv} : kMv Q (.bor i) e = okF e[i]? i e (kMv1 Q) := by
  show Ok ((frz (.bor i) e).bind _) Q = _
  rw [ok_bind, ← kFrz_bor]; rfl
def kMs2 (x : Rv) (Q : Po (List Rv)) : Po (List Rv) := fun xs e => Q (x :: xs) e
@[simp] theorem kMs2_eq {Q : Po (List Rv)} : kMs2 r Q rs e = Q (r :: rs) e := rfl
def kMs1 (as : List Ev) (Q : Po (List Rv)) : Po Rv := fun x e => Ok (mvs as e) (kMs2 x Q)
@[simp] theorem kMs1_eq {Q : Po (List Rv)} : kMs1 as Q r e = Ok (mvs as e) (kMs2 r Q) := rfl
@[simp] theorem ok_mvs0 {Q : Po (List Rv)} : Ok (mvs [] e) Q = Q [] e := rfl
@[simp] theorem ok_mvs {Q : Po (List Rv)} : Ok (mvs (a :: as) e) Q = Ok (a e) (kMv (kMs1 as Q)) := by
  unfold mvs
  rw [ok_bind, ok_bind]
  congr 1
  funext x e1
  show Ok (mvR x e1) _ = Ok (mvR x e1) _
  congr 1
  funext x e1
  rw [ok_bind]; rfl
def kPar (is : List Nat) (Q : Po Fl) : Po (List Rv) := fun rs e => Ok (stores is rs e) Q
@[simp] theorem kPar0 {Q : Po Fl} : kPar [] Q [] e = Q .nx e := rfl
def kPar2 (is : List Nat) (rs : List Rv) (Q : Po Fl) : Po Fl := fun _ e => kPar is Q rs e
@[simp] theorem kPar2_eq {w : Fl} {Q : Po Fl} : kPar2 is rs Q w e = kPar is Q rs e := rfl
@[simp] theorem kPar1 {Q : Po Fl} : kPar (i :: is) Q (r :: rs) e = kSt i (kPar2 is rs Q) r e := by
  show Ok ((store i r e).bind _) Q = _
  rw [ok_bind]; rfl
@[simp] theorem ok_par {Q : Po Fl} : Ok (parS is as e) Q = Ok (mvs as e) (kPar is Q) := by unfold parS; rw [ok_bind]; rfl
def kAug2 (f : F2) (i : Nat) (d : D) (Q : Po Fl) : Po Rv := fun y e => okO ((peek (calmR y) e).bind fun dy => f d dy) e (kSt i Q)
@[simp] theorem kAug2_eq {Q : Po Fl} : kAug2 f i d Q r e = okO ((peek (calmR r) e).bind fun dy => f d dy) e (kSt i Q) := rfl
def okA (f : F2) (i : Nat) (a : Ev) (Q : Po Fl) (o : Option (Option Sv)) (e : Env) : Prop := match o with
  | some (some (.fz d)) => Ok (a e) fun y e1 => match e1[i]? with
    | some (some (.fz _)) => Ok (ofO ((peek (calmR y) e1).bind fun dy => f d dy) e1) fun r e2 => Ok (putR i r e2) Q
    | _ => False
  | _ => False
theorem ok_aug0 {Q : Po Fl} : Ok (augS f i a e) Q = okA f i a Q e[i]? e := by
  unfold augS okA
  cases e[i]? with
  | none => rfl
  | some z => cases z with
    | none => rfl
    | some w => cases w with
      | fz d =>
        simp only
        rw [ok_bind, ok_opd]
        show Ok (a e) _ = Ok (a e) _
        congr 1
        funext y e1
        show Ok (match e1[i]? with | some (some (.fz _)) => _ | _ => _) Q = _
        cases h : e1[i]? with
        | none => rfl
        | some z2 => cases z2 with
          | none => rfl
          | some w2 => cases w2 <;> first | rfl | (simp only; rw [ok_bind])
      | _ => rfl
def kAug (f : F2) (i : Nat) (d : D) (Q : Po Fl) : Po Rv := fun y e1 => match e1[i]? with
    | some (some (.fz _)) => Ok (ofO ((peek (calmR y) e1).bind fun dy => f d dy) e1) fun r e2 => Ok (putR i r e2) Q
    | _ => False
def kPutR (i : Nat) (Q : Po Fl) : Po Rv := fun r e => Ok (putR i r e) Q
@[simp] theorem kPutR_fz {Q : Po Fl} : kPutR i Q (.fz d) e = okP e[i]? i (.fz d) e Q := okP_eq
def okA2 (f : F2) (i : Nat) (d : D) (y : Rv) (e1 : Env) (Q : Po Fl) (o : Option (Option Sv)) : Prop := match o with
    | some (some (.fz _)) => okO ((peek (calmR y) e1).bind fun dy => f d dy) e1 (kPutR i Q)
    | _ => False
@[simp] theorem okA2_fz {z : D} {Q : Po Fl} : okA2 f i d r e Q (some (some (.fz z))) = okO ((peek (calmR r) e).bind fun dy => f d dy) e (kPutR i Q) := rfl
@[simp] theorem kAug_eq {Q : Po Fl} : kAug f i d Q r e = okA2 f i d r e Q e[i]? := by
  unfold kAug okA2
  cases e[i]? with
  | none => rfl
  | some z => cases z with
    | none => rfl
    | some w => cases w <;> first | rfl | exact ok_ofO
@[simp] theorem okA_fz {Q : Po Fl} : okA f i a Q (some (some (.fz d))) e = Ok (a e) (kAug f i d Q) := rfl
@[simp] theorem ok_aug {Q : Po Fl} : Ok (augS f i a e) Q = okA f i a Q e[i]? e := ok_aug0
def mutO (o : Option (Option Sv)) : Option (List D) := match o with
  | some (some (.own ds)) => some ds
  | some (some (.io ds)) => some ds
  | _ => none
@[simp] theorem mutO_own : mutO (some (some (.own ds))) = some ds := rfl
@[simp] theorem mutO_io : mutO (some (some (.io ds))) = some ds := rfl
def putO (o : Option (Option Sv)) (i : Nat) (ds : List D) (e : Env) : Env := match o with
  | some (some (.own _)) => e.set i (some (.own ds))
  | some (some (.io _)) => e.set i (some (.io ds))
  | _ => e
@[simp] theorem putO_own : putO (some (some (.own ds))) i xs e = e.set i (some (.own xs)) := rfl
@[simp] theorem putO_io : putO (some (some (.io ds))) i xs e = e.set i (some (.io xs)) := rfl
theorem mut_eq : VI.mutAt e i = mutO e[i]? := by
  unfold VI.mutAt mutO
  cases e[i]? with
  | none => rfl
  | some o => cases o with
    | none => rfl
    | some y => cases y <;> rfl
theorem put_eq : VI.putAt e i ds = putO e[i]? i ds e := by
  unfold VI.putAt putO
  cases e[i]? with
  | none => rfl
  | some o => cases o with
    | none => rfl
    | some y => cases y <;> rfl
/-- there is a list to change -/
def okM (o : Option (List D)) (p : Prop) : Prop := match o with
  | some _ => p
  | none => False
@[simp] theorem okM_some {z : Prop} : okM (some ds) z = z := rfl
def okM1 (fm : FM) (i : Nat) (ds : List D) (e : Env) (Q : Po Rv) (o : Option (List D)) : Prop := match o with
  | none => False
  | some xs => match fm xs ds with
    | none => False
    | some (z, xs') => Q (.fz z) (putO e[i]? i xs' e)
@[simp] theorem okM1_some {fm : FM} {Q : Po Rv} : okM1 fm i ds e Q (some xs) = match fm xs ds with
    | none => False
    | some (z, xs') => Q (.fz z) (putO e[i]? i xs' e) := rfl
def kM (fm : FM) (i : Nat) (Q : Po Rv) : Po (List D) := fun ds e => okM1 fm i ds e Q (mutO e[i]?)
@[simp] theorem kM_eq {fm : FM} {Q : Po Rv} : kM fm i Q ds e = okM1 fm i ds e Q (mutO e[i]?) := rfl
@[simp] theorem ok_M {fm : FM} {k : Sem1 (List D)} {Q : Po Rv} : Ok (eM fm i k e) Q = okM (mutO e[i]?) (Ok (k e) (kM fm i Q)) := by
  unfold eM
  rw [mut_eq]
  cases mutO e[i]? with
  | none => rfl
  | some z =>
    show Ok ((k e).bind _) Q = Ok (k e) _
    rw [ok_bind]
    congr 1
    funext ds e1
    rw [mut_eq]
    show _ = okM1 fm i ds e1 Q (mutO e1[i]?)
    cases mutO e1[i]? with
    | none => rfl
    | some xs =>
      simp only [okM1_some]
      cases fm xs ds with
      | none => rfl
      | some w => simp only [put_eq]; rfl
def okS3 (i : Nat) (d : D) (k : Rv) (e : Env) (Q : Po Fl) (o : Option (List D)) : Prop := match k, o with
  | .fz (.int k), some xs => match ixN xs.length k with
    | none => False
    | some j => Q .nx (putO e[i]? i (xs.set j d) e)
  | _, _ => False
@[simp] theorem okS3_eq {z : Int} {Q : Po Fl} : okS3 i d (.fz (.int z)) e Q (some xs) = match ixN xs.length z with
    | none => False
    | some j => Q .nx (putO e[i]? i (xs.set j d) e) := rfl
def kSet2 (i : Nat) (d : D) (Q : Po Fl) : Po Rv := fun r e => okS3 i d (calmR r) e Q (mutO e[i]?)
@[simp] theorem kSet2_eq {Q : Po Fl} : kSet2 i d Q r e = okS3 i d (calmR r) e Q (mutO e[i]?) := rfl
def kSet1 (i : Nat) (ix : Ev) (Q : Po Fl) : Po D := fun d e => okM (mutO e[i]?) (Ok (ix e) (kSet2 i d Q))
@[simp] theorem kSet1_eq {Q : Po Fl} : kSet1 i a Q d e = okM (mutO e[i]?) (Ok (a e) (kSet2 i d Q)) := rfl
@[simp] theorem ok_set {Q : Po Fl} : Ok (setS i a b e) Q = Ok (b e) (kFrz (kSet1 i a Q)) := by
  unfold setS
  rw [ok_bind, ok_toD]
  congr 2
  funext d e1
  rw [mut_eq]
  show _ = okM (mutO e1[i]?) _
  cases mutO e1[i]? with
  | none => rfl
  | some z =>
    show Ok ((opd a e1).bind _) Q = Ok (a e1) _
    rw [ok_bind, ok_opd]
    congr 1
    funext r e2
    show Ok (match calmR r, VI.mutAt e2 i with | .fz (.int k), some xs => _ | _, _ => _) Q = okS3 i d (calmR r) e2 Q (mutO e2[i]?)
    rw [mut_eq]
    unfold okS3
    cases calmR r with
    | fz d =>
      cases d <;> cases mutO e2[i]? <;> first | rfl | skip
      rename_i k xs
      simp only
      cases ixN xs.length k <;> first | rfl | (simp only [put_eq]; rfl)
    | fresh _ => rfl
    | bor _ => rfl
/-- what a call comes to: told by a promise -/
def okFn (z : Option Ret) (e : Env) (Q : Po Rv) : Prop := match z with
  | some (.ok r) => Q r e
  | _ => False
@[simp] theorem okFn_ok {Q : Po Rv} : okFn (some (.ok r)) e Q = Q r e := rfl
def kFn (fn : List D → Option Ret) (Q : Po Rv) : Po (List D) := fun ds e => okFn (fn ds) e Q
@[simp] theorem kFn_eq {fn : List D → Option Ret} {Q : Po Rv} : kFn fn Q ds e = okFn (fn ds) e Q := rfl
@[simp] theorem ok_F {fn : List D → Option Ret} {k : Sem1 (List D)} {Q : Po Rv} : Ok (eF fn k e) Q = Ok (k e) (kFn fn Q) := by
  unfold eF
  rw [ok_bind]
  congr 1
  funext ds e1
  show _ = okFn (fn ds) e1 Q
  cases fn ds with
  | none => rfl
  | some z => cases z <;> rfl
@[simp] theorem pick_nil {l : List α} : pick [] l = [] := rfl
@[simp] theorem pick_cons {l : List α} : pick (i :: is) l = (match l[i]? with | none => pick is l | some z => z :: pick is l) := by
  unfold pick
  rw [List.filterMap_cons]
  cases l[i]? <;> rfl
def kFnK (fn : List D → Option Ret) (is : List Nat) (n : Nat) (Q : Po Rv) : Po (List D) := fun ds e => ds.length = n ∧ okFn (fn (pick is ds)) e Q
@[simp] theorem kFnK_eq {fn : List D → Option Ret} {Q : Po Rv} : kFnK fn is n Q ds e = (ds.length = n ∧ okFn (fn (pick is ds)) e Q) := rfl
@[simp] theorem ok_FK {fn : List D → Option Ret} {k : Sem1 (List D)} {Q : Po Rv} : Ok (eFK fn is n k e) Q = Ok (k e) (kFnK fn is n Q) := by
  unfold eFK
  rw [ok_bind]
  congr 1
  funext ds e1
  show _ = (ds.length = n ∧ okFn (fn (pick is ds)) e1 Q)
  by_cases h : ds.length = n
  · simp only [h, if_true, true_and]
    cases fn (pick is ds) with
    | none => rfl
    | some z => cases z <;> rfl
  · simp [h]
/-- a call that may change its list -/
def okIo (z : Option (Ret × List D)) (i : Nat) (e : Env) (Q : Po Rv) : Prop := match z with
  | some (.ok r, b) => Q r (putO e[i]? i b e)
  | _ => False
@[simp] theorem okIo_ok {Q : Po Rv} : okIo (some (.ok r, ds)) i e Q = Q r (putO e[i]? i ds e) := rfl
def okIo1 (fn : List D → List D → Option (Ret × List D)) (i : Nat) (ds : List D) (e : Env) (Q : Po Rv) (o : Option (List D)) : Prop := match o with
  | none => False
  | some b => okIo (fn b ds) i e Q
@[simp] theorem okIo1_some {fn : List D → List D → Option (Ret × List D)} {Q : Po Rv} : okIo1 fn i ds e Q (some xs) = okIo (fn xs ds) i e Q := rfl
def kIo (fn : List D → List D → Option (Ret × List D)) (i : Nat) (Q : Po Rv) : Po (List D) := fun ds e => okIo1 fn i ds e Q (mutO e[i]?)
@[simp] theorem kIo_eq {fn : List D → List D → Option (Ret × List D)} {Q : Po Rv} : kIo fn i Q ds e = okIo1 fn i ds e Q (mutO e[i]?) := rfl
@[simp] theorem ok_Io {fn : List D → List D → Option (Ret × List D)} {k : Sem1 (List D)} {Q : Po Rv} : Ok (eI fn i k e) Q = okM (mutO e[i]?) (Ok (k e) (kIo fn i Q)) := by
  unfold eI
  rw [mut_eq]
  cases mutO e[i]? with
  | none => rfl
  | some z =>
    show Ok ((k e).bind _) Q = Ok (k e) _
    rw [ok_bind]
    congr 1
    funext ds e1
    rw [mut_eq]
    show _ = okIo1 fn i ds e1 Q (mutO e1[i]?)
    cases mutO e1[i]? with
    | none => rfl
    | some xs =>
      show Ok (match fn xs ds with | none => .no | some (.ok r, b') => .ok r (VI.putAt e1 i b') | some (.ex x, b') => .ex x (VI.putAt e1 i b')) Q = okIo (fn xs ds) i e1 Q
      cases fn xs ds with
      | none => rfl
      | some w =>
        obtain ⟨w1, w2⟩ := w
        cases w1 with
        | ok r => simp only [put_eq]; rfl
        | ex x => rfl
/-- the promise of a def that changes its list -/
def OkI (z : Option (Ret × List D)) (P : Rv → List D → Prop) : Prop := ∃ r b, z = some (.ok r, b) ∧ P r b
theorem okIo_of {z : Option (Ret × List D)} {P : Rv → List D → Prop} {Q : Po Rv} (h : OkI z P) (k : ∀ r b, P r b → Q r (putO e[i]? i b e)) : okIo z i e Q := by
  obtain ⟨r, b, rfl, q⟩ := h
  exact k r b q
def endI (P : Rv → List D → Prop) : Po Fl := fun w e => ∃ b, ioAt e = some b ∧ match w with
  | .ret r => P r b
  | .nx => P (.fz .none) b
  | _ => False
@[simp] theorem endI_ret {P : Rv → List D → Prop} : endI P (.ret r) e = ∃ b, ioAt e = some b ∧ P r b := rfl
@[simp] theorem endI_nx {P : Rv → List D → Prop} : endI P .nx e = ∃ b, ioAt e = some b ∧ P (.fz .none) b := rfl
theorem fnI_of {body : St1} {b : List D} {P : Rv → List D → Prop} (h : Ok (body (initI n b ds)) (endI P)) : OkI (fnI body n b ds) P := by
  obtain ⟨w, e1, h1, b', h2, h3⟩ := ok_get h
  unfold fnI
  rw [h1]
  cases w with
  | ret r => exact ⟨r, b', by simp only [h2]; rfl, h3⟩
  | nx => exact ⟨.fz .none, b', by simp only [h2]; rfl, h3⟩
  | bk => exact h3.elim
  | ct => exact h3.elim
@[simp] theorem ioAt_cons {b : List D} {e : Env} : ioAt (some (.io b) :: e) = some b := rfl
/-- the promise of another def -/
def OkF (z : Option Ret) (P : Rv → Prop) : Prop := ∃ r, z = some (.ok r) ∧ P r
theorem okFn_of {z : Option Ret} {P : Rv → Prop} {Q : Po Rv} (h : OkF z P) (k : ∀ r, P r → Q r e) : okFn z e Q := by
  obtain ⟨r, rfl, q⟩ := h
  exact k r q
def endF (P : Rv → Prop) : Po Fl := fun w _ => match w with
  | .ret r => P r
  | .nx => P (.fz .none)
  | _ => False
@[simp] theorem endF_ret {P : Rv → Prop} : endF P (.ret r) e = P r := rfl
@[simp] theorem endF_nx {P : Rv → Prop} : endF P .nx e = P (.fz .none) := rfl
theorem fnF_of {body : St1} {P : Rv → Prop} (h : Ok (body (initE n ds)) (endF P)) : OkF (fnF body n ds) P := by
  obtain ⟨w, e1, h1, h3⟩ := ok_get h
  unfold fnF
  rw [h1]
  cases w with
  | ret r => exact ⟨r, rfl, h3⟩
  | nx => exact ⟨.fz .none, rfl, h3⟩
  | bk => exact h3.elim
  | ct => exact h3.elim
theorem fnF_is {body : St1} {z : Rv} (h : Ok (body (initE n ds)) (endF fun r => r = z)) : fnF body n ds = some (.ok z) := by
  obtain ⟨r, h1, rfl⟩ := fnF_of h
  exact h1
@[simp] theorem initE1 {x : D} : initE n [x] = some (.fz x) :: List.replicate (n - 1) none := rfl
@[simp] theorem initE2 {x y : D} : initE n [x, y] = some (.fz x) :: some (.fz y) :: List.replicate (n - 2) none := rfl
@[simp] theorem initE3 {x y z : D} : initE n [x, y, z] = some (.fz x) :: some (.fz y) :: some (.fz z) :: List.replicate (n - 3) none := rfl
@[simp] theorem initI0 {b : List D} : initI n b [] = some (.io b) :: List.replicate (n - 1) none := rfl
@[simp] theorem initI1 {b : List D} {x : D} : initI n b [x] = some (.io b) :: some (.fz x) :: List.replicate (n - 2) none := rfl
@[simp] theorem initI2 {b : List D} {x y : D} : initI n b [x, y] = some (.io b) :: some (.fz x) :: some (.fz y) :: List.replicate (n - 3) none := rfl
end
end VI
set_option Elab.async false
set_option linter.all false
set_option maxRecDepth 100000
set_option maxHeartbeats 4000000
namespace VI
open PySem PySem.Spec PyProof.Rows L2
section
variable {α β : Type} {e : Env} {i j n : Nat} {d x y : D} {ds xs : List D} {r : Rv} {a b c : Ev} {f g : F2} {s t u : Sem1 Bool} {p q : St1}
variable {k l m : Int}
@[simp] theorem subD_eq : subD (.int k) (.int l) = some (.fz (.int (k - l))) := rfl
@[simp] theorem addD_eq : addD (.int k) (.int l) = some (.fz (.int (k + l))) := rfl
@[simp] theorem addI_eq : addI (.int k) (.int l) = some (.fz (.int (k + l))) := rfl
@[simp] theorem addD_lst : addD (.list ds) (.list xs) = if ds.length + xs.length ≤ sizeLine then some (.fresh (ds ++ xs)) else none := rfl
@[simp] theorem addD_tup : addD (.tuple ds) (.tuple xs) = if ds.length + xs.length ≤ sizeLine then some (.fz (.tuple (ds ++ xs))) else none := rfl
@[simp] theorem mulD_eq : mulD (.int k) (.int l) = if mulOk k l then some (.fz (.int (k * l))) else none := rfl
@[simp] theorem mulI_eq : mulI (.int k) (.int l) = if mulOk k l then some (.fz (.int (k * l))) else none := by unfold mulI ii; simp only; split <;> rfl
@[simp] theorem divD_eq : divD (.int k) (.int l) = if divOk l then some (.fz (.int (k / l))) else none := by unfold divD ii; simp only; split <;> rfl
@[simp] theorem modD_eq : modD (.int k) (.int l) = if 0 < l then some (.fz (.int (k % l))) else none := by unfold modD ii; simp only; split <;> rfl
@[simp] theorem powD_eq : powD (.int k) (.int l) = if powOk k l then some (.fz (.int (k ^ l.toNat))) else none := by unfold powD ii; simp only; split <;> rfl
@[simp] theorem negD_eq : negD (.int k) = some (.fz (.int (-k))) := rfl
@[simp] theorem ltD_eq : ltD (.int k) (.int l) = some (.fz (.bool (decide (k < l)))) := rfl
@[simp] theorem leD_eq : leD (.int k) (.int l) = some (.fz (.bool (decide (k ≤ l)))) := rfl
@[simp] theorem gtD_eq : gtD (.int k) (.int l) = some (.fz (.bool (decide (l < k)))) := rfl
@[simp] theorem geD_eq : geD (.int k) (.int l) = some (.fz (.bool (decide (l ≤ k)))) := rfl
@[simp] theorem sh_int : SeqAt.shaped (.int k) = true := rfl
@[simp] theorem sh_bool {z : Bool} : SeqAt.shaped (.bool z) = true := rfl
@[simp] theorem sh_none : SeqAt.shaped .none = true := rfl
@[simp] theorem eqD_eq : eqD (.int k) (.int l) = some (.fz (.bool (decide (k = l)))) := by
  show some (Rv.fz (PyData.bool (k == l))) = _
  rfl
@[simp] theorem neD_eq : neD (.int k) (.int l) = some (.fz (.bool (!decide (k = l)))) := by
  show some (Rv.fz (PyData.bool (!(k == l)))) = _
  rfl
@[simp] theorem eqD_bool {z w : Bool} : eqD (.bool z) (.bool w) = some (.fz (.bool (z == w))) := rfl
@[simp] theorem neD_bool {z w : Bool} : neD (.bool z) (.bool w) = some (.fz (.bool (!(z == w)))) := rfl
@[simp] theorem eqD_str {z w : Str} : eqD (.str z) (.str w) = some (.fz (.bool (z == w))) := rfl
@[simp] theorem neD_str {z w : Str} : neD (.str z) (.str w) = some (.fz (.bool (!(z == w)))) := rfl
@[simp] theorem lenD_lst : lenD (.list ds) = some (.fz (.int ds.length)) := rfl
@[simp] theorem lenD_tup : lenD (.tuple ds) = some (.fz (.int ds.length)) := rfl
@[simp] theorem tupD_lst : tupD (.list ds) = some (.fz (.tuple ds)) := rfl
@[simp] theorem tupD_tup : tupD (.tuple ds) = some (.fz (.tuple ds)) := rfl
@[simp] theorem lstD_lst : lstD (.list ds) = some (.fresh ds) := rfl
@[simp] theorem lstD_tup : lstD (.tuple ds) = some (.fresh ds) := rfl
@[simp] theorem absD_eq : absD (.int k) = some (.fz (.int (if k < 0 then -k else k))) := rfl
@[simp] theorem intD_int : intD (.int k) = some (.fz (.int k)) := rfl
@[simp] theorem intD_bool {z : Bool} : intD (.bool z) = some (.fz (.int (if z then 1 else 0))) := rfl
@[simp] theorem min2_eq : min2D (.int k) (.int l) = some (.fz (.int (if l < k then l else k))) := rfl
@[simp] theorem max2_eq : max2D (.int k) (.int l) = some (.fz (.int (if l > k then l else k))) := rfl
@[simp] theorem revD_lst : revD (.list ds) = some (.fresh ds.reverse) := rfl
@[simp] theorem revD_tup : revD (.tuple ds) = some (.fz (.tuple ds.reverse)) := rfl
@[simp] theorem ixD_lst : ixD (.list ds) (.int k) = (atI ds k).map .fz := rfl
@[simp] theorem ixD_tup : ixD (.tuple ds) (.int k) = (atI ds k).map .fz := rfl
@[simp] theorem slD_lst {lo hi : Option Int} : slD (.list ds) lo hi = some (.fresh (cutD ds lo hi)) := rfl
@[simp] theorem slD_tup {lo hi : Option Int} : slD (.tuple ds) lo hi = some (.fz (.tuple (cutD ds lo hi))) := rfl
@[simp] theorem isD_eq {fs : List (D → Bool)} : isD fs d = some (.fz (.bool (fs.any fun f => f d))) := rfl
@[simp] theorem isN_eq : isND d .none = some (.fz (.bool (isNone d))) := rfl
@[simp] theorem notN_eq : notND d .none = some (.fz (.bool (!isNone d))) := rfl
@[simp] theorem allD_map {bs : List Bool} : allD (.list (bs.map .bool)) = some (.fz (.bool (bs.all id))) := by unfold allD; simp only [boolsD_map]; rfl
@[simp] theorem anyD_map {bs : List Bool} : anyD (.list (bs.map .bool)) = some (.fz (.bool (bs.any id))) := by unfold anyD; simp only [boolsD_map]; rfl
@[simp] theorem sumD_map {ns : List Int} : sumD (.list (ns.map .int)) = some (.fz (.int ns.sum)) := by unfold sumD; simp only [intsD_map]; rfl
@[simp] theorem sumD_mapT {ns : List Int} : sumD (.tuple (ns.map .int)) = some (.fz (.int ns.sum)) := by unfold sumD; simp only [intsD_map]; rfl
@[simp] theorem fmApp_eq : fmApp xs [d] = if xs.length < sizeLine then some (.none, xs ++ [d]) else none := rfl
theorem atN {i : Nat} (h : ds[i]? = some d) : atI ds (i : Int) = some d := by
  unfold atI ixN
  have hi := (List.getElem?_eq_some_iff.mp h).1
  have h1 : (0 : Int) ≤ i := Int.natCast_nonneg i
  have h2 : ¬ ((i : Int) < 0) := by omega
  rw [List.getElem?_eq_getElem hi] at h
  simp [h2, hi, Option.some.inj h]
@[simp] theorem intsOf_len {lo : Int} {n : Nat} : (intsOf lo n).length = n := by unfold intsOf; rw [List.length_map, List.length_range]
theorem intsOf_get {lo : Int} {n i : Nat} {d : D} (h : (intsOf lo n)[i]? = some d) : i < n ∧ d = .int (lo + (i : Nat)) := by
  have hi := (List.getElem?_eq_some_iff.mp h).1
  rw [intsOf_len] at hi
  unfold intsOf at h
  rw [List.getElem?_map, List.getElem?_range hi] at h
  exact ⟨hi, (Option.some.inj h).symm⟩
theorem inR_nat {n : Nat} (h : n < 2 ^ 62) : VI.inR (n : Int) = true := by
  unfold VI.inR
  rw [decide_eq_true (by omega), decide_eq_true (by omega)]; rfl
def kSr (Q : Po Src) : Po Rv := fun r e => Ok (srcR r e) Q
@[simp] theorem kSr_lst {Q : Po Src} : kSr Q (.fz (.list ds)) e = Q ⟨ds, []⟩ e := rfl
@[simp] theorem kSr_tup {Q : Po Src} : kSr Q (.fz (.tuple ds)) e = Q ⟨ds, []⟩ e := rfl
def okSr (o : Option (Option Sv)) (i : Nat) (e : Env) (Q : Po Src) : Prop := match o with
  | some (some (.fz (.list ds))) => Q ⟨ds, []⟩ e
  | some (some (.fz (.tuple ds))) => Q ⟨ds, []⟩ e
  | some (some (.lent ds)) => Q ⟨ds, []⟩ e
  | some (some (.own ds)) => Q ⟨ds, [i]⟩ (e.set i (some (.lent ds)))
  | _ => False
@[simp] theorem okSr_lst {Q : Po Src} : okSr (some (some (.fz (.list ds)))) i e Q = Q ⟨ds, []⟩ e := rfl
@[simp] theorem okSr_tup {Q : Po Src} : okSr (some (some (.fz (.tuple ds)))) i e Q = Q ⟨ds, []⟩ e := rfl
@[simp] theorem okSr_lent {Q : Po Src} : okSr (some (some (.lent ds))) i e Q = Q ⟨ds, []⟩ e := rfl
@[simp] theorem okSr_own {Q : Po Src} : okSr (some (some (.own ds))) i e Q = Q ⟨ds, [i]⟩ (e.set i (some (.lent ds))) := rfl
@[simp] theorem kSr_bor {Q : Po Src} : kSr Q (.bor i) e = okSr e[i]? i e Q := by
  unfold kSr srcR okSr
  simp only
  cases e[i]? with
  | none => rfl
  | some z => cases z with
    | none => rfl
    | some w => cases w with
      | fz d => cases d <;> rfl
      | _ => rfl
def kSc (Q : Po Src) : Po Rv := fun r e => kSr Q (calmR r) e
@[simp] theorem kSc_eq {Q : Po Src} : kSc Q r e = kSr Q (calmR r) e := rfl
@[simp] theorem ok_src {Q : Po Src} : Ok (srcE a e) Q = Ok (a e) (kSc Q) := by
  unfold srcE
  rw [ok_bind, ok_opd]; rfl
def kEn (Q : Po Src) : Po Src := fun z e => Q ⟨enumD z.items, z.lend⟩ e
@[simp] theorem kEn_eq {Q : Po Src} {z : Src} : kEn Q z e = Q ⟨enumD z.items, z.lend⟩ e := rfl
@[simp] theorem ok_enum {Q : Po Src} : Ok (enumE a e) Q = Ok (a e) (kSc (kEn Q)) := by
  unfold enumE
  rw [ok_bind, ok_opd]
  congr 1
  funext r e1
  show Ok ((srcR (calmR r) e1).bind _) Q = _
  rw [ok_bind]; rfl
def kZ4 (z : Src) (Q : Po Src) : Po Src := fun w e => Q ⟨zipD z.items w.items, w.lend ++ z.lend⟩ e
def kZ3 (s : Rv) (Q : Po Src) : Po Src := fun z e => kSr (kZ4 z Q) s e
def kZ2 (r : Rv) (Q : Po Src) : Po Rv := fun s e => kSr (kZ3 (calmR s) Q) r e
def kZ1 (b : Ev) (Q : Po Src) : Po Rv := fun r e => Ok (b e) (kZ2 (calmR r) Q)
@[simp] theorem kZ4_eq {z w : Src} {Q : Po Src} : kZ4 z Q w e = Q ⟨zipD z.items w.items, w.lend ++ z.lend⟩ e := rfl
@[simp] theorem kZ3_eq {z : Src} {Q : Po Src} : kZ3 r Q z e = kSr (kZ4 z Q) r e := rfl
@[simp] theorem kZ2_eq {s : Rv} {Q : Po Src} : kZ2 r Q s e = kSr (kZ3 (calmR s) Q) r e := rfl
@[simp] theorem kZ1_eq {Q : Po Src} : kZ1 b Q r e = Ok (b e) (kZ2 (calmR r) Q) := rfl
@[simp] theorem ok_zip {Q : Po Src} : Ok (zipE a b e) Q = Ok (a e) (kZ1 b Q) := by
  unfold zipE
  rw [ok_bind, ok_opd]
  congr 1
  funext r e1
  show Ok ((opd b e1).bind _) Q = _
  rw [ok_bind, ok_opd]
  show _ = Ok (b e1) _
  congr 1
  funext s e2
  show Ok ((srcR (calmR r) e2).bind _) Q = Ok (srcR (calmR r) e2) _
  rw [ok_bind]
  congr 1
  funext z e3
  show Ok ((srcR (calmR s) e3).bind _) Q = Ok (srcR (calmR s) e3) _
  rw [ok_bind]; rfl
def kRg (Q : Po Src) : Po Rv := fun r e => match calmR r with
  | .fz (.int j) => inR j = true ∧ Q ⟨intsOf 0 j.toNat, []⟩ e
  | _ => False
@[simp] theorem kRg_eq {Q : Po Src} : kRg Q (.fz (.int k)) e = (inR k = true ∧ Q ⟨intsOf 0 k.toNat, []⟩ e) := rfl
@[simp] theorem ok_rng1 {Q : Po Src} : Ok (rng1 a e) Q = Ok (a e) (kRg Q) := by
  unfold rng1
  rw [ok_bind, ok_opd]
  congr 1
  funext r e1
  show Ok (match calmR r with | .fz (.int j) => if inR j then .ok ⟨intsOf 0 j.toNat, []⟩ e1 else .no | _ => .no) Q = _
  unfold kRg
  cases calmR r with
  | fz d =>
    cases d <;> first | rfl | skip
    rename_i j
    by_cases h : inR j = true <;> simp [h]
  | fresh _ => rfl
  | bor _ => rfl
def kRh2 (z : Rv) (Q : Po Src) : Po Rv := fun r e => match z, calmR r with
  | .fz (.int i), .fz (.int j) => (inR i = true ∧ inR j = true) ∧ Q ⟨intsOf i (j - i).toNat, []⟩ e
  | _, _ => False
def kRh1 (b : Ev) (Q : Po Src) : Po Rv := fun r e => Ok (b e) (kRh2 (calmR r) Q)
@[simp] theorem kRh2_eq {Q : Po Src} : kRh2 (.fz (.int k)) Q (.fz (.int l)) e = ((inR k = true ∧ inR l = true) ∧ Q ⟨intsOf k (l - k).toNat, []⟩ e) := rfl
@[simp] theorem kRh1_eq {Q : Po Src} : kRh1 b Q r e = Ok (b e) (kRh2 (calmR r) Q) := rfl
@[simp] theorem ok_rng2 {Q : Po Src} : Ok (rng2 a b e) Q = Ok (a e) (kRh1 b Q) := by
  unfold rng2
  rw [ok_bind, ok_opd]
  congr 1
  funext r e1
  show Ok ((opd b e1).bind _) Q = Ok (b e1) _
  rw [ok_bind, ok_opd]
  congr 1
  funext s e2
  show Ok (match calmR r, calmR s with | .fz (.int i), .fz (.int j) => if inR i && inR j then .ok ⟨intsOf i (j - i).toNat, []⟩ e2 else .no | _, _ => .no) Q = kRh2 (calmR r) Q s e2
  unfold kRh2
  cases calmR r with
  | fz d =>
    cases d <;> first | rfl | skip
    rename_i i
    cases calmR s with
    | fz d =>
      cases d <;> first | rfl | skip
      rename_i j
      by_cases h : inR i = true <;> by_cases h2 : inR j = true <;> simp [h, h2]
    | fresh _ => rfl
    | bor _ => rfl
  | fresh _ => rfl
  | bor _ => rfl
def kFor (t : Tg) (b : St1) (Q : Po Fl) : Po Src := fun z e => Ok (turns t b z.items e) fun w e1 => Q w (unlend z.lend e1)
@[simp] theorem ok_for {it : Sem1 Src} {t : Tg} {b : St1} {Q : Po Fl} : Ok (forS it t b e) Q = Ok (it e) (kFor t b Q) := by
  unfold forS
  rw [ok_bind]
  congr 1
  funext z e1
  unfold kFor
  cases turns t b z.items e1 <;> rfl
def endT (I B : Env → Prop) (R : Rv → Env → Prop) : Po Fl := fun w e => match w with
    | .nx => I e
    | .ct => I e
    | .bk => B e
    | .ret r => R r e
@[simp] theorem endT_nx {I B : Env → Prop} {R : Rv → Env → Prop} : endT I B R .nx e = I e := rfl
@[simp] theorem endT_ct {I B : Env → Prop} {R : Rv → Env → Prop} : endT I B R .ct e = I e := rfl
@[simp] theorem endT_bk {I B : Env → Prop} {R : Rv → Env → Prop} : endT I B R .bk e = B e := rfl
@[simp] theorem endT_ret {I B : Env → Prop} {R : Rv → Env → Prop} : endT I B R (.ret r) e = R r e := rfl
/-- THE RULE for a loop: I i e ahead of the i-th turn -/
theorem turns_ok {t : Tg} {b : St1} {Q : Po Fl} : ∀ {items : List D} {e : Env} (I : Nat → Env → Prop), I 0 e →
    (∀ i d e, items[i]? = some d → I i e → ∃ e1, t.run d e = some e1 ∧ Ok (b e1) (endT (I (i + 1)) (fun e2 => Q .nx e2) (fun r e2 => Q (.ret r) e2))) → (∀ e, I items.length e → Q .nx e) → Ok (turns t b items e) Q
  | [], e, I, h0, _, hq => hq e h0
  | d :: ds, e, I, h0, hs, hq => by
    obtain ⟨e1, h1, h2⟩ := hs 0 d e rfl h0
    unfold turns
    rw [h1]
    show Ok ((b e1).bind _) Q
    rw [ok_bind]
    refine Ok.mono h2 fun w e2 h3 => ?_
    cases w with
    | nx => exact turns_ok (fun i => I (i + 1)) h3 (fun i d e hi => hs (i + 1) d e hi) hq
    | ct => exact turns_ok (fun i => I (i + 1)) h3 (fun i d e hi => hs (i + 1) d e hi) hq
    | bk => exact h3
    | ret r => exact h3
theorem for_ok {t : Tg} {b : St1} {Q : Po Fl} {z : Src} (I : Nat → Env → Prop) (h0 : I 0 e)
    (hs : ∀ i d e, z.items[i]? = some d → I i e → ∃ e1, t.run d e = some e1 ∧ Ok (b e1) (endT (I (i + 1)) (fun e2 => Q .nx (unlend z.lend e2)) (fun r e2 => Q (.ret r) (unlend z.lend e2)))) (hq : ∀ e, I z.items.length e → Q .nx (unlend z.lend e)) : kFor t b Q z e :=
  turns_ok I h0 hs hq
def kLc (t : Tg) (c : Sem1 Bool) (elt : Ev) (own : List Nat) (Q : Po Rv) : Po Src := fun z e => (z.items.length ≤ sizeLine ∧ (∀ i ∈ t.ix, i ∈ own)) ∧ ∃ ds e2, lcTurns t c elt own z.items (wipeE e own) = some (ds, e2) ∧ Q (.fresh ds) (unlend z.lend (backE e own e2))
@[simp] theorem ok_lc {it : Sem1 Src} {t : Tg} {c : Sem1 Bool} {elt : Ev} {own : List Nat} {Q : Po Rv} : Ok (lcS it t c elt own e) Q = Ok (it e) (kLc t c elt own Q) := by
  unfold lcS
  rw [ok_bind]
  congr 1
  funext z e1
  unfold kLc
  by_cases h : z.items.length ≤ sizeLine ∧ (∀ i ∈ t.ix, i ∈ own)
  · rw [if_pos h]
    cases hl : lcTurns t c elt own z.items (wipeE e1 own) with
    | none => exact propext ⟨fun q => q.elim, fun ⟨_, _, _, h1, _⟩ => by cases h1⟩
    | some w =>
      obtain ⟨ds, e2⟩ := w
      exact propext ⟨fun q => ⟨h, ds, e2, rfl, q⟩, fun ⟨_, _, _, h1, q⟩ => by cases h1; exact q⟩
  · rw [if_neg h]
    exact propext ⟨fun q => q.elim, fun q => absurd q.1 h⟩
/-- THE RULE: a comprehension without a test, item by item; P is told of each -/
theorem lc_ok {t : Tg} {elt : Ev} {own : List Nat} {P : D → D → Prop} : ∀ {items : List D} {e : Env} (I : Nat → Env → Prop), I 0 e →
    (∀ i d e, items[i]? = some d → I i e → ∃ e1, t.run d e = some e1 ∧ Ok (elt e1) (kFrz fun y e2 => P d y ∧ I (i + 1) (wipeE e2 own))) →
    ∃ ys e2, lcTurns t yesT elt own items e = some (ys, e2) ∧ Paired P items ys ∧ I items.length e2
  | [], e, I, h0, _ => ⟨[], e, rfl, .nil, h0⟩
  | d :: ds, e, I, h0, hs => by
    obtain ⟨e1, h1, h2⟩ := hs 0 d e rfl h0
    rw [← ok_toD] at h2
    obtain ⟨y, e2, h3, h4, h5⟩ := ok_get h2
    obtain ⟨ys, e3, k1, k2, k3⟩ := lc_ok (items := ds) (fun i => I (i + 1)) h5 (fun i d e hi => hs (i + 1) d e hi)
    refine ⟨y :: ys, e3, ?_, .cons h4 k2, k3⟩
    unfold lcTurns
    rw [h1]
    have hy : yesT e1 = .ok true e1 := rfl
    simp only [hy, h3, k1]
    rfl
/-- .. that changes nothing: a map -/
theorem lc_map {t : Tg} {elt : Ev} {own : List Nat} {items : List D} {e : Env} (h : D → D)
    (hs : ∀ d ∈ items, ∃ e1, t.run d e = some e1 ∧ Ok (elt e1) (kFrz fun y e2 => y = h d ∧ wipeE e2 own = e)) : lcTurns t yesT elt own items e = some (items.map h, e) := by
  obtain ⟨ys, e2, k1, k2, k3⟩ := lc_ok (t := t) (elt := elt) (own := own) (items := items) (e := e) (P := fun d y => y = h d) (fun _ e' => e' = e) rfl (fun i d e' hi he => by
    subst he
    obtain ⟨e1, h1, h2⟩ := hs d (List.mem_of_getElem? hi)
    exact ⟨e1, h1, h2⟩)
  subst k3
  have : ys = items.map h := by
    clear k1 hs
    induction k2 with
    | nil => rfl
    | cons a _ ih => rw [List.map_cons, ← ih, a]
  rw [k1, this]
end
end VI
set_option Elab.async false
set_option linter.all false
set_option maxRecDepth 100000
set_option maxHeartbeats 4000000
namespace VI
open PySem PySem.Spec PyProof.Rows L2
theorem lay_ints : ∀ ns : List Int, PyData.canLayAll0 (ns.map PyData.int) = true
  | [] => by simp only [List.map_nil, PyData.canLayAll0]
  | n :: ns => by
    rw [List.map_cons]
    simp only [PyData.canLayAll0, PyData.canLay0, Bool.true_and]
    exact lay_ints ns
theorem deep_ints : ∀ ns : List Int, PyData.depthAll (ns.map PyData.int) = 0
  | [] => by simp only [List.map_nil, PyData.depthAll]
  | n :: ns => by
    rw [List.map_cons]
    simp only [PyData.depthAll, PyData.depth, deep_ints ns]
    rfl
theorem eqv_ints : ∀ as bs : List Int, PyData.eqvAll (as.map PyData.int) (bs.map PyData.int) = decide (as = bs)
  | [], [] => by simp [PyData.eqvAll]
  | a :: as, [] => by simp [PyData.eqvAll]
  | [], b :: bs => by simp [PyData.eqvAll]
  | a :: as, b :: bs => by
    rw [List.map_cons, List.map_cons]
    simp only [PyData.eqvAll, PyData.eqv, eqv_ints as bs]
    by_cases h : a = b <;> by_cases h2 : as = bs <;> simp [h, h2]
@[simp] theorem sh_ints (ns : List Int) : SeqAt.shaped (.list (ns.map PyData.int)) = true := by
  unfold SeqAt.shaped
  simp only [PyData.canLay0, PyData.depth, lay_ints, deep_ints]
  rfl
@[simp] theorem sh_intsT (ns : List Int) : SeqAt.shaped (.tuple (ns.map PyData.int)) = true := by
  unfold SeqAt.shaped
  simp only [PyData.canLay0, PyData.depth, lay_ints, deep_ints]
  rfl
@[simp] theorem eqD_ints {as bs : List Int} : eqD (.list (as.map PyData.int)) (.list (bs.map PyData.int)) = some (.fz (.bool (decide (as = bs)))) := by
  unfold eqD
  rw [sh_ints, sh_ints]
  simp only [Bool.and_self, Bool.or_true, if_true, PyData.eqv, eqv_ints]
@[simp] theorem eqD_intsT {as bs : List Int} : eqD (.tuple (as.map PyData.int)) (.tuple (bs.map PyData.int)) = some (.fz (.bool (decide (as = bs)))) := by
  unfold eqD
  rw [sh_intsT, sh_intsT]
  simp only [Bool.and_self, Bool.or_true, if_true, PyData.eqv, eqv_ints]
@[simp] theorem neD_ints {as bs : List Int} : neD (.list (as.map PyData.int)) (.list (bs.map PyData.int)) = some (.fz (.bool (!decide (as = bs)))) := by
  unfold neD
  rw [sh_ints, sh_ints]
  simp only [Bool.and_self, Bool.or_true, if_true, PyData.eqv, eqv_ints]
@[simp] theorem neD_intsT {as bs : List Int} : neD (.tuple (as.map PyData.int)) (.tuple (bs.map PyData.int)) = some (.fz (.bool (!decide (as = bs)))) := by
  unfold neD
  rw [sh_intsT, sh_intsT]
  simp only [Bool.and_self, Bool.or_true, if_true, PyData.eqv, eqv_ints]
@[simp] theorem neD_ints0 {as : List Int} : neD (.list (as.map PyData.int)) (.list []) = some (.fz (.bool (!decide (as = [])))) := neD_ints (bs := [])
@[simp] theorem eqD_ints0 {as : List Int} : eqD (.list (as.map PyData.int)) (.list []) = some (.fz (.bool (decide (as = [])))) := eqD_ints (bs := [])
end VI
set_option Elab.async false
set_option linter.all false
set_option maxRecDepth 100000
set_option maxHeartbeats 4000000
namespace VI
open PySem PySem.Spec PyProof.Rows L2
mutual
/-- no dict; texts of true characters; numbers of at most B bits -/
def good (B : Nat) : D → Bool
  | .none => true
  | .bool _ => true
  | .int i => decide (i.natAbs < 2 ^ B)
  | .str x => PyData.strOk x
  | .list xs => goodAll B xs
  | .tuple xs => goodAll B xs
  | .dict _ => false
def goodAll (B : Nat) : List D → Bool
  | [] => true
  | x :: xs => good B x && goodAll B xs
end
theorem goodAll_iff {B : Nat} : ∀ {xs : List D}, goodAll B xs = true ↔ ∀ x ∈ xs, good B x = true
  | [] => by simp [goodAll]
  | x :: xs => by simp [goodAll, goodAll_iff (xs := xs)]
mutual
theorem good_mono {B B' : Nat} (hB : B ≤ B') : ∀ d : D, good B d = true → good B' d = true
  | .none, _ => by simp only [good]
  | .bool _, _ => by simp only [good]
  | .int i, h => by
    simp only [good, decide_eq_true_eq] at h ⊢
    exact Nat.lt_of_lt_of_le h (Nat.pow_le_pow_right (by omega) hB)
  | .str _, h => by simpa only [good] using h
  | .list xs, h => by simp only [good] at h ⊢; exact goodAll_mono hB xs h
  | .tuple xs, h => by simp only [good] at h ⊢; exact goodAll_mono hB xs h
  | .dict _, h => by simp [good] at h
theorem goodAll_mono {B B' : Nat} (hB : B ≤ B') : ∀ xs : List D, goodAll B xs = true → goodAll B' xs = true
  | [], _ => by simp only [goodAll]
  | x :: xs, h => by
    simp only [goodAll, Bool.and_eq_true] at h ⊢
    exact ⟨good_mono hB x h.1, goodAll_mono hB xs h.2⟩
end
mutual
theorem good_lay {B : Nat} : ∀ d : D, good B d = true → d.canLay0 = true
  | .none, _ => by simp only [PyData.canLay0]
  | .bool _, _ => by simp only [PyData.canLay0]
  | .int i, h => by simp only [PyData.canLay0]
  | .str _, h => by simpa only [good, PyData.canLay0] using h
  | .list xs, h => by simp only [good, PyData.canLay0] at h ⊢; exact goodAll_lay xs h
  | .tuple xs, h => by simp only [good, PyData.canLay0] at h ⊢; exact goodAll_lay xs h
  | .dict _, h => by simp [good] at h
theorem goodAll_lay {B : Nat} : ∀ xs : List D, goodAll B xs = true → PyData.canLayAll0 xs = true
  | [], _ => by simp only [PyData.canLayAll0]
  | x :: xs, h => by
    simp only [goodAll, PyData.canLayAll0, Bool.and_eq_true] at h ⊢
    exact ⟨good_lay x h.1, goodAll_lay xs h.2⟩
end
theorem log2_of_lt {n B : Nat} (hB : 0 < B) (h : n < 2 ^ B) : n.log2 < B := by
  by_cases h0 : n = 0
  · subst h0; exact hB
  · exact (Nat.log2_lt h0).mpr h
mutual
theorem good_short {B : Nat} (hB : 0 < B) : ∀ d : D, good B d = true → d.intsShort (B + 1) = true
  | .none, _ => by simp only [PyData.intsShort]
  | .bool _, _ => by simp only [PyData.intsShort]
  | .int i, h => by
    simp only [good, PyData.intsShort, decide_eq_true_eq] at h ⊢
    show (Str.ofString (toString i)).length ≤ _
    rw [PySem.ofString_length]
    exact int_text_length_le hB (log2_of_lt hB h)
  | .str _, h => by simp only [PyData.intsShort]
  | .list xs, h => by simp only [good, PyData.intsShort] at h ⊢; exact goodAll_short hB xs h
  | .tuple xs, h => by simp only [good, PyData.intsShort] at h ⊢; exact goodAll_short hB xs h
  | .dict _, h => by simp [good] at h
theorem goodAll_short {B : Nat} (hB : 0 < B) : ∀ xs : List D, goodAll B xs = true → PyData.intsShortAll (B + 1) xs = true
  | [], _ => by simp only [PyData.intsShortAll]
  | x :: xs, h => by
    simp only [goodAll, PyData.intsShortAll, Bool.and_eq_true] at h ⊢
    exact ⟨good_short hB x h.1, goodAll_short hB xs h.2⟩
end
mutual
theorem good_showable {B : Nat} (hB : 0 < B) (hB2 : B ≤ 1920) : ∀ d : D, good B d = true → d.showable = true
  | .none, _ => by simp only [PyData.showable]
  | .bool _, _ => by simp only [PyData.showable]
  | .int i, h => by
    simp only [good, PyData.showable, decide_eq_true_eq] at h ⊢
    exact Nat.lt_of_lt_of_le (log2_of_lt hB h) hB2
  | .str _, h => by simp only [PyData.showable]
  | .list xs, h => by simp only [good, PyData.showable] at h ⊢; exact goodAll_showable hB hB2 xs h
  | .tuple xs, h => by simp only [good, PyData.showable] at h ⊢; exact goodAll_showable hB hB2 xs h
  | .dict _, h => by simp [good] at h
theorem goodAll_showable {B : Nat} (hB : 0 < B) (hB2 : B ≤ 1920) : ∀ xs : List D, goodAll B xs = true → PyData.showableAll xs = true
  | [], _ => by simp only [PyData.showableAll]
  | x :: xs, h => by
    simp only [goodAll, PyData.showableAll, Bool.and_eq_true] at h ⊢
    exact ⟨good_showable hB hB2 x h.1, goodAll_showable hB hB2 xs h.2⟩
end
/-- a datum of such a size -/
structure Sz (B W N : Nat) (d : D) : Prop where
  good : good B d = true
  wt : d.weight ≤ W
  dp : d.depth ≤ N
theorem Sz.mono {B B' W W' N N' : Nat} {d : D} (h : Sz B W N d) (hB : B ≤ B') (hW : W ≤ W') (hN : N ≤ N') : Sz B' W' N' d := ⟨good_mono hB d h.good, Nat.le_trans h.wt hW, Nat.le_trans h.dp hN⟩
theorem Sz.shaped {B W N : Nat} {d : D} (h : Sz B W N d) (hN : N ≤ 64) : SeqAt.shaped d = true := by
  unfold SeqAt.shaped
  rw [good_lay d h.good, Bool.true_and]
  exact decide_eq_true (Nat.le_trans h.dp hN)
theorem Sz.eqv {B W N : Nat} {d : D} (h : Sz B W N d) : PyData.eqv d d = true := SeqAt.eqv_refl d (good_lay d h.good)
theorem weight_int (i : Int) {B : Nat} (h : i.natAbs < 2 ^ B) : (PyData.int i).weight ≤ B := by
  simp only [PyData.weight]
  split
  · omega
  · rename_i h0
    have h0 : i.natAbs ≠ 0 := by
      have : i ≠ 0 := by simpa using h0
      omega
    exact (Nat.log2_lt h0).mpr h
theorem Sz.int {i : Int} {B N : Nat} (h : i.natAbs < 2 ^ B) : Sz B B N (.int i) := ⟨by simp only [VI.good, decide_eq_true_eq]; exact h, weight_int i h, by simp only [PyData.depth]; omega⟩
/-- the whole of a list -/
structure SzAll (B W N : Nat) (ds : List D) : Prop where
  good : goodAll B ds = true
  wt : PyData.weightAll ds ≤ W
  dp : PyData.depthAll ds ≤ N
theorem Sz.list {B W N : Nat} {ds : List D} (h : SzAll B W N ds) : Sz B W (N + 1) (.list ds) := ⟨by simp only [VI.good]; exact h.good, by simp only [PyData.weight]; exact h.wt, by simp only [PyData.depth]; exact Nat.succ_le_succ h.dp⟩
theorem Sz.tuple {B W N : Nat} {ds : List D} (h : SzAll B W N ds) : Sz B W (N + 1) (.tuple ds) := ⟨by simp only [VI.good]; exact h.good, by simp only [PyData.weight]; exact h.wt, by simp only [PyData.depth]; exact Nat.succ_le_succ h.dp⟩
theorem Sz.of_list {B W N : Nat} {ds : List D} (h : Sz B W N (.list ds)) : SzAll B W (N - 1) ds ∧ 0 < N := by
  have h1 := h.good; have h2 := h.wt; have h3 := h.dp
  simp only [VI.good, PyData.weight, PyData.depth] at h1 h2 h3
  exact ⟨⟨h1, h2, by omega⟩, by omega⟩
theorem Sz.of_tuple {B W N : Nat} {ds : List D} (h : Sz B W N (.tuple ds)) : SzAll B W (N - 1) ds ∧ 0 < N := by
  have h1 := h.good; have h2 := h.wt; have h3 := h.dp
  simp only [VI.good, PyData.weight, PyData.depth] at h1 h2 h3
  exact ⟨⟨h1, h2, by omega⟩, by omega⟩
theorem SzAll.nil {B W N : Nat} : SzAll B W N [] := ⟨by simp only [goodAll], by simp only [PyData.weightAll]; omega, by simp only [PyData.depthAll]; omega⟩
theorem SzAll.cons {B W W' N : Nat} {d : D} {ds : List D} (h : Sz B W N d) (r : SzAll B W' N ds) : SzAll B (W + 1 + W') N (d :: ds) :=
  ⟨by simp only [goodAll, h.good, r.good, Bool.and_self], by have := h.wt; have := r.wt; simp only [PyData.weightAll]; omega, by simp only [PyData.depthAll]; exact Nat.max_le.mpr ⟨h.dp, r.dp⟩⟩
theorem SzAll.mono {B B' W W' N N' : Nat} {d : List D} (h : SzAll B W N d) (hB : B ≤ B') (hW : W ≤ W') (hN : N ≤ N') : SzAll B' W' N' d := ⟨goodAll_mono hB d h.good, Nat.le_trans h.wt hW, Nat.le_trans h.dp hN⟩
theorem weightAll_append : ∀ xs ys : List D, PyData.weightAll (xs ++ ys) = PyData.weightAll xs + PyData.weightAll ys
  | [], ys => by simp only [List.nil_append, PyData.weightAll]; omega
  | x :: xs, ys => by simp only [List.cons_append, PyData.weightAll, weightAll_append xs ys]; omega
theorem depthAll_append : ∀ xs ys : List D, PyData.depthAll (xs ++ ys) = max (PyData.depthAll xs) (PyData.depthAll ys)
  | [], ys => by simp only [List.nil_append, PyData.depthAll]; omega
  | x :: xs, ys => by simp only [List.cons_append, PyData.depthAll, depthAll_append xs ys]; omega
theorem SzAll.append {B W W' N : Nat} {xs ys : List D} (h : SzAll B W N xs) (r : SzAll B W' N ys) : SzAll B (W + W') N (xs ++ ys) :=
  ⟨goodAll_iff.mpr fun x hx => by
      rcases List.mem_append.mp hx with hx | hx
      · exact goodAll_iff.mp h.good x hx
      · exact goodAll_iff.mp r.good x hx, by have := h.wt; have := r.wt; rw [weightAll_append]; omega, by rw [depthAll_append]; exact Nat.max_le.mpr ⟨h.dp, r.dp⟩⟩
theorem SzAll.split {B W N : Nat} {xs ys : List D} (h : SzAll B W N (xs ++ ys)) : SzAll B (PyData.weightAll xs) N xs ∧ SzAll B (PyData.weightAll ys) N ys ∧ PyData.weightAll xs + PyData.weightAll ys ≤ W := by
  have h2 := h.wt; have h3 := h.dp
  rw [weightAll_append] at h2
  rw [depthAll_append] at h3
  exact ⟨⟨goodAll_iff.mpr fun x hx => goodAll_iff.mp h.good x (List.mem_append_left _ hx), Nat.le_refl _, by omega⟩, ⟨goodAll_iff.mpr fun x hx => goodAll_iff.mp h.good x (List.mem_append_right _ hx), Nat.le_refl _, by omega⟩, h2⟩
theorem SzAll.take {B W N : Nat} {xs : List D} (h : SzAll B W N xs) (n : Nat) : SzAll B W N (xs.take n) := by
  rw [← List.take_append_drop n xs] at h
  obtain ⟨h1, h2, h3⟩ := h.split
  exact h1.mono (Nat.le_refl _) (by omega) (Nat.le_refl _)
theorem SzAll.drop {B W N : Nat} {xs : List D} (h : SzAll B W N xs) (n : Nat) : SzAll B W N (xs.drop n) := by
  rw [← List.take_append_drop n xs] at h
  obtain ⟨h1, h2, h3⟩ := h.split
  exact h2.mono (Nat.le_refl _) (by omega) (Nat.le_refl _)
theorem SzAll.cut {B W N : Nat} {xs : List D} (h : SzAll B W N xs) (lo hi : Option Int) : SzAll B W N (cutD xs lo hi) := (h.drop _).take _
/-- an item, and the list without it -/
theorem SzAll.at {B W N : Nat} {xs : List D} (h : SzAll B W N xs) {i : Nat} {d : D} (hi : xs[i]? = some d) : Sz B d.weight N d ∧ d.weight + 1 ≤ W ∧ ∀ {B' W' N' : Nat} {d' : D}, Sz B' W' N' d' → B ≤ B' → N ≤ N' → SzAll B' (W - d.weight + W') N' (xs.set i d') := by
  have hlt := (List.getElem?_eq_some_iff.mp hi).1
  have hd : xs = xs.take i ++ d :: xs.drop (i + 1) := by
    have h1 := List.take_append_drop i xs
    rw [List.drop_eq_getElem_cons hlt] at h1
    have h2 := (List.getElem?_eq_some_iff.mp hi).2
    rw [h2] at h1
    exact h1.symm
  have h' := h
  rw [hd] at h'
  obtain ⟨h1, h2, h3⟩ := h'.split
  have g2 := h2.good; have d2 := h2.dp
  simp only [goodAll, Bool.and_eq_true, PyData.depthAll] at g2 d2
  simp only [PyData.weightAll] at h3
  refine ⟨⟨g2.1, Nat.le_refl _, by omega⟩, by omega, fun {B' W' N' d'} z hB hN => ?_⟩
  have e : xs.set i d' = xs.take i ++ d' :: xs.drop (i + 1) := List.set_eq_take_append_cons_drop .. |>.trans (by rw [if_pos hlt])
  rw [e]
  have r2 : SzAll B' (PyData.weightAll (xs.drop (i + 1))) N' (xs.drop (i + 1)) := ⟨goodAll_mono hB _ g2.2, Nat.le_refl _, by omega⟩
  exact (((h1.mono hB (Nat.le_refl _) hN).append (.cons z r2))).mono (Nat.le_refl _) (by omega) (Nat.le_refl _)
theorem SzAll.ints {B N : Nat} : ∀ {ns : List Int}, (∀ n ∈ ns, n.natAbs < 2 ^ B) → SzAll B ((B + 1) * ns.length) N (ns.map .int)
  | [], _ => .nil
  | n :: ns, h => (SzAll.cons (Sz.int (h n List.mem_cons_self)) (SzAll.ints fun m hm => h m (List.mem_cons_of_mem _ hm))).mono (Nat.le_refl _) (by rw [List.length_cons, Nat.mul_add, Nat.mul_one]; omega) (Nat.le_refl _)
theorem len_le_weight : ∀ ds : List D, ds.length ≤ PyData.weightAll ds
  | [] => by simp [PyData.weightAll]
  | d :: ds => by have := len_le_weight ds; simp only [List.length_cons, PyData.weightAll]; omega
theorem ixN_nat {n i : Nat} (h : i < n) : ixN n (i : Int) = some i := by
  unfold ixN
  rw [if_pos (by omega), if_pos (by omega)]; rfl
end VI
set_option Elab.async false
set_option linter.all false
set_option maxRecDepth 100000
set_option maxHeartbeats 4000000
namespace VI
open PySem PySem.Spec PyProof.Rows L2
theorem SzAll.rep {B W N : Nat} {x : D} (h : Sz B W N x) : ∀ k : Nat, SzAll B ((W + 1) * k) N (List.replicate k x)
  | 0 => .nil
  | k + 1 => by
    rw [List.replicate_succ]
    exact (SzAll.cons h (SzAll.rep h k)).mono (Nat.le_refl _) (by rw [Nat.mul_add, Nat.mul_one]; omega) (Nat.le_refl _)
section
variable {e : Env} {d : D} {ds : List D}
/-- a slot that may be stored to -/
def Fr : Option Sv → Prop := fun o => match o with
  | some (.lent _) => False
  | some (.io _) => False
  | some (.tr _ _) => False
  | _ => True
@[simp] theorem Fr_none : Fr none = True := rfl
@[simp] theorem Fr_fz : Fr (some (.fz d)) = True := rfl
@[simp] theorem Fr_own : Fr (some (.own ds)) = True := rfl
theorem okP_fr {o : Option Sv} (h : Fr o) {i : Nat} {z : Sv} {Q : Po Fl} : okP (some o) i z e Q = Q .nx (e.set i (some z)) := by
  cases o with
  | none => rfl
  | some x => cases x <;> first | rfl | exact h.elim
theorem put_fr {o : Option Sv} {i : Nat} (h : e[i]? = some o) (f : Fr o) : put i d e = some (e.set i (some (.fz d))) := by
  have : freeAt e i = true := by
    unfold freeAt
    rw [h]
    cases o with
    | none => rfl
    | some x => cases x <;> first | rfl | exact f.elim
  unfold put
  rw [this]; rfl
theorem tgV_fr {o : Option Sv} {i : Nat} (h : e[i]? = some o) (f : Fr o) : (tgV i).run d e = some (e.set i (some (.fz d))) := put_fr h f
/-- what a block's own name is behind it -/
def bkO : Option Sv → Option Sv := fun o => match o with
  | some (.fz d) => some (.fz d)
  | _ => none
@[simp] theorem Fr_bkO {o : Option Sv} : Fr (bkO o) = True := by
  cases o with
  | none => rfl
  | some x => cases x <;> rfl
@[simp] theorem bkO_none : bkO none = none := rfl
@[simp] theorem bkO_fz : bkO (some (.fz d)) = some (.fz d) := rfl
@[simp] theorem bkO_own : bkO (some (.own ds)) = none := rfl
def bakS (o : Option (Option Sv)) (i : Nat) (e : Env) : Env := match o with
  | some o => e.set i (bkO o)
  | none => e.set i none
@[simp] theorem bkS_some {o : Option Sv} {i : Nat} : bakS (some o) i e = e.set i (bkO o) := rfl
@[simp] theorem backE_nil {e0 : Env} : backE e0 [] e = e := rfl
@[simp] theorem backE_cons {e0 : Env} {i : Nat} {is : List Nat} : backE e0 (i :: is) e = bakS e0[i]? i (backE e0 is e) := by
  show (match e0[i]? with | some (some (.fz d)) => (backE e0 is e).set i (some (.fz d)) | _ => (backE e0 is e).set i none) = _
  cases e0[i]? with
  | none => rfl
  | some o => cases o with
    | none => rfl
    | some x => cases x <;> rfl
@[simp] theorem wipeE_nil : wipeE e [] = e := rfl
@[simp] theorem wipeE_cons {i : Nat} {is : List Nat} : wipeE e (i :: is) = (wipeE e is).set i none := rfl
@[simp] theorem unlend_is0 : unlend [] e = e := rfl
def unlS (is : List Nat) (o : Option (Option Sv)) (i : Nat) (e : Env) : Env := match o with
  | some (some (.lent ds)) => unlend is (e.set i (some (.own ds)))
  | _ => unlend is e
@[simp] theorem unS_lent {is : List Nat} {i : Nat} : unlS is (some (some (.lent ds))) i e = unlend is (e.set i (some (.own ds))) := rfl
@[simp] theorem unlend_is {i : Nat} {is : List Nat} : unlend (i :: is) e = unlS is e[i]? i e := by
  show (match e[i]? with | some (some (.lent ds)) => unlend is (e.set i (some (.own ds))) | _ => unlend is e) = _
  unfold unlS
  cases e[i]? with
  | none => rfl
  | some o => cases o with
    | none => rfl
    | some x => cases x <;> rfl
def kCy (own : List Nat) (J : List D → Env → Prop) (ys : List D) : Po D := fun y e => J (ys ++ [y]) (wipeE e own)
@[simp] theorem kCy_eq {own : List Nat} {J : List D → Env → Prop} {ys : List D} : kCy own J ys d e = J (ys ++ [d]) (wipeE e own) := rfl
def kCt (elt : Ev) (own : List Nat) (J : List D → Env → Prop) (ys : List D) : Po Bool := fun w e => if w then Ok (elt e) (kFrz (kCy own J ys)) else J ys (wipeE e own)
@[simp] theorem kCt_t {elt : Ev} {own : List Nat} {J : List D → Env → Prop} {ys : List D} : kCt elt own J ys true e = Ok (elt e) (kFrz (kCy own J ys)) := rfl
@[simp] theorem kCt_f {elt : Ev} {own : List Nat} {J : List D → Env → Prop} {ys : List D} : kCt elt own J ys false e = J ys (wipeE e own) := rfl
@[simp] theorem kCt_d {m : Prop} [Decidable m] {elt : Ev} {own : List Nat} {J : List D → Env → Prop} {ys : List D} : kCt elt own J ys (decide m) e = if m then Ok (elt e) (kFrz (kCy own J ys)) else J ys (wipeE e own) := by by_cases h : m <;> simp [h, kCt]
theorem lcTurns_ok {t : Tg} {c : Sem1 Bool} {elt : Ev} {own : List Nat} : ∀ {items : List D} {e : Env} {ys : List D} (J : Nat → List D → Env → Prop), J 0 ys e →
    (∀ i d ys e, items[i]? = some d → J i ys e → ∃ e1, t.run d e = some e1 ∧ Ok (c e1) (kCt elt own (J (i + 1)) ys)) →
    ∃ zs e2, lcTurns t c elt own items e = some (zs, e2) ∧ J items.length (ys ++ zs) e2
  | [], e, ys, J, h0, _ => ⟨[], e, rfl, by rw [List.append_nil]; exact h0⟩
  | d :: ds, e, ys, J, h0, hs => by
    obtain ⟨e1, h1, h2⟩ := hs 0 d ys e rfl h0
    obtain ⟨w, e2, h3, h4⟩ := ok_get h2
    unfold lcTurns
    rw [h1]
    simp only [h3]
    cases w with
    | false =>
      obtain ⟨zs, e3, k1, k2⟩ := lcTurns_ok (items := ds) (fun i => J (i + 1)) h4 (fun i d ys e hi => hs (i + 1) d ys e hi)
      exact ⟨zs, e3, k1, k2⟩
    | true =>
      have h4 : Ok (elt e2) (kFrz (kCy own (J (0 + 1)) ys)) := h4
      rw [← ok_toD] at h4
      obtain ⟨y, e3, h5, h6⟩ := ok_get h4
      obtain ⟨zs, e4, k1, k2⟩ := lcTurns_ok (items := ds) (fun i => J (i + 1)) h6 (fun i d ys e hi => hs (i + 1) d ys e hi)
      refine ⟨y :: zs, e4, ?_, by rw [List.append_assoc] at k2; exact k2⟩
      simp only [h5, k1]
      rfl
/-- THE RULE for a comprehension: J i ys e ahead of the i-th item, ys found so far -/
theorem lcG_ok {t : Tg} {c : Sem1 Bool} {elt : Ev} {own : List Nat} {Q : Po Rv} {z : Src} (J : Nat → List D → Env → Prop) (hl : z.items.length ≤ sizeLine) (hi : ∀ i ∈ t.ix, i ∈ own) (h0 : J 0 [] (wipeE e own))
    (hs : ∀ i d ys e, z.items[i]? = some d → J i ys e → ∃ e1, t.run d e = some e1 ∧ Ok (c e1) (kCt elt own (J (i + 1)) ys))
    (hq : ∀ ys e2, J z.items.length ys e2 → Q (.fresh ys) (unlend z.lend (backE e own e2))) : kLc t c elt own Q z e := by
  obtain ⟨zs, e2, k1, k2⟩ := lcTurns_ok J h0 hs
  exact ⟨⟨hl, hi⟩, zs, e2, k1, hq _ _ k2⟩
@[simp] theorem ok_yes' {elt : Ev} {own : List Nat} {J : List D → Env → Prop} {ys : List D} : Ok (yesT e) (kCt elt own J ys) = Ok (elt e) (kFrz (kCy own J ys)) := rfl
/-- .. of a map -/
theorem lcM_ok {t : Tg} {elt : Ev} {own : List Nat} {Q : Po Rv} {z : Src} (h : D → D) (hl : z.items.length ≤ sizeLine) (hi : ∀ i ∈ t.ix, i ∈ own)
    (hs : ∀ d ∈ z.items, ∃ e1, t.run d (wipeE e own) = some e1 ∧ Ok (elt e1) (kFrz fun y e2 => y = h d ∧ wipeE e2 own = wipeE e own))
    (hq : Q (.fresh (z.items.map h)) (unlend z.lend (backE e own (wipeE e own)))) : kLc t yesT elt own Q z e :=
  ⟨⟨hl, hi⟩, _, _, lc_map h hs, hq⟩
def kBrk (l : List Nat) (Q : Po Fl) : Env → Prop := fun e => Q .nx (unlend l e)
def kRtn (l : List Nat) (Q : Po Fl) : Rv → Env → Prop := fun r e => Q (.ret r) (unlend l e)
@[simp] theorem kBrk_eq {l : List Nat} {Q : Po Fl} : kBrk l Q e = Q .nx (unlend l e) := rfl
@[simp] theorem kRtn_eq {l : List Nat} {Q : Po Fl} {r : Rv} : kRtn l Q r e = Q (.ret r) (unlend l e) := rfl
theorem for_ok2 {t : Tg} {b : St1} {Q : Po Fl} {z : Src} (I : Nat → Env → Prop) (h0 : I 0 e)
    (hs : ∀ i d e, z.items[i]? = some d → I i e → ∃ e1, t.run d e = some e1 ∧ Ok (b e1) (endT (I (i + 1)) (kBrk z.lend Q) (kRtn z.lend Q))) (hq : ∀ e, I z.items.length e → Q .nx (unlend z.lend e)) : kFor t b Q z e :=
  for_ok I h0 hs hq
abbrev noB : Env → Prop := fun _ => False
abbrev noR : Rv → Env → Prop := fun _ _ => False
theorem endT_mono {I I' B : Env → Prop} {R : Rv → Env → Prop} (h : ∀ e, I e → I' e) : ∀ w e, endT I noB noR w e → endT I' B R w e := fun w e q => by
  cases w with
  | nx => exact h e q
  | ct => exact h e q
  | bk => exact q.elim
  | ret r => exact q.elim
/-- a loop that is not left in the middle -/
theorem for_okN {t : Tg} {b : St1} {Q : Po Fl} {z : Src} (I : Nat → Env → Prop) (h0 : I 0 e)
    (hs : ∀ i d e, z.items[i]? = some d → I i e → ∃ e1, t.run d e = some e1 ∧ Ok (b e1) (endT (I (i + 1)) noB noR)) (hq : ∀ e, I z.items.length e → Q .nx (unlend z.lend e)) : kFor t b Q z e :=
  for_ok2 I h0 (fun i d e hi h => by
    obtain ⟨e1, h1, h2⟩ := hs i d e hi h
    exact ⟨e1, h1, Ok.mono h2 (endT_mono fun _ h => h)⟩) hq
def kWh (b : St1) (J : Env → Prop) (E : Env → Prop) : Po Bool := fun w e => if w then Ok (b e) (endT J noB noR) else E e
@[simp] theorem kWh_t {b : St1} {J E : Env → Prop} : kWh b J E true e = Ok (b e) (endT J noB noR) := rfl
@[simp] theorem kWh_f {b : St1} {J E : Env → Prop} : kWh b J E false e = E e := rfl
@[simp] theorem kWh_d {m : Prop} [Decidable m] {b : St1} {J E : Env → Prop} : kWh b J E (decide m) e = if m then Ok (b e) (endT J noB noR) else E e := by by_cases h : m <;> simp [h, kWh]
@[simp] theorem kWh_nd {m : Prop} [Decidable m] {b : St1} {J E : Env → Prop} : kWh b J E (!decide m) e = if m then E e else Ok (b e) (endT J noB noR) := by by_cases h : m <;> simp [h, kWh]
end
theorem ixLast {n : Nat} : ixN (n + 1) (-1) = some n := by
  unfold ixN
  rw [if_neg (by omega), if_pos (by omega)]
  congr 1; omega
theorem atLast {l : List D} {x : D} : atI (l ++ [x]) (-1) = some x := by
  unfold atI
  rw [List.length_append, List.length_singleton, ixLast]
  simp
end VI
set_option Elab.async false
set_option linter.all false
set_option maxRecDepth 100000
set_option maxHeartbeats 4000000
namespace VI
open PySem PySem.Spec PyProof.Rows L2
@[simp] theorem szE : sizeLine = 16777216 := sizeLine_eq
@[simp] theorem atI_0 {x : D} {xs : List D} : atI (x :: xs) 0 = some x := by
  unfold atI
  rw [show ixN (x :: xs).length 0 = some 0 from ixN_nat (by simp)]; rfl
@[simp] theorem atI_1 {x y : D} {xs : List D} : atI (x :: y :: xs) 1 = some y := by
  unfold atI
  rw [show ixN (x :: y :: xs).length 1 = some 1 from ixN_nat (i := 1) (by simp)]; rfl
@[simp] theorem atI_2 {x y z : D} {xs : List D} : atI (x :: y :: z :: xs) 2 = some z := by
  unfold atI
  rw [show ixN (x :: y :: z :: xs).length 2 = some 2 from ixN_nat (i := 2) (by simp)]; rfl
section
variable {e : Env} {d : D} {ds : List D} {i : Nat} {o : Option Sv}
def putP (o : Option (Option Sv)) (i : Nat) (d : D) (e : Env) : Option Env := match o with
  | some (some (.lent _)) => none
  | some (some (.io _)) => none
  | some (some (.tr _ _)) => none
  | some _ => some (e.set i (some (.fz d)))
  | none => none
@[simp] theorem putP_none : putP (some none) i d e = some (e.set i (some (.fz d))) := rfl
@[simp] theorem putP_fz {d' : D} : putP (some (some (.fz d'))) i d e = some (e.set i (some (.fz d))) := rfl
@[simp] theorem putP_own : putP (some (some (.own ds))) i d e = some (e.set i (some (.fz d))) := rfl
@[simp] theorem put_P : put i d e = putP e[i]? i d e := by
  unfold put freeAt putP
  cases e[i]? with
  | none => rfl
  | some o => cases o with
    | none => rfl
    | some x => cases x <;> rfl
@[simp] theorem tgV_run : (tgV i).run d e = put i d e := rfl
@[simp] theorem tgT_run {ts : List Tg} : (tgT ts).run (.tuple ds) e = tgRun ts ds e := rfl
@[simp] theorem tgT_runL {ts : List Tg} : (tgT ts).run (.list ds) e = tgRun ts ds e := rfl
@[simp] theorem tgRun_nil : tgRun [] [] e = some e := rfl
@[simp] theorem tgRun_cons {t : Tg} {ts : List Tg} : tgRun (t :: ts) (d :: ds) e = (t.run d e).bind fun e1 => tgRun ts ds e1 := rfl
def okTg (o : Option Env) (Q : Po Fl) : Prop := match o with
  | none => False
  | some e1 => Q .nx e1
@[simp] theorem okTg_some {Q : Po Fl} : okTg (some e) Q = Q .nx e := rfl
def kTg (t : Tg) (Q : Po Fl) : Po D := fun d e => okTg (t.run d e) Q
@[simp] theorem kTg_eq {t : Tg} {Q : Po Fl} : kTg t Q d e = okTg (t.run d e) Q := rfl
@[simp] theorem ok_asgT {t : Tg} {a : Ev} {Q : Po Fl} : Ok (asgTS t a e) Q = Ok (a e) (kFrz (kTg t Q)) := by
  unfold asgTS
  rw [ok_bind, ok_toD]
  congr 2
  funext d e1
  show _ = okTg (t.run d e1) Q
  cases t.run d e1 <;> rfl
end
@[simp] theorem fmPop_eq {xs : List D} : fmPop xs [] = (xs.getLast?).map fun d => (d, xs.dropLast) := rfl
/-- f writes plain values as data of depth at most k; == tells them apart -/
structure Enc {α : Type} [DecidableEq α] (k : Nat) (f : α → D) : Prop where
  eqv : ∀ a b, PyData.eqv (f a) (f b) = decide (a = b)
  lay : ∀ a, (f a).canLay0 = true
  dp : ∀ a, (f a).depth ≤ k
section
variable {α β : Type} [DecidableEq α] [DecidableEq β] {k l : Nat} {f : α → D} {g : β → D}
theorem Enc.mono (h : Enc k f) (e : k ≤ l) : Enc l f := ⟨h.eqv, h.lay, fun a => Nat.le_trans (h.dp a) e⟩
theorem Enc.shaped (h : Enc k f) (hk : k ≤ 64) (a : α) : SeqAt.shaped (f a) = true := by
  unfold SeqAt.shaped
  rw [h.lay a, Bool.true_and]
  exact decide_eq_true (Nat.le_trans (h.dp a) hk)
theorem Enc.eqvAll (h : Enc k f) : ∀ as bs : List α, PyData.eqvAll (as.map f) (bs.map f) = decide (as = bs)
  | [], [] => by simp [PyData.eqvAll]
  | a :: as, [] => by simp [PyData.eqvAll]
  | [], b :: bs => by simp [PyData.eqvAll]
  | a :: as, b :: bs => by
    rw [List.map_cons, List.map_cons]
    simp only [PyData.eqvAll, h.eqv, h.eqvAll as bs]
    by_cases h1 : a = b <;> by_cases h2 : as = bs <;> simp [h1, h2]
theorem Enc.layAll (h : Enc k f) : ∀ as : List α, PyData.canLayAll0 (as.map f) = true
  | [] => by simp only [List.map_nil, PyData.canLayAll0]
  | a :: as => by
    rw [List.map_cons]
    simp only [PyData.canLayAll0, h.lay, h.layAll as, Bool.and_self]
theorem Enc.dpAll (h : Enc k f) : ∀ as : List α, PyData.depthAll (as.map f) ≤ k
  | [] => by simp only [List.map_nil, PyData.depthAll]; omega
  | a :: as => by
    rw [List.map_cons]
    simp only [PyData.depthAll]
    exact Nat.max_le.mpr ⟨h.dp a, h.dpAll as⟩
theorem Enc.list (h : Enc k f) : Enc (k + 1) (fun as : List α => PyData.list (as.map f)) where
  eqv a b := by simp only [PyData.eqv]; exact h.eqvAll a b
  lay a := by simp only [PyData.canLay0]; exact h.layAll a
  dp a := by simp only [PyData.depth]; exact Nat.succ_le_succ (h.dpAll a)
theorem Enc.tuple (h : Enc k f) : Enc (k + 1) (fun as : List α => PyData.tuple (as.map f)) where
  eqv a b := by simp only [PyData.eqv]; exact h.eqvAll a b
  lay a := by simp only [PyData.canLay0]; exact h.layAll a
  dp a := by simp only [PyData.depth]; exact Nat.succ_le_succ (h.dpAll a)
theorem Enc.pair (h : Enc k f) (h' : Enc k g) : Enc (k + 1) (fun p : α × β => PyData.tuple [f p.1, g p.2]) where
  eqv a b := by
    obtain ⟨a1, a2⟩ := a
    obtain ⟨b1, b2⟩ := b
    simp only [PyData.eqv, PyData.eqvAll, h.eqv, h'.eqv]
    by_cases h1 : a1 = b1 <;> by_cases h2 : a2 = b2 <;> simp [h1, h2]
  lay a := by simp only [PyData.canLay0, PyData.canLayAll0, h.lay, h'.lay, Bool.and_self]
  dp a := by simp only [PyData.depth, PyData.depthAll]; have := h.dp a.1; have := h'.dp a.2; omega
theorem Enc.eqD (h : Enc k f) (hk : k ≤ 64) (a b : α) : VI.eqD (f a) (f b) = some (.fz (.bool (decide (a = b)))) := by
  unfold VI.eqD
  rw [h.shaped hk, h.shaped hk, Bool.and_self, Bool.or_true, if_pos rfl, h.eqv]
theorem Enc.neD (h : Enc k f) (hk : k ≤ 64) (a b : α) : VI.neD (f a) (f b) = some (.fz (.bool (!decide (a = b)))) := by
  unfold VI.neD
  rw [h.shaped hk, h.shaped hk, Bool.and_self, Bool.or_true, if_pos rfl, h.eqv]
end
/-- a number from 0 on -/
abbrev nI : Nat → D := fun x => .int (x : Int)
theorem enc_nat : Enc 0 nI := ⟨fun a b => by
  simp only [PyData.eqv]
  by_cases h : a = b
  · subst h; simp
  · have : ¬ ((a : Int) = (b : Int)) := by omega
    simp [h, this], fun a => by simp only [PyData.canLay0], fun a => by simp only [PyData.depth]; omega⟩
/-- two numbers -/
abbrev nP : Nat × Nat → D := fun p => .tuple [.int (p.1 : Int), .int (p.2 : Int)]
theorem enc_pair : Enc 1 nP := enc_nat.pair enc_nat
@[simp] theorem eqD_rowT {a b : List Nat} : eqD (.tuple (a.map nI)) (.tuple (b.map nI)) = some (.fz (.bool (decide (a = b)))) := enc_nat.tuple.eqD (by omega) a b
@[simp] theorem neD_rowT {a b : List Nat} : neD (.tuple (a.map nI)) (.tuple (b.map nI)) = some (.fz (.bool (!decide (a = b)))) := enc_nat.tuple.neD (by omega) a b
@[simp] theorem eqD_rowL {a b : List Nat} : eqD (.list (a.map nI)) (.list (b.map nI)) = some (.fz (.bool (decide (a = b)))) := enc_nat.list.eqD (by omega) a b
@[simp] theorem neD_rowL {a b : List Nat} : neD (.list (a.map nI)) (.list (b.map nI)) = some (.fz (.bool (!decide (a = b)))) := enc_nat.list.neD (by omega) a b
@[simp] theorem neD_rowL0 {a : List Nat} : neD (.list (a.map nI)) (.list []) = some (.fz (.bool (!decide (a = [])))) := enc_nat.list.neD (by omega) a []
@[simp] theorem eqD_rowL0 {a : List Nat} : eqD (.list (a.map nI)) (.list []) = some (.fz (.bool (decide (a = [])))) := enc_nat.list.eqD (by omega) a []
@[simp] theorem neD_rowT0 {a : List Nat} : neD (.tuple (a.map nI)) (.tuple []) = some (.fz (.bool (!decide (a = [])))) := enc_nat.tuple.neD (by omega) a []
@[simp] theorem eqD_rowT0 {a : List Nat} : eqD (.tuple (a.map nI)) (.tuple []) = some (.fz (.bool (decide (a = [])))) := enc_nat.tuple.eqD (by omega) a []
@[simp] theorem eqD_prL {a b : List (Nat × Nat)} : eqD (.list (a.map nP)) (.list (b.map nP)) = some (.fz (.bool (decide (a = b)))) := enc_pair.list.eqD (by omega) a b
@[simp] theorem neD_prL {a b : List (Nat × Nat)} : neD (.list (a.map nP)) (.list (b.map nP)) = some (.fz (.bool (!decide (a = b)))) := enc_pair.list.neD (by omega) a b
@[simp] theorem neD_prL0 {a : List (Nat × Nat)} : neD (.list (a.map nP)) (.list []) = some (.fz (.bool (!decide (a = [])))) := enc_pair.list.neD (by omega) a []
@[simp] theorem neD_nil : neD (.list []) (.list []) = some (.fz (.bool false)) := enc_nat.list.neD (by omega) [] []
@[simp] theorem eqD_nil : eqD (.list []) (.list []) = some (.fz (.bool true)) := enc_nat.list.eqD (by omega) [] []
@[simp] theorem neD_nilT : neD (.tuple []) (.tuple []) = some (.fz (.bool false)) := enc_nat.tuple.neD (by omega) [] []
@[simp] theorem eqD_nilT : eqD (.tuple []) (.tuple []) = some (.fz (.bool true)) := enc_nat.tuple.eqD (by omega) [] []
end VI
set_option Elab.async false
set_option linter.all false
set_option maxRecDepth 100000
set_option maxHeartbeats 4000000
namespace VI
open PySem PySem.Spec PyProof.Rows L2
section
variable {xs : List D}
theorem sIx_some (n d : Nat) (i : Nat) : HT.sIx n d (some (i : Int)) = min i n := by
  show (if (i : Int) < 0 then ((i : Int) + (n : Int)).toNat else min (i : Int).toNat n) = _
  rw [if_neg (by omega)]; rfl
theorem sIx_none (n d : Nat) : HT.sIx n d none = d := rfl
theorem sIx_neg (n d : Nat) (i : Nat) (h : 0 < i) : HT.sIx n d (some (-(i : Int))) = n - i := by
  show (if -(i : Int) < 0 then (-(i : Int) + (n : Int)).toNat else min (-(i : Int)).toNat n) = _
  rw [if_pos (by omega)]; omega
theorem cut_from (i : Nat) : VI.cutD xs (some (i : Int)) none = xs.drop i := by
  unfold VI.cutD
  rw [sIx_some, sIx_none]
  by_cases h : i ≤ xs.length
  · rw [Nat.min_eq_left h, List.take_of_length_le (by rw [List.length_drop]; omega)]
  · rw [Nat.min_eq_right (by omega), List.drop_length, List.drop_of_length_le (by omega)]; simp
theorem cut_upto (i : Nat) : VI.cutD xs none (some (i : Int)) = xs.take i := by
  unfold VI.cutD
  rw [sIx_some, sIx_none, List.drop_zero, Nat.sub_zero]
  by_cases h : i ≤ xs.length
  · rw [Nat.min_eq_left h]
  · rw [Nat.min_eq_right (by omega), List.take_length, List.take_of_length_le (by omega)]
theorem cut_mid2 (i j : Nat) : VI.cutD xs (some (i : Int)) (some (j : Int)) = (xs.drop i).take (j - i) := by
  unfold VI.cutD
  rw [sIx_some, sIx_some]
  by_cases h : i ≤ xs.length
  · rw [Nat.min_eq_left h]
    by_cases h2 : j ≤ xs.length
    · rw [Nat.min_eq_left h2]
    · rw [Nat.min_eq_right (by omega), List.take_of_length_le (by rw [List.length_drop]; omega), List.take_of_length_le (by rw [List.length_drop]; omega)]
  · rw [show min i xs.length = xs.length by omega, List.drop_length, List.drop_of_length_le (by omega)]; simp
@[simp] theorem cutF0 {i : Nat} : VI.cutD xs (some (i : Int)) none = xs.drop i := cut_from i
@[simp] theorem cutF1 {i : Nat} : VI.cutD xs (some ((i : Int) + 1)) none = xs.drop (i + 1) := cut_from (i + 1)
@[simp] theorem cutF2 {i : Nat} : VI.cutD xs (some ((i : Int) + 2)) none = xs.drop (i + 2) := cut_from (i + 2)
@[simp] theorem cutT0 {i : Nat} : VI.cutD xs none (some (i : Int)) = xs.take i := cut_upto i
@[simp] theorem cutT1 {i : Nat} : VI.cutD xs none (some ((i : Int) + 1)) = xs.take (i + 1) := cut_upto (i + 1)
@[simp] theorem cut12 {i : Nat} : VI.cutD xs (some ((i : Int) + 1)) (some ((i : Int) + 2)) = (xs.drop (i + 1)).take 1 := by
  have := cut_mid2 (xs := xs) (i + 1) (i + 2)
  rw [show i + 2 - (i + 1) = 1 by omega] at this
  exact this
@[simp] theorem cut_one : VI.cutD xs none (some 1) = xs.take 1 := cut_upto 1
@[simp] theorem cutF_one : VI.cutD xs (some 1) none = xs.drop 1 := cut_from 1
@[simp] theorem cut_last : VI.cutD xs none (some (-1)) = xs.dropLast := by
  unfold VI.cutD
  have h := sIx_neg xs.length xs.length 1 (by omega)
  rw [show (-((1 : Nat) : Int)) = -1 from rfl] at h
  rw [h, sIx_none, List.drop_zero, Nat.sub_zero, List.dropLast_eq_take]
@[simp] theorem cut_tail1 : VI.cutD xs (some (-1)) none = xs.drop (xs.length - 1) := by
  unfold VI.cutD
  have h := sIx_neg xs.length 0 1 (by omega)
  rw [show (-((1 : Nat) : Int)) = -1 from rfl] at h
  rw [h, sIx_none, List.take_of_length_le (by rw [List.length_drop]; omega)]
end
theorem nat_ints (l : List Nat) : l.map nI = (l.map fun x : Nat => (x : Int)).map PyData.int := by rw [List.map_map]; rfl
theorem sum_ints : ∀ l : List Nat, (l.map fun x : Nat => (x : Int)).sum = ((l.sum : Nat) : Int)
  | [] => rfl
  | x :: l => by rw [List.map_cons, List.sum_cons, List.sum_cons, sum_ints l]; omega
@[simp] theorem sumD_nat {l : List Nat} : sumD (.tuple (l.map nI)) = some (.fz (.int ((l.sum : Nat) : Int))) := by rw [nat_ints, sumD_mapT, sum_ints]
@[simp] theorem sumD_natL {l : List Nat} : sumD (.list (l.map nI)) = some (.fz (.int ((l.sum : Nat) : Int))) := by rw [nat_ints, sumD_map, sum_ints]
end VI
set_option Elab.async false
set_option linter.all false
set_option maxRecDepth 100000
set_option maxHeartbeats 4000000
namespace VI
open PySem PySem.Spec PyProof.Rows L2
abbrev IsZipF (h : Heap) (z TI TO : Addr) (f0 : Value) (fl : Bool) : Prop :=
  h.get? z = some { cls := .type "zip", dict := none, data := .fields #[f0, .bool fl, .bool false, .ref TI, .ref TO], slots := #[] }
section
variable {prog : Program} {w : World} {A : Around} {E : Value → Shared → Prop} {s : Shared} {z TI TO i1 i2 T0 : Addr} {fp1 fp2 : List Addr} {n1 n2 i : Nat} {P1 P2 : Nat → Value → Prop} {St1 St2 : Nat → Heap → Prop} {fl : Bool} {oT : Obj}
/-- the zip's cells ahead of the i-th item, S a cell of others -/
def ZSt (z TI TO i1 i2 : Addr) (St1 St2 : Nat → Heap → Prop) (S : Addr) (i : Nat) (h : Heap) : Prop :=
  IsTupOf2 h TI (.ref i1) (.ref i2) ∧ St1 i h ∧ St2 i h ∧ ((i = 0 ∧ IsZip h z TI TO .none ∧ ∃ a1 a2, IsTupOf2 h TO a1 a2) ∨
    ∃ (T0 : Addr) (fl : Bool) (oT : Obj), IsZipF h z TI TO (rawInt T0) fl ∧ h.get? T0 = some oT ∧ T0 ≠ z ∧ T0 ≠ i1 ∧ T0 ≠ i2 ∧ T0 ≠ S)
theorem ZSt.keep {Sc : Addr} {h h' : Heap} (S : ZipSep2 z TI TO i1 i2 fp1 fp2) (D1 : Draws prog w A.in1 i1 fp1 n1 P1 St1) (D2 : Draws prog w A.in1 i2 fp2 n2 P2 St2) (st : ZSt z TI TO i1 i2 St1 St2 Sc i h) (hk : ∀ b o, b ≠ Sc → h.get? b = some o → h'.get? b = some o)
    (sz : z ≠ Sc) (sI : TI ≠ Sc) (sO : TO ≠ Sc) (s1 : Sc ∉ fp1) (s2 : Sc ∉ fp2) : ZSt z TI TO i1 i2 St1 St2 Sc i h' := by
  obtain ⟨hTI, st1, st2, hc⟩ := st
  refine ⟨hk _ _ sI hTI, D1.frame _ _ _ st1 fun b hb o e => hk b o (fun q => s1 (q ▸ hb)) e, D2.frame _ _ _ st2 fun b hb o e => hk b o (fun q => s2 (q ▸ hb)) e, ?_⟩
  rcases hc with ⟨h0, hz, a1, a2, hTO⟩ | ⟨T0, fl, oT, hz, hT0, n1', n2', n3, n4⟩
  · exact .inl ⟨h0, hk _ _ sz hz, a1, a2, hk _ _ sO hTO⟩
  · exact .inr ⟨T0, fl, oT, hk _ _ sz hz, hk _ _ n4 hT0, n1', n2', n3, n4⟩
/-- the tuples made so far -/
structure KzG (P1 P2 : Nat → Value → Prop) (lo : Addr) (h : Heap) (as : List Addr) : Prop where
  rise : as.Pairwise (· < ·)
  above : ∀ a ∈ as, lo < a
  pairs : ∀ (j : Nat) (a : Addr), as[j]? = some a → ∃ x y, P1 j x ∧ P2 j y ∧ IsTupOf2 h a x y
theorem KzG.there {lo : Addr} {h : Heap} {as : List Addr} (g : KzG P1 P2 lo h as) {a : Addr} (ha : a ∈ as) : a < h.objs.size := by
  obtain ⟨j, hj⟩ := List.mem_iff_getElem?.mp ha
  obtain ⟨_, _, _, _, e⟩ := g.pairs j a hj
  exact Heap.lt_size e
end
def seqD : D → Option (List D)
  | .list ds => some ds
  | .tuple ds => some ds
  | _ => none
def lzD : D → D → Option Rv := fun x y => (seqD x).bind fun xs => (seqD y).bind fun ys => some (.fresh (zipD xs ys))
section
variable {K : PySem.W.Frag} {C : Cf} {F H : Hp} {e : Env} {σ : L2.St}
end
end VI
set_option Elab.async false
set_option linter.all false
set_option maxRecDepth 100000
set_option maxHeartbeats 4000000
namespace VI
open PySem PySem.Spec PyProof.Rows L2
variable {K : PySem.W.Frag} {C : Cf} {F H : Hp} {e e' : Env} {σ : L2.St}
/-- f(a), a a new list that f may change -/
def eIx (fn : List D → List D → Option (Ret × List D)) (a : Ev) : Ev := fun e => (a e).bind fun r e1 => match r with
  | .fresh b => match fn b [] with
    | none => .no
    | some (.ok r, _) => .ok r e1
    | some (.ex x, _) => .ex x e1
  | _ => .no
def okIx (z : Option (Ret × List D)) (e : Env) (Q : Po Rv) : Prop := match z with
  | some (.ok r, _) => Q r e
  | _ => False
def kIx (fn : List D → List D → Option (Ret × List D)) (Q : Po Rv) : Po Rv := fun r e => match r with
  | .fresh b => okIx (fn b []) e Q
  | _ => False
@[simp] theorem kIx_eq {fn : List D → List D → Option (Ret × List D)} {Q : Po Rv} {b : List D} : kIx fn Q (.fresh b) e = okIx (fn b []) e Q := rfl
@[simp] theorem ok_Ix {fn : List D → List D → Option (Ret × List D)} {a : Ev} {Q : Po Rv} : Ok (eIx fn a e) Q = Ok (a e) (kIx fn Q) := by
  unfold eIx
  rw [ok_bind]
  congr 1
  funext r e1
  cases r with
  | fz d => rfl
  | bor i => rfl
  | fresh b =>
    show Ok (match fn b [] with | none => .no | some (.ok r, _) => .ok r e1 | some (.ex x, _) => .ex x e1) Q = okIx (fn b []) e1 Q
    cases fn b [] with
    | none => rfl
    | some w =>
      obtain ⟨w1, w2⟩ := w
      cases w1 <;> rfl
@[simp] theorem lzD_tt {xs ys : List D} : lzD (.tuple xs) (.tuple ys) = some (.fresh (zipD xs ys)) := rfl
@[simp] theorem lzD_tl {xs ys : List D} : lzD (.tuple xs) (.list ys) = some (.fresh (zipD xs ys)) := rfl
@[simp] theorem lzD_lt {xs ys : List D} : lzD (.list xs) (.tuple ys) = some (.fresh (zipD xs ys)) := rfl
@[simp] theorem lzD_ll {xs ys : List D} : lzD (.list xs) (.list ys) = some (.fresh (zipD xs ys)) := rfl
end VI
set_option Elab.async false
set_option linter.all false
set_option maxRecDepth 100000
set_option maxHeartbeats 4000000
namespace VI
open PySem PySem.Spec PyProof.Rows L2
section
variable {e : Env} {f g : F2} {a b c : Ev} {r x y : Rv}
def kC3 (g : F2) (y : Rv) (Q : Po Rv) : Po Rv := kOpd fun z e4 => Ok (ofO (ap2 g y z e4) e4) Q
@[simp] theorem kC3_eq {Q : Po Rv} : kC3 g y Q r e = okO (ap2 g y (calmR r) e) e Q := ok_ofO
def kCb (g : F2) (y : Rv) (c : Ev) (Q : Po Rv) : Po Bool := fun k e => if k = true then Ok (c e) (kC3 g y Q) else Q (.fz (.bool false)) e
@[simp] theorem kCb_eq {Q : Po Rv} {k : Bool} : kCb g y c Q k e = if k = true then Ok (c e) (kC3 g y Q) else Q (.fz (.bool false)) e := rfl
def kC2 (f g : F2) (x : Rv) (c : Ev) (Q : Po Rv) : Po Rv := kOpd fun y e2 => Ok (ofO ((ap2 f x y e2).bind fun r => asB r e2) e2) (kCb g y c Q)
@[simp] theorem kC2_eq {Q : Po Rv} : kC2 f g x c Q r e = okO ((ap2 f x (calmR r) e).bind fun r => asB r e) e (kCb g (calmR r) c Q) := ok_ofO
def kC1 (f g : F2) (b c : Ev) (Q : Po Rv) : Po Rv := kOpd fun x e1 => Ok (b e1) (kC2 f g x c Q)
@[simp] theorem kC1_eq {Q : Po Rv} : kC1 f g b c Q r e = Ok (b e) (kC2 f g (calmR r) c Q) := rfl
@[simp] theorem asB_bool {k : Bool} : asB (.fz (.bool k)) e = some k := rfl
@[simp] theorem ok_chain2 {Q : Po Rv} : Ok (chain2 f g a b c e) Q = Ok (a e) (kC1 f g b c Q) := by
  unfold chain2
  rw [ok_bind, ok_opd]
  congr 1
  funext x e1
  show Ok (_) Q = Ok (b e1) (kC2 f g (calmR x) c Q)
  rw [ok_bind, ok_opd]
  congr 1
  funext y e2
  show Ok (_) Q = Ok _ (kCb g (calmR y) c Q)
  rw [ok_bind]
  congr 1
  funext k e3
  cases k with
  | false => rfl
  | true =>
    show Ok ((opd c e3).bind _) Q = Ok (c e3) (kC3 g (calmR y) Q)
    rw [ok_bind, ok_opd]; rfl
end
end VI
set_option Elab.async false
set_option linter.all false
set_option maxRecDepth 100000
set_option maxHeartbeats 4000000
namespace VI
open PySem PySem.Spec PyProof.Rows L2
variable {K : PySem.W.Frag} {C : Cf} {F H : Hp} {e e' : Env} {σ : L2.St}
theorem RvR.grow {p : Addr} {o : HO} (R : Rp K C F H e σ) (hp : H p = none) {r : Rv} {v : V} (h : RvR K C F H e σ r v) : RvR K C (upd F p o) (upd H p o) e σ r v := by
  have hF : F p = none := R.ext.free hp
  cases r with
  | fz d => exact Dp.ext (Ext.new hF) h
  | bor i => exact h
  | fresh ds =>
    obtain ⟨q, ws, rfl, k1, k2, k3, k4, k5⟩ := h
    refine ⟨q, ws, rfl, ?_, k2.ext (Ext.new hF), by rw [upd_ne (fun z => by rw [z, hp] at k1; cases k1)]; exact k3, k4, k5.1, fun i fp ht => k5.2 i fp (R.trBack (fun a h0 _ _ _ => upd_ne (fun z => h0 (z ▸ hp))) ht)⟩
    rw [upd_ne (fun z => by rw [z, hp] at k1; cases k1)]
    exact k1
theorem RMs.grow {p : Addr} {o : HO} (R : Rp K C F H e σ) (hp : H p = none) : ∀ {rs : List Rv} {vs : List V}, RMs K C F H e σ rs vs → RMs K C (upd F p o) (upd H p o) e σ rs vs
  | [], [], _ => trivial
  | r :: rs, v :: vs, h => ⟨h.1.grow R hp, h.2.1, h.2.2.1, RMs.grow R hp h.2.2.2⟩
  | [], _ :: _, h => h.elim
  | _ :: _, [], h => h.elim
end VI
set_option Elab.async false
set_option linter.all false
set_option maxRecDepth 100000
set_option maxHeartbeats 4000000
namespace VI
open PySem PySem.Spec PyProof.Rows L2
variable {K : PySem.W.Frag} {C : Cf} {F H : Hp} {e e' : Env} {σ : L2.St}
def eL1 (fn : List D → List D → Option (Ret × List D)) (i j : Nat) : Ev := fun e => if i = j then .no else match mutAt e i, mutAt e j with
  | some b, some xs => match fn b xs with
    | none => .no
    | some (.ok r, b') => .ok r (putAt e i b')
    | some (.ex x, b') => .ex x (putAt e i b')
  | _, _ => .no
def initL (n : Nat) (b xs : List D) : Env := some (.io b) :: some (.lent xs) :: List.replicate (n - 2) none
section
variable {P : Program} {w : World} {mg : Str → Option Value} {base : Heap} {XR : Hp → Hp → Xc → Value → Option Addr → Prop} {x qual : Str} {st : Stmt} {f : Addr} {fd : FuncData} {N ps : List Str} {k : Nat} {body : St1}
end
def okL1 (fn : List D → List D → Option (Ret × List D)) (i : Nat) (e : Env) (Q : Po Rv) (o o' : Option (List D)) : Prop := match o, o' with
  | some b, some xs => okIo (fn b xs) i e Q
  | _, _ => False
@[simp] theorem okL1_some {fn : List D → List D → Option (Ret × List D)} {Q : Po Rv} {i : Nat} {b xs : List D} : okL1 fn i e Q (some b) (some xs) = okIo (fn b xs) i e Q := rfl
theorem putAt_O {i : Nat} {b : List D} : putAt e i b = putO e[i]? i b e := by
  unfold putAt putO
  split <;> simp_all
@[simp] theorem ok_L1 {fn : List D → List D → Option (Ret × List D)} {i j : Nat} {Q : Po Rv} : Ok (eL1 fn i j e) Q = (i ≠ j ∧ okL1 fn i e Q (mutO e[i]?) (mutO e[j]?)) := by
  unfold eL1
  by_cases h : i = j
  · rw [if_pos h]; simp [h, Ok]
  rw [if_neg h, mut_eq, mut_eq]
  simp only [ne_eq, h, not_false_eq_true, true_and]
  cases mutO e[i]? with
  | none => rfl
  | some b =>
    cases mutO e[j]? with
    | none => rfl
    | some xs =>
      simp only [okL1_some]
      unfold okIo
      cases fn b xs with
      | none => rfl
      | some z =>
        obtain ⟨r, b'⟩ := z
        cases r with
        | ok r => simp only [putAt_O]; rfl
        | ex x => rfl
@[simp] theorem initL_eq {n : Nat} {b xs : List D} : initL n b xs = some (.io b) :: some (.lent xs) :: List.replicate (n - 2) none := rfl
end VI
set_option Elab.async false
set_option linter.all false
set_option maxRecDepth 100000
set_option maxHeartbeats 4000000
namespace VI
open PySem PySem.Spec PyProof.Rows L2
variable {K : PySem.W.Frag} {C : Cf} {F H : Hp} {e e' : Env} {σ : L2.St}
def orL (a b : Ev) : Ev := fun e => (a e).bind fun x e1 => match x with
  | .fresh [] => b e1
  | .fresh (d :: ds) => .ok (.fresh (d :: ds)) e1
  | _ => .no
section
variable {w : Wd} {X : Cx} {a b : Expr} {rest : List Expr} {ea eb : Ev} {pos : Pos}
theorem ve_orL (ha : PE X a (rdR w ea)) (hb : PE X (.BoolOp .Or (b :: rest) pos) (rdR w eb)) : PE X (.BoolOp .Or (a :: b :: rest) pos) (rdR w (orL ea eb)) := pe_mono (pe_orT ha hb) fun σ H Q q => by
  obtain ⟨C, F, e, R, P⟩ := q
  refine bindP R P fun F1 H1 e1 x v1 h1 R1 E1 q1 P1 => ?_
  cases x with
  | fz d => exact P1.elim
  | bor i => exact P1.elim
  | fresh ds =>
    obtain ⟨p, vs, rfl, hp, hd, h4⟩ := q1
    cases ds with
    | nil =>
      cases hd
      exact ⟨false, .inl ⟨[], .of hp, rfl⟩, iteF ⟨C, F1, e1, R1, P1⟩⟩
    | cons d ds =>
      cases hd with
      | cons h5 h6 => exact ⟨true, .inl ⟨_, .of hp, rfl⟩, iteT (P1.ok' R1 ⟨p, _, rfl, hp, .cons h5 h6, h4⟩)⟩
end
def kOrL (b : Ev) (Q : Po Rv) : Po Rv := fun x e => match x with
  | .fresh [] => Ok (b e) Q
  | .fresh (d :: ds) => Q (.fresh (d :: ds)) e
  | _ => False
@[simp] theorem kOrL_nil {b : Ev} {Q : Po Rv} : kOrL b Q (.fresh []) e = Ok (b e) Q := rfl
@[simp] theorem kOrL_cons {b : Ev} {Q : Po Rv} {d : D} {ds : List D} : kOrL b Q (.fresh (d :: ds)) e = Q (.fresh (d :: ds)) e := rfl
@[simp] theorem ok_orL {a b : Ev} {Q : Po Rv} : Ok (orL a b e) Q = Ok (a e) (kOrL b Q) := by
  unfold orL
  rw [ok_bind]
  congr 1
  funext r e1
  cases r with
  | fz d => rfl
  | fresh ds => cases ds <;> rfl
  | bor _ => rfl
end VI
set_option Elab.async false
set_option linter.all false
set_option maxRecDepth 100000
set_option maxHeartbeats 4000000
namespace VI
open PySem PySem.Spec PyProof.Rows L2
variable {K : PySem.W.Frag}
end VI
set_option Elab.async false
set_option linter.all false
set_option maxRecDepth 100000
set_option maxHeartbeats 4000000
namespace VI
open PySem PySem.Spec PyProof.Rows L2
/-- a built-in class of error, as a base -/
structure BaseE (B newId initId : String) (bmB : List Value) : Prop where
  F : ExcBaseFacts B newId initId bmB
  S : StoreFacts B bmB "object.__setattr__" "object"
  typ : typeOf (.type B) = pure (.type "type")
  stub : Manifest.isStub B = false
  hand : PySem.W.handedIn (.builtin initId) = true
  tail : PySem.W.excTail bmB bmB = true
  hin : ∀ K : PySem.W.Frag, PySem.W.findCls K (.type B) (.type "type") "__init__" = some (.val (.builtin initId))
/-- what the written part says of the class at C -/
structure OexE (K : PySem.W.Frag) (C : Addr) (newId : String) (bmB : List Value) : Prop where
  cls : ∃ nm q N bs sn sub ab col dd k0 k1 k2 k3 k5, K.lookup C = some (excClassObj nm q C N bs bmB true sn sub ab col dd k0 k1 k2 k3 k5 newId)
  sa : PySem.W.findIn K (.ref C) "__setattr__" = some (some (.builtin "object.__setattr__"))
  exC : PySem.W.subIn K (.ref C) (.type "BaseException") = some true
  tyC : PySem.W.typeIn K (.ref C) = some (.type "type")
  kC : PySem.W.keepIn K (.ref C) = true
section
open Builtin Builtin.ObjectAttr
variable {X : Cx} {pins : List (Addr × Obj)} {σ : L2.St} {H : Hp} {s : Shared} {a C dx : Addr} {f : Str} {y : V} {u : Value} {fs : List (Str × V)} {Q : Unit → Shared → Prop} {E : Value → Shared → Prop} {A : Around} {B newId initId : String} {bmB : List Value}
end
end VI
set_option Elab.async false
set_option linter.all false
set_option maxRecDepth 100000
set_option maxHeartbeats 4000000
namespace VI
open PySem PySem.Spec PyProof.Rows L2
section
open Builtin Builtin.ObjectAttr
variable {X : Cx} {pins : List (Addr × Obj)} {σ : L2.St} {H : Hp} {s : Shared} {a C dx : Addr} {f : Str} {y : V} {u : Value} {fs : List (Str × V)} {Q : Unit → Shared → Prop} {E : Value → Shared → Prop} {A : Around} {B newId initId : String} {bmB : List Value}
end
section
variable {X : Cx} {o e : Expr} {es : List Expr} {to te : TE} {ta : TA} {f : Str} {p p' p1 p2 pos : Pos} {B newId initId : String} {bmB : List Value}
end
end VI
set_option Elab.async false
set_option linter.all false
set_option maxRecDepth 100000
set_option maxHeartbeats 4000000
namespace VI
open PySem PySem.Spec PyProof.Rows L2
variable {K : PySem.W.Frag} {C : Cf} {F H : Hp} {e e' : Env} {σ : L2.St}
/-- the name of an error's class -/
def excNm : D → Option Str
  | .dict ((.none, .str n) :: _) => some n
  | _ => none
/-- how an error that is let out lies -/
def XRk (K : PySem.W.Frag) : Hp → Hp → Xc → Value → Option Addr → Prop := fun F _ x cv od => ∃ C d fs, ExK K C x.cls ∧ cv = .ref C ∧ od = some d ∧ F d = some (.xd fs) ∧ fs.map (·.1) = x.fs.map (·.1) ∧ DpAll K F (fs.map (·.2)) (x.fs.map (·.2))
section
variable {X : Cx} {W : WX} {ex : Expr} {a : Ev} {p pos pos2 : Pos} {B newId initId : String} {bmB : List Value} {x : Str} {Cc fI : Addr} {k : Nat} {fd : FuncData} {f : Str}
end
def atF (f : Str) : List (D × D) → Option D
  | [] => none
  | (k, d) :: r => match k with
    | .str g => if f = g then some d else atF f r
    | _ => atF f r
def attrD (f : Str) : F1 := fun d => match d with
  | .dict ((.none, .str _) :: kvs) => (atF f kvs).map .fz
  | _ => none
end VI
set_option Elab.async false
set_option linter.all false
set_option maxRecDepth 100000
set_option maxHeartbeats 4000000
namespace VI
open PySem PySem.Spec PyProof.Rows L2
variable {K : PySem.W.Frag} {C : Cf} {F H : Hp} {e e' : Env} {σ : L2.St}
abbrev plainTs : List String := ["NoneType", "bool", "int", "str", "list", "tuple", "dict"]
/-- how a class is asked for: by what of the data -/
structure KindX (K : PySem.W.Frag) (u : Value) (f : D → Bool) : Prop where
  base : ∀ n ∈ plainTs, PySem.W.kitOne K (.type n) u = some false
  pl : ∀ d, excNm d = none → f d = false
  exc : ∀ C n kvs, ExK K C n → PySem.W.kitOne K (.ref C) u = some (f (.dict ((.none, .str n) :: kvs)))
def isOwn (n : Str) : D → Bool := fun d => match excNm d with
  | some m => decide (m = n)
  | none => false
def isErr (B : String) : D → Bool := fun d => match excNm d with
  | some m => decide (B = excBase m)
  | none => false
/-- what the written part says of an own class that is asked for -/
structure OwnC (K : PySem.W.Frag) (S : Addr) (n : Str) : Prop where
  nm : clsNm K S = some n
  ty : PySem.W.typeIn K (.ref S) = some (.type "type")
  base : ∀ n ∈ plainTs, PySem.W.kitOne K (.type n) (.ref S) = some false
/-- the name of a class, as an expression -/
inductive ClsE (X : Cx) : Expr → V → Value → Prop
  | own {x : Str} {p : Pos} {S : Addr} : Gl X x → X.mg x = some (.ref S) → (x == ("__debug__" : Str)) = false → ClsE X (.Name x p) (.ref S) (.ref S)
  | bt {x : Str} {p : Pos} {n : String} : Gl X x → X.mg x = none → bootBuiltins x = some (.type n) → x ≠ "__name__" → (x == ("__debug__" : Str)) = false → ClsE X (.Name x p) (.ty n) (.type n)
theorem ClsE.pe {X : Cx} {ex : Expr} {v : V} {u : Value} (h : ClsE X ex v u) : PE X ex (tC v) := by
  cases h with
  | own h1 h2 h3 => exact pe_glob (v := .ref _) h1 h2 rfl h3
  | bt h1 h2 h3 h4 h5 => exact pe_bltn (v := .ty _) h1 h2 h3 rfl h4 h5
theorem ClsE.cls {X : Cx} {ex : Expr} {v : V} {u : Value} (h : ClsE X ex v u) : ClsV v u := by
  cases h with
  | own => exact .own _
  | bt => exact .ty _
/-- several -/
inductive ClsEs (X : Cx) : List Expr → List V → List Value → List (D → Bool) → Prop
  | nil : ClsEs X [] [] [] []
  | cons {ex : Expr} {v : V} {u : Value} {f : D → Bool} {es : List Expr} {vs : List V} {us : List Value} {fs : List (D → Bool)} : ClsE X ex v u → KindX X.K u f → starEach (ex :: es) X.env = (false, eval ex X.env) :: starEach es X.env → ClsEs X es vs us fs → ClsEs X (ex :: es) (v :: vs) (u :: us) (f :: fs)
def tCs (vs : List V) : TA := fun σ H Q => Q vs H
theorem ClsEs.pa {X : Cx} : ∀ {es : List Expr} {vs : List V} {us : List Value} {fs : List (D → Bool)}, ClsEs X es vs us fs → PA X es (tCs vs)
  | _, _, _, _, .nil => pa_mono pa_nil fun _ _ _ h => h
  | _, _, _, _, .cons h _ s r => pa_mono (pa_cons h.pe r.pa s) fun _ _ _ h => h
theorem ClsEs.cls {X : Cx} : ∀ {es : List Expr} {vs : List V} {us : List Value} {fs : List (D → Bool)}, ClsEs X es vs us fs → Paired ClsV vs us
  | _, _, _, _, .nil => .nil
  | _, _, _, _, .cons h _ _ r => .cons h.cls r.cls
section
variable {X : Cx} {w : Wd} {a ex : Expr} {ea : Ev} {v : V} {u : Value} {f : D → Bool} {p p4 pos : Pos}
end
end VI
set_option Elab.async false
set_option linter.all false
set_option maxRecDepth 100000
set_option maxHeartbeats 4000000
namespace PySem.W
open PySem PySem.Spec PySem.Calls PyProof.Rows
section
variable {M : Model} {K : Frag}
end
end PySem.W
set_option Elab.async false
set_option linter.all false
set_option maxRecDepth 100000
set_option maxHeartbeats 4000000
namespace VI
open PySem PySem.Spec PyProof.Rows L2
section
variable {X : Cx} {pins : List (Addr × Obj)} {σ : L2.St} {H : Hp} {s : Shared}
/-- the classes that an except clause names -/
inductive TyOk (X : Cx) : Expr → List Value → Prop
  | one {ex : Expr} {v : V} {u : Value} : ClsE X ex v u → TyOk X ex [u]
  | many {es : List Expr} {us : List Value} {k : Nat} {p : Pos} : (∀ (a : Addr) (pn pins : List (Addr × Obj)) (σ : L2.St) (H : Hp) (s : Shared) (E : Value → Shared → Prop) (Q : List Value → Shared → Prop), L2.Inv (X.suite a pn) pins σ H s → Q us s → wpAny (model X.prog X.w) (X.A.mark (some (.ref a))) (spliced (backTo p (starEach es X.env))) Q E s) → us.length ≤ 1000 → TyOk X (.Tuple es k p) us
inductive CEs (X : Cx) : List Expr → List Value → Prop
  | nil : CEs X [] []
  | cons {ex : Expr} {v : V} {u : Value} {es : List Expr} {us : List Value} : ClsE X ex v u → starEach (ex :: es) X.env = (false, eval ex X.env) :: starEach es X.env → CEs X es us → CEs X (ex :: es) (u :: us)
theorem ClsE.ld {ex : Expr} {v : V} {u : Value} (h : ClsE X ex v u) {a : Addr} {pn : List (Addr × Obj)} (I : L2.Inv (X.suite a pn) pins σ H s) {E : Value → Shared → Prop} {Q : Value → Shared → Prop} (q : Q u s) : wpAny (model X.prog X.w) (X.A.mark (some (.ref a))) (eval ex X.env) Q E s := by
  cases h with
  | own h1 h2 h3 => exact ld_glob (X := X.suite a pn) I h1 h2 q h3
  | bt h1 h2 h3 h4 h5 => exact ld_blt (X := X.suite a pn) I h1 h2 h3 q h4 h5
theorem CEs.run {p : Pos} : ∀ {es : List Expr} {us : List Value}, CEs X es us → ∀ (a : Addr) (pn pins : List (Addr × Obj)) (σ : L2.St) (H : Hp) (s : Shared) (E : Value → Shared → Prop) (Q : List Value → Shared → Prop), L2.Inv (X.suite a pn) pins σ H s → Q us s → wpAny (model X.prog X.w) (X.A.mark (some (.ref a))) (spliced (backTo p (starEach es X.env))) Q E s
  | _, _, .nil, a, pn, pins, σ, H, s, E, Q, I, q => PyProof.Rows.args_nil q
  | _, _, .cons (ex := ex) (es := es) h hs r, a, pn, pins, σ, H, s, E, Q, I, q => by
    rw [hs]
    show wpAny _ _ (spliced ((false, eval ex X.env) :: backTo p (starEach es X.env))) _ _ s
    exact Calls.spliced_cons (h.ld I (CEs.run r a pn pins σ H s E _ I q))
end
section
variable {X : Cx} {n : Str} {i j : Nat} {cs : List Value} {ty : Expr} {body suite : List Stmt} {b₀ : Stmt} {pos pos' : Pos} {tb : WX → TS} {Wout : WX}
end
end VI
set_option Elab.async false
set_option linter.all false
set_option maxRecDepth 100000
set_option maxHeartbeats 4000000
namespace VI
open PySem PySem.Spec PyProof.Rows L2
variable {K : PySem.W.Frag} {C : Cf} {F H : Hp} {e e' : Env} {σ : L2.St}
/-- an error as data -/
def errD (x : Xc) : D := .dict ((.none, .str x.cls) :: x.fs.map fun p => (.str p.1, p.2))
/-- an own class that an except clause names -/
structure CatC (K : PySem.W.Frag) (S : Addr) (n : Str) : Prop where
  own : OwnC K S n
  bex : PySem.W.subIn K (.ref S) (.type "BaseException") = some true
/-- the values of the classes named so -/
inductive Cats (K : PySem.W.Frag) : List Value → List Str → Prop
  | nil : Cats K [] []
  | cons {S : Addr} {n : Str} {us : List Value} {ns : List Str} : CatC K S n → Cats K us ns → Cats K (.ref S :: us) (n :: ns)
section
variable {X : Cx} {W : WX} {n : Str} {i j : Nat} {us : List Value} {ns : List Str} {ty : Expr} {body suite : List Stmt} {b₀ : Stmt} {b : St1} {pos pos' : Pos}
end
end VI
set_option Elab.async false
set_option linter.all false
set_option maxRecDepth 100000
set_option maxHeartbeats 4000000
namespace VI
open PySem PySem.Spec PyProof.Rows L2
/-- a class of errors that is raised -/
structure ErrT (K : PySem.W.Frag) (mg : Str → Option Value) (n f : Str) (newId : String) (bmB : List Value) (qual : Str) (st : Stmt) : Prop where
  ex : ∃ C fI fd, mg n = some (.ref C) ∧ OexE K C newId bmB ∧ ExK K C n ∧ PySem.W.findIn K (.ref C) "__init__" = some (some (.ref fI)) ∧ PySem.W.typeIn K (.ref fI) = some (.type "function") ∧ Fun K "__init__" qual st fI fd ∧ Binds K fd [("self" : Str), f] []
/-- a class of errors that is asked for, or caught -/
structure CatT (K : PySem.W.Frag) (mg : Str → Option Value) (n : Str) : Prop where
  ex : ∃ S, mg n = some (.ref S) ∧ CatC K S n
section
variable {X : Cx} {W : WX} {ex : Expr} {a : Ev} {p pos pos2 : Pos} {B newId initId : String} {bmB : List Value} {x f qual : Str} {st : Stmt}
variable {w : Wd} {e0 : Expr} {ea : Ev} {p4 : Pos}
end
def flB (K : PySem.W.Frag) (C : Addr) : Bool := excFlds.all fun f => decide (PySem.W.findIn K (.ref C) f = some none)
def askB (K : PySem.W.Frag) (C : Addr) (n : Str) : Bool := askedB.all fun T => decide (PySem.W.kitOne K (.ref C) (.type T) = some (decide (T = excBase n)))
def ownB (K : PySem.W.Frag) (C : Addr) (n : Str) : Bool := K.all fun p => match clsNm K p.1 with
  | none => true
  | some m => !decide (PySem.W.typeIn K (.ref p.1) = some (.type "type")) || decide (PySem.W.subIn K (.ref C) (.ref p.1) = some (decide (n = m)))
end VI
namespace VI
open PySem
end VI
set_option Elab.async false
set_option linter.all false
set_option maxRecDepth 100000
set_option maxHeartbeats 4000000
namespace VI
open PySem PySem.Spec PyProof.Rows L2
abbrev Px := Xc → Env → Prop
def Ex {α : Type} (r : Rs α) (P : Px) : Prop := match r with
  | .ex x e => P x e
  | _ => False
section
variable {α β : Type} {e : Env} {i j n : Nat} {d : D} {ds : List D} {a b : Ev} {p q : St1} {ps : List St1} {c : Sem1 Bool} {P : Px} {f nm : Str} {fn : List D → Option Ret} {as : Sem1 (List D)}
theorem ex_get {r : Rs α} (h : Ex r P) : ∃ x e, r = .ex x e ∧ P x e := by
  cases r with
  | ex x e => exact ⟨x, e, rfl, h⟩
  | ok _ _ => exact h.elim
  | no => exact h.elim
theorem Ex.mono {r : Rs α} {P' : Px} (h : Ex r P) (k : ∀ x e, P x e → P' x e) : Ex r P' := by
  obtain ⟨x, e, rfl, q⟩ := ex_get h; exact k _ _ q
def kXS (q : St1) (P : Px) : Po Fl := fun w e => match w with
  | .nx => Ex (q e) P
  | _ => False
@[simp] theorem kXS_nx : kXS q P .nx e = Ex (q e) P := rfl
def kXI (p q : St1) (P : Px) : Po Bool := fun b e => Ex (if b then p e else q e) P
@[simp] theorem kXI_t : kXI p q P true e = Ex (p e) P := rfl
@[simp] theorem kXI_f : kXI p q P false e = Ex (q e) P := rfl
def kXR (nm f : Str) (P : Px) : Po D := fun d e => P ⟨nm, [(f, d)]⟩ e
@[simp] theorem kXR_eq : kXR nm f P d e = P ⟨nm, [(f, d)]⟩ e := rfl
def exFn (z : Option Ret) (e : Env) (P : Px) : Prop := match z with
  | some (.ex x) => P x e
  | _ => False
@[simp] theorem exFn_ex {x : Xc} : exFn (some (.ex x)) e P = P x e := rfl
def kXF (fn : List D → Option Ret) (P : Px) : Po (List D) := fun ds e => exFn (fn ds) e P
@[simp] theorem kXF_eq : kXF fn P ds e = exFn (fn ds) e P := rfl
def kXV (a b : Ev) (P : Px) : Po Bool := fun z e => Ex (if z then a e else b e) P
@[simp] theorem kXV_t : kXV a b P true e = Ex (a e) P := rfl
@[simp] theorem kXV_f : kXV a b P false e = Ex (b e) P := rfl
def kTry (ns : List Str) (i j : Nat) (Q : Po Fl) : Px := fun x e1 => ns.contains x.cls = true ∧ freeAt e1 i = true ∧ freeAt e1 j = true ∧ Q .nx (((e1.set i (some (.fz (errD x)))).set j (some (.fz (errD x)))).set i none)
@[simp] theorem kTry_eq {ns : List Str} {Q : Po Fl} {x : Xc} : kTry ns i j Q x e = (ns.contains x.cls = true ∧ freeAt e i = true ∧ freeAt e j = true ∧ Q .nx (((e.set i (some (.fz (errD x)))).set j (some (.fz (errD x)))).set i none)) := rfl
@[simp] theorem freeAt_none {xs : List (Option Sv)} {k : Nat} (h : xs[k]? = some none) : freeAt xs k = true := by unfold freeAt; rw [h]
@[simp] theorem freeAt_fz {xs : List (Option Sv)} {k : Nat} (h : xs[k]? = some (some (.fz d))) : freeAt xs k = true := by unfold freeAt; rw [h]
end
section
variable {c : Str} {fs : List (Str × D)} {n : Str} {B : String} {f : Str}
@[simp] theorem isOwn_err : isOwn n (errD ⟨c, fs⟩) = decide (c = n) := rfl
@[simp] theorem isErr_err : isErr B (errD ⟨c, fs⟩) = decide (B = excBase c) := rfl
@[simp] theorem attr_err {d : D} : attrD f (errD ⟨c, [(f, d)]⟩) = some (.fz d) := by
  unfold attrD errD
  simp [atF]
@[simp] theorem isOwn_none : isOwn n .none = false := rfl
@[simp] theorem isErr_none : isErr B .none = false := rfl
end
end VI
set_option Elab.async false
set_option linter.all false
set_option maxRecDepth 100000
set_option maxHeartbeats 4000000
namespace VI
open PySem PySem.Spec PyProof.Rows L2
section
variable {K : PySem.W.Frag} {C : Cf} {F H : Hp} {e e' : Env} {σ : L2.St}
end
/-- a class of errors of two fields that is raised -/
structure ErrT2 (K : PySem.W.Frag) (mg : Str → Option Value) (n f g : Str) (qual : Str) (st : Stmt) : Prop where
  ex : ∃ C fI fd, mg n = some (.ref C) ∧ OexC K C ∧ ExK K C n ∧ PySem.W.findIn K (.ref C) "__init__" = some (some (.ref fI)) ∧ PySem.W.typeIn K (.ref fI) = some (.type "function") ∧ Fun K "__init__" qual st fI fd ∧ Binds K fd [("self" : Str), f, g] []
section
variable {X : Cx} {W : WX} {ex : Expr} {es : List Expr} {as : Sem1 (List D)} {p pos pos2 : Pos} {x f g qual : Str} {st : Stmt}
end
section
variable {e : Env} {P : Px} {n f g : Str} {as : Sem1 (List D)} {c : Str} {d1 d2 : D}
def kXR2 (n f g : Str) (P : Px) : Po (List D) := fun ds e => match ds with
  | [d1, d2] => P ⟨n, [(g, d2), (f, d1)]⟩ e
  | _ => False
@[simp] theorem kXR2_eq : kXR2 n f g P [d1, d2] e = P ⟨n, [(g, d2), (f, d1)]⟩ e := rfl
@[simp] theorem isOwn_err2 {m : Str} : isOwn m (errD ⟨c, [(g, d2), (f, d1)]⟩) = decide (c = m) := rfl
end
end VI
set_option Elab.async false
set_option linter.all false
set_option maxRecDepth 100000
set_option maxHeartbeats 4000000
namespace VI
open PySem PySem.Spec PyProof.Rows L2
variable {K : PySem.W.Frag} {C : Cf} {F H : Hp} {e e' : Env} {σ : L2.St}
mutual
/-- as data -/
def OT.d : OT → D
  | .fz d => d
  | .lst ts => .list (OT.ds ts)
  | .dT ks ts => .dict ((ks.map keysD).zip (OT.ds ts))
  | .dK ks ts => .dict ((.none, .none) :: (ks.map keyD).zip (OT.ds ts))
  | .ins _ _ _ => .none
def OT.ds : List OT → List D
  | [] => []
  | t :: ts => t.d :: OT.ds ts
end
mutual
/-- no instance within -/
def OT.flat : OT → Bool
  | .fz _ => true
  | .lst ts => OT.flatL ts
  | .dT _ ts => OT.flatL ts
  | .dK _ ts => OT.flatL ts
  | .ins _ _ _ => false
def OT.flatL : List OT → Bool
  | [] => true
  | t :: ts => t.flat && OT.flatL ts
end
theorem ds_fz : ∀ ds : List D, OT.ds (ds.map OT.fz) = ds
  | [] => rfl
  | d :: ds => by
    show OT.d (.fz d) :: OT.ds (ds.map OT.fz) = _
    rw [ds_fz ds]; unfold OT.d; rfl
/-- the thing at slot i is changed: it stands behind at the same name, made of what it was made of and of new objects -/
theorem Rp.trPut (R : Rp K C F H e σ) {i : Nat} {b : Bool} {t t' : OT} {v : V} {fp fp' : List Addr} {F' H' : Hp} (he : e[i]? = some (some (.tr b t))) (hv : σ[i]? = some (some v)) (o : Ow K F H t v fp) (E : Ext F F') (EH : Ext F' H')
    (hk : ∀ a, H a ≠ none → a ∉ fp → H' a = H a ∧ (F a = none → F' a = none)) (TU : TupIn F' H') (o' : Ow K F' H' t' v fp') (nd : fp'.Nodup) (hn : ∀ a ∈ fp', F' a = none ∧ (a ∈ fp ∨ H a = none)) (hr : b = true → C.lam i ∈ fp') :
    Rp K C F' H' (e.set i (some (.tr b t'))) σ := by
  obtain ⟨u, hu, fp1, o1, nd1, h1, hb1⟩ := R.sl _ _ he
  rw [hv] at hu; cases hu
  cases o.uniq o1
  have T : TrAt K H e σ i fp := ⟨b, t, v, F, he, hv, o⟩
  have il : i < e.length := (List.getElem?_eq_some_iff.mp he).1
  have keepM : ∀ a, C.M a → H' a = H a ∧ F' a = none := fun a ha => by
    have h := R.frm a ha
    have k := hk a (by rw [h.1]; exact h.2) (fun z => (h1 a z).2 ha)
    exact ⟨k.1, k.2 (R.off a ha)⟩
  have nfp : ∀ (j : Nat) (y : Sv) (a : Addr), e[j]? = some (some y) → y.mu = true → σ[j]? = some (some (V.ref a)) → a ∉ fp := fun j y a hy my hs hq => (R.tn i fp T).1 a hq j y hy my hs
  have low : ∀ {j : Nat} {y : Sv}, (e.set i (some (.tr b t')))[j]? = some (some y) → (i = j ∧ y = .tr b t') ∨ (i ≠ j ∧ e[j]? = some (some y)) := fun {j y} h => by
    rcases getset h with ⟨rfl, z⟩ | ⟨hj, h⟩
    · cases z; exact .inl ⟨rfl, rfl⟩
    · exact .inr ⟨hj, h⟩
  -- where the others stand
  have oth : ∀ {j : Nat} {fq : List Addr}, i ≠ j → TrAt K H' (e.set i (some (.tr b t'))) σ j fq → TrAt K H e σ j fq := fun {j fq} hj h => by
    obtain ⟨b2, t2, v2, F2, he2, hv2, o2⟩ := h
    rcases low he2 with ⟨z, _⟩ | ⟨_, he2⟩
    · exact absurd z hj
    obtain ⟨u, hu, fq', oq, _, hF, _⟩ := R.sl _ _ he2
    rw [hv2] at hu; cases hu
    have Tq : TrAt K H e σ j fq' := ⟨b2, t2, v2, F, he2, hv2, oq⟩
    have oq2 : Ow K F H' t2 v2 fq' := oq.ext (.refl F) fun a ha => (hk a (oq.some a ha) (fun z => (R.tn i fp T).2 j fq' hj Tq a z ha)).1
    cases oq2.uniq o2
    exact Tq
  have own : ∀ {fq : List Addr}, TrAt K H' (e.set i (some (.tr b t'))) σ i fq → fq = fp' := fun {fq} h => by
    obtain ⟨b2, t2, v2, F2, he2, hv2, o2⟩ := h
    rcases low he2 with ⟨_, z⟩ | ⟨z, _⟩
    · cases z
      rw [hv] at hv2; cases hv2
      exact o2.uniq o'
    · exact absurd rfl z
  have newA : ∀ a, H a = none → Apart e σ (.ref a) := fun a ha => R.apart ha
  have apF : ∀ a ∈ fp', Apart (e.set i (some (.tr b t'))) σ (.ref a) := fun a ha j y hy my hs => by
    rcases low hy with ⟨_, z⟩ | ⟨_, hy⟩
    · cases z; cases my
    · rcases (hn a ha).2 with q | q
      · exact (R.tn i fp T).1 a q j y hy my hs
      · exact newA a q j y hy my hs
  refine ⟨by rw [List.length_set]; exact R.len, EH, fun a ha => (keepM a ha).2, fun a ha => ?_, fun j x hx => ?_, R.ml, fun j k x y hjk hx hy mx my => ?_, fun j fq h => ⟨fun a ha => ?_, fun k fq' hjk h' a ha => ?_⟩, TU⟩
  · have h := R.frm a ha
    rw [(keepM a ha).1]; exact h
  · rcases low hx with ⟨rfl, rfl⟩ | ⟨hj, hx⟩
    · refine ⟨v, hv, fp', o', nd, fun a ha => ⟨(hn a ha).1, ?_⟩, fun z => ⟨(hb1 z).1, hr z⟩⟩
      rcases (hn a ha).2 with q | q
      · exact (h1 a q).2
      · exact R.notM q
    · obtain ⟨u, hu, q⟩ := R.sl j x hx
      refine ⟨u, hu, ?_⟩
      cases x with
      | fz d => exact Dp.ext E q
      | own ds =>
        obtain ⟨p, vs, rfl, k1, k2, k3, k4⟩ := q
        have k := hk p (by rw [k1]; exact fun z => by cases z) (nfp j _ p hx rfl hu)
        exact ⟨p, vs, rfl, k.1.trans k1, k2.ext E, k.2 k3, k4⟩
      | lent ds =>
        obtain ⟨vs, rfl, k1, k2, k3⟩ := q
        exact ⟨vs, rfl, (keepM _ (R.ml j k3)).1.trans k1, k2.ext E, k3⟩
      | io ds =>
        obtain ⟨vs, rfl, k1, k2, k3, k4⟩ := q
        have k := hk (C.lam j) (by rw [k1]; exact fun z => by cases z) (nfp j _ _ hx rfl hu)
        exact ⟨vs, rfl, k.1.trans k1, k2.ext E, k.2 k3, k4⟩
      | tr b2 t2 =>
        obtain ⟨fq, oq, ndq, hq, hbq⟩ := q
        have Tq : TrAt K H e σ j fq := ⟨b2, t2, u, F, hx, hu, oq⟩
        have k := fun a ha => hk a (oq.some a ha) (fun z => (R.tn i fp T).2 j fq hj Tq a z ha)
        exact ⟨fq, oq.ext E fun a ha => (k a ha).1, ndq, fun a ha => ⟨(k a ha).2 (hq a ha).1, (hq a ha).2⟩, hbq⟩
  · rcases low hx with ⟨_, rfl⟩ | ⟨hj, hx⟩
    · cases mx
    rcases low hy with ⟨_, rfl⟩ | ⟨hk, hy⟩
    · cases my
    exact R.ne j k x y hjk hx hy mx my
  · by_cases hj : i = j
    · subst hj
      rw [own h] at ha
      exact apF a ha
    · intro k y hy my hs
      rcases low hy with ⟨_, z⟩ | ⟨_, hy⟩
      · cases z; cases my
      · exact (R.tn j fq (oth hj h)).1 a ha k y hy my hs
  · by_cases hj : i = j
    · subst hj
      rw [own h] at ha
      intro hq
      rcases (hn a ha).2 with q | q
      · exact (R.tn i fp T).2 k fq' hjk (oth hjk h') a q hq
      · exact ((R.trFp (oth hjk h')).1 a hq).2.2 q
    · by_cases hk2 : i = k
      · subst hk2
        rw [own h']
        intro hq
        rcases (hn a hq).2 with q | q
        · exact (R.tn i fp T).2 j fq hj (oth hj h) a q ha
        · exact ((R.trFp (oth hj h)).1 a ha).2.2 q
      · exact (R.tn j fq (oth hj h)).2 k fq' hjk (oth hk2 h') a ha
/-- a thing of our own that no name holds -/
def NewAt (K : PySem.W.Frag) (C : Cf) (F H : Hp) (e : Env) (σ : L2.St) (t : OT) (v : V) : Prop := ∃ fp, Ow K F H t v fp ∧ fp.Nodup ∧ ∀ a ∈ fp, F a = none ∧ ¬ C.M a ∧ Apar K H e σ a
/-- a name takes it -/
theorem Rp.putTr (R : Rp K C F H e σ) {i : Nat} {t : OT} {v : V} (h : freeAt e i = true) (q : NewAt K C F H e σ t v) : Rp K C F H (e.set i (some (.tr false t))) (σ.set i (some v)) := by
  obtain ⟨fp, o, nd, hF⟩ := q
  have lt : i < σ.length := by
    rw [← R.len]
    unfold freeAt at h
    split at h <;> first | (cases h; done) | skip
    rename_i hs; exact (List.getElem?_eq_some_iff.mp hs).1
  have low : ∀ {j : Nat} {y : Sv}, (e.set i (some (.tr false t)))[j]? = some (some y) → (i = j ∧ y = .tr false t) ∨ (i ≠ j ∧ e[j]? = some (some y)) := fun {j y} h => by
    rcases getset h with ⟨rfl, z⟩ | ⟨hj, h⟩
    · cases z; exact .inl ⟨rfl, rfl⟩
    · exact .inr ⟨hj, h⟩
  have oth : ∀ {j : Nat} {fq : List Addr}, i ≠ j → TrAt K H (e.set i (some (.tr false t))) (σ.set i (some v)) j fq → TrAt K H e σ j fq := fun {j fq} hj h => by
    obtain ⟨b2, t2, v2, F2, he2, hv2, o2⟩ := h
    rcases low he2 with ⟨z, _⟩ | ⟨_, he2⟩
    · exact absurd z hj
    rw [List.getElem?_set_ne hj] at hv2
    exact ⟨b2, t2, v2, F2, he2, hv2, o2⟩
  have own : ∀ {fq : List Addr}, TrAt K H (e.set i (some (.tr false t))) (σ.set i (some v)) i fq → fq = fp := fun {fq} h => by
    obtain ⟨b2, t2, v2, F2, he2, hv2, o2⟩ := h
    rcases low he2 with ⟨_, z⟩ | ⟨z, _⟩
    · cases z
      rw [List.getElem?_set_self lt] at hv2; cases hv2
      exact o2.uniq o
    · exact absurd rfl z
  refine ⟨by rw [List.length_set, List.length_set]; exact R.len, R.ext, R.off, R.frm, fun j x hx => ?_, R.ml, fun j k x y hjk hx hy mx my => ?_, fun j fq h => ⟨fun a ha k y hy my hs => ?_, fun k fq' hjk h' a ha hq => ?_⟩, R.tup⟩
  · rcases low hx with ⟨rfl, rfl⟩ | ⟨hj, hx⟩
    · exact ⟨v, by rw [List.getElem?_set_self lt], fp, o, nd, fun a ha => ⟨(hF a ha).1, (hF a ha).2.1⟩, fun z => by cases z⟩
    · obtain ⟨u, hu, z⟩ := R.sl j x hx
      exact ⟨u, by rw [List.getElem?_set_ne hj]; exact hu, z⟩
  · rcases low hx with ⟨_, rfl⟩ | ⟨hj, hx⟩
    · cases mx
    rcases low hy with ⟨_, rfl⟩ | ⟨hk, hy⟩
    · cases my
    rw [List.getElem?_set_ne hj, List.getElem?_set_ne hk]
    exact R.ne j k x y hjk hx hy mx my
  · rcases low hy with ⟨_, rfl⟩ | ⟨hk, hy⟩
    · cases my
    rw [List.getElem?_set_ne hk] at hs
    by_cases hj : i = j
    · subst hj
      rw [own h] at ha
      exact (hF a ha).2.2.1 k y hy my hs
    · exact (R.tn j fq (oth hj h)).1 a ha k y hy my hs
  · by_cases hj : i = j
    · subst hj
      rw [own h] at ha
      exact (hF a ha).2.2.2 k fq' (oth hjk h') hq
    · by_cases hk2 : i = k
      · subst hk2
        rw [own h'] at hq
        exact (hF a hq).2.2.2 j fq (oth hj h) ha
      · exact (R.tn j fq (oth hj h)).2 k fq' hjk (oth hk2 h') a ha hq
/-- H2 is H with the things at L locked -/
def Locked (L : List Addr) (H H2 : Hp) : Prop := (∀ d ∈ L, ∃ od u, H d = some u ∧ H2 d = some (.frz od u)) ∧ ∀ a, a ∉ L → H2 a = H a
theorem inv_lockL {X : Cx} {pins : List (Addr × Obj)} {s : Shared} : ∀ {L : List Addr} {H : Hp}, Inv X pins σ H s → L.Nodup → (∀ d ∈ L, ∃ u, H d = some u ∧ Mut (some u)) → ∃ H2, Inv X pins σ H2 s ∧ Locked L H H2
  | [], H, I, _, _ => ⟨H, I, ⟨fun d h => absurd h List.not_mem_nil, fun _ _ => rfl⟩⟩
  | d :: L, H, I, nd, hm => by
    obtain ⟨u, hu, mu⟩ := hm d List.mem_cons_self
    obtain ⟨od, I1⟩ := I.lock hu mu
    have nd' := List.nodup_cons.mp nd
    obtain ⟨H2, I2, h1, h2⟩ := inv_lockL I1 nd'.2 fun d' hd' => by
      obtain ⟨u', hu', mu'⟩ := hm d' (List.mem_cons_of_mem _ hd')
      exact ⟨u', by rw [upd_ne (show d' ≠ d from fun z => nd'.1 (z ▸ hd'))]; exact hu', mu'⟩
    refine ⟨H2, I2, fun d' hd' => ?_, fun a ha => ?_⟩
    · rcases List.mem_cons.mp hd' with rfl | hd'
      · exact ⟨od, u, hu, by rw [h2 d' nd'.1, upd_same]⟩
      · obtain ⟨od', u', k1, k2⟩ := h1 d' hd'
        rw [upd_ne (show d' ≠ d from fun z => nd'.1 (z ▸ hd'))] at k1
        exact ⟨od', u', k1, k2⟩
    · have hn : a ≠ d ∧ a ∉ L := by simpa using ha
      rw [h2 a hn.2, upd_ne hn.1]
/-- .. unlocked -/
def unlockH (L : List Addr) (H H2 : Hp) : Hp := fun a => if a ∈ L then H a else H2 a
theorem inv_unlockL {X : Cx} {pins : List (Addr × Obj)} {s : Shared} {H : Hp} : ∀ {L : List Addr} {H2 : Hp}, Inv X pins σ H2 s → (∀ d ∈ L, ∃ od u, H d = some u ∧ H2 d = some (.frz od u) ∧ ∀ o' u', X.H_0 d ≠ some (.frz o' u')) → L.Nodup → Inv X pins σ (unlockH L H H2) s
  | [], H2, I, _, _ => by
    have : unlockH [] H H2 = H2 := by funext a; simp [unlockH]
    rw [this]; exact I
  | d :: L, H2, I, h, nd => by
    have nd' := List.nodup_cons.mp nd
    obtain ⟨od, u, k1, k2, k3⟩ := h d List.mem_cons_self
    have I1 := inv_unlockL I (fun d' hd' => h d' (List.mem_cons_of_mem _ hd')) nd'.2
    have e1 : unlockH L H H2 d = some (.frz od u) := by unfold unlockH; rw [if_neg nd'.1]; exact k2
    have I2 := I1.unlock e1 k3
    have : upd (unlockH L H H2) d u = unlockH (d :: L) H H2 := by
      funext a
      by_cases ha : a = d
      · subst ha; rw [upd_same]; unfold unlockH; rw [if_pos List.mem_cons_self]; exact k1.symm
      · rw [upd_ne ha]
        unfold unlockH
        by_cases hL : a ∈ L
        · rw [if_pos hL, if_pos (List.mem_cons_of_mem _ hL)]
        · rw [if_neg hL, if_neg (by simp only [List.mem_cons, not_or]; exact ⟨ha, hL⟩)]
    rw [← this]; exact I2
/-- behind the expression the things at some places are locked for good -/
def tLockA (t : TE) : TE := fun σ H Q => t σ H fun v H1 => ∃ L : List Addr, L.Nodup ∧ (∀ d ∈ L, ∃ u, H1 d = some u ∧ Mut (some u)) ∧ ∀ H2, Locked L H1 H2 → Q v H2
/-- .. before it, and unlocked behind it -/
def tLockL {α : Type} (t : L2.St → Hp → (α → Hp → Prop) → Prop) : L2.St → Hp → (α → Hp → Prop) → Prop := fun σ H Q => ∃ L : List Addr, L.Nodup ∧ (∀ d ∈ L, ∃ u, H d = some u ∧ Mut (some u)) ∧
  ∀ H1, Locked L H H1 → t σ H1 fun v H2 => (∀ d ∈ L, H2 d = H1 d) ∧ Q v (unlockH L H H2)
section
variable {X : Cx} {ex : Expr}
theorem pe_lockA {t : TE} (h : PE X ex t) : PE X ex (tLockA t) := ⟨fun pins s σ H Q I hw => thn (h.run pins s σ H _ I hw) fun v s1 ⟨x, H1, I1, r, L, nd, hm, q⟩ => by
  obtain ⟨H2, I2, k⟩ := inv_lockL I1 nd hm
  exact ⟨x, H2, I2, r, q H2 k⟩⟩
theorem pe_lockL {t : TE} (h : PE X ex t) : PE X ex (tLockL t) := ⟨fun pins s σ H Q I hw => by
  obtain ⟨L, nd, hm, hw⟩ := hw
  obtain ⟨H1, I1, k⟩ := inv_lockL I nd hm
  refine thn (h.run pins s σ H1 _ I1 (hw H1 k)) fun v s1 ⟨x, H2, I2, r, q1, q2⟩ => ?_
  refine ⟨x, _, inv_unlockL I2 (fun d hd => ?_) nd, r, q2⟩
  obtain ⟨od, u, k1, k2⟩ := k.1 d hd
  obtain ⟨u', k3, mu⟩ := hm d hd
  rw [k1] at k3; cases k3
  exact ⟨od, u, k1, (q1 d hd).trans k2, I.nofrz k1 mu⟩⟩
theorem pt_lockL {t : TT} (h : PT X ex t) : PT X ex (tLockL t) := ⟨fun pins s σ H Q I hw => by
  obtain ⟨L, nd, hm, hw⟩ := hw
  obtain ⟨H1, I1, k⟩ := inv_lockL I nd hm
  refine thn (h.run pins s σ H1 _ I1 (hw H1 k)) fun b s1 ⟨H2, I2, q1, q2⟩ => ?_
  refine ⟨_, inv_unlockL I2 (fun d hd => ?_) nd, q2⟩
  obtain ⟨od, u, k1, k2⟩ := k.1 d hd
  obtain ⟨u', k3, mu⟩ := hm d hd
  rw [k1] at k3; cases k3
  exact ⟨od, u, k1, (q1 d hd).trans k2, I.nofrz k1 mu⟩⟩
end
end VI
set_option Elab.async false
set_option linter.all false
set_option maxRecDepth 100000
set_option maxHeartbeats 4000000
namespace VI
open PySem PySem.Spec PyProof.Rows L2
variable {K : PySem.W.Frag} {C : Cf} {F H : Hp} {e e' : Env} {σ : L2.St}
def isDc : HO → Bool
  | .dT _ => true
  | .dK _ => true
  | _ => false
theorem isDc_mut {o : HO} (h : isDc o = true) : Mut (some o) := by
  cases o <;> first | exact True.intro | cases h
/-- G holds what stands at fp, its dicts locked -/
def Laid (H G : Hp) (fp : List Addr) : Prop := ∀ a ∈ fp, ∀ o, H a = some o → (isDc o = true → ∃ od, G a = some (.frz od o)) ∧ (isDc o = false → G a = some o)
theorem zip_snd {α β : Type} : ∀ {ks : List α} {vs : List β}, ks.length = vs.length → (ks.zip vs).map (·.2) = vs
  | [], [], _ => rfl
  | k :: ks, v :: vs, h => by simp only [List.zip_cons_cons, List.map_cons, zip_snd (by simpa using h)]
  | [], _ :: _, h => by simp at h
  | _ :: _, [], h => by simp at h
theorem zip_fst {α β γ : Type} {f : α → γ} : ∀ {ks : List α} {vs : List β}, ks.length = vs.length → ((ks.zip vs).map fun p => f p.1) = ks.map f
  | [], [], _ => rfl
  | k :: ks, v :: vs, h => by simp only [List.zip_cons_cons, List.map_cons, zip_fst (by simpa using h)]
  | [], _ :: _, h => by simp at h
  | _ :: _, [], h => by simp at h
mutual
theorem Ow.dp {G : Hp} (E : Ext F G) : ∀ {t : OT} {v : V} {fp : List Addr}, Ow K F H t v fp → t.flat = true → Laid H G fp → Dp K G v t.d
  | _, _, _, .fz q, _, _ => by unfold OT.d; exact q.ext E
  | .lst ts, _, _, .lst h r, hf, hl => by
    unfold OT.d
    unfold OT.flat at hf
    have k := hl _ List.mem_cons_self _ h
    exact .lst (.of (k.2 rfl)) (OwL.dp E r hf fun a ha => hl a (List.mem_cons_of_mem _ ha))
  | .dT ks ts, _, _, .dT (vs := vs) h l r, hf, hl => by
    unfold OT.d
    unfold OT.flat at hf
    obtain ⟨od, k⟩ := (hl _ List.mem_cons_self _ h).1 rfl
    have := Dp.dcT (K := K) k (ds := OT.ds ts) (by rw [zip_snd l]; exact OwL.dp E r hf fun a ha => hl a (List.mem_cons_of_mem _ ha))
    rw [zip_fst l] at this
    exact this
  | .dK ks ts, _, _, .dK (vs := vs) h l r, hf, hl => by
    unfold OT.d
    unfold OT.flat at hf
    obtain ⟨od, k⟩ := (hl _ List.mem_cons_self _ h).1 rfl
    have := Dp.dcK (K := K) k (ds := OT.ds ts) (by rw [zip_snd l]; exact OwL.dp E r hf fun a ha => hl a (List.mem_cons_of_mem _ ha))
    rw [zip_fst l] at this
    exact this
  | .ins _ _ _, _, _, _, hf, _ => by unfold OT.flat at hf; cases hf
theorem OwL.dp {G : Hp} (E : Ext F G) : ∀ {ts : List OT} {vs : List V} {fp : List Addr}, OwL K F H ts vs fp → OT.flatL ts = true → Laid H G fp → DpAll K G vs (OT.ds ts)
  | _, _, _, .nil, _, _ => by unfold OT.ds; exact .nil
  | _, _, _, .cons h r, hf, hl => by
    unfold OT.flatL at hf
    rw [Bool.and_eq_true] at hf
    unfold OT.ds
    exact .cons (Ow.dp E h hf.1 fun a ha => hl a (List.mem_append_left _ ha)) (OwL.dp E r hf.2 fun a ha => hl a (List.mem_append_right _ ha))
end
theorem nodup_of (l : List Addr) : ∃ m : List Addr, m.Nodup ∧ ∀ a, a ∈ m ↔ a ∈ l := by
  induction l with
  | nil => exact ⟨[], List.nodup_nil, fun _ => Iff.rfl⟩
  | cons x l ih =>
    obtain ⟨m, h1, h2⟩ := ih
    by_cases q : x ∈ m
    · exact ⟨m, h1, fun a => by rw [h2, List.mem_cons]; exact ⟨.inr, fun z => z.elim (fun z => z ▸ (h2 x).mp q) id⟩⟩
    · exact ⟨x :: m, List.nodup_cons.mpr ⟨q, h1⟩, fun a => by rw [List.mem_cons, List.mem_cons, h2]⟩
/-- the dicts among some places -/
theorem dicts_of (H : Hp) (l : List Addr) : ∃ m : List Addr, m.Nodup ∧ ∀ a, a ∈ m ↔ a ∈ l ∧ ∃ o, H a = some o ∧ isDc o = true := by
  obtain ⟨m, h1, h2⟩ := nodup_of (l.filter fun a => (H a).elim false isDc)
  refine ⟨m, h1, fun a => ?_⟩
  rw [h2, List.mem_filter]
  refine and_congr Iff.rfl ⟨fun z => ?_, fun ⟨o, k1, k2⟩ => by rw [k1]; exact k2⟩
  cases q : H a with
  | none => rw [q] at z; cases z
  | some o => rw [q] at z; exact ⟨o, rfl, z⟩
/-- a thing of our own is laid down -/
theorem Rp.retire (R : Rp K C F H e σ) {i : Nat} {t : OT} {v : V} {fp : List Addr} {d : D} {F2 H2 : Hp} (he : e[i]? = some (some (.tr false t))) (hv : σ[i]? = some (some v)) (o : Ow K F H t v fp) (hk : ∀ a, a ∉ fp → H2 a = H a ∧ F2 a = F a) (hf : ∀ a ∈ fp, F2 a = H2 a) (TU : TupIn F2 H2) (q : Dp K F2 v d) :
    Rp K C F2 H2 (e.set i (some (.fz d))) σ := by
  obtain ⟨u, hu, fp1, o1, nd1, h1, hb1⟩ := R.sl _ _ he
  rw [hv] at hu; cases hu
  cases o.uniq o1
  have T : TrAt K H e σ i fp := ⟨false, t, v, F, he, hv, o⟩
  have E : Ext F F2 := fun a o h => by
    have : a ∉ fp := fun z => by have := (h1 a z).1; rw [h] at this; cases this
    rw [(hk a this).2]; exact h
  have keepM : ∀ a, C.M a → H2 a = H a ∧ F2 a = F a := fun a ha => hk a fun z => (h1 a z).2 ha
  have nfp : ∀ (j : Nat) (y : Sv) (a : Addr), e[j]? = some (some y) → y.mu = true → σ[j]? = some (some (V.ref a)) → a ∉ fp := fun j y a hy my hs hq => (R.tn i fp T).1 a hq j y hy my hs
  have low : ∀ {j : Nat} {y : Sv}, (e.set i (some (.fz d)))[j]? = some (some y) → (i = j ∧ y = .fz d) ∨ (i ≠ j ∧ e[j]? = some (some y)) := fun {j y} h => by
    rcases getset h with ⟨rfl, z⟩ | ⟨hj, h⟩
    · cases z; exact .inl ⟨rfl, rfl⟩
    · exact .inr ⟨hj, h⟩
  have oth : ∀ {j : Nat} {fq : List Addr}, TrAt K H2 (e.set i (some (.fz d))) σ j fq → i ≠ j ∧ TrAt K H e σ j fq := fun {j fq} h => by
    obtain ⟨b2, t2, v2, F3, he2, hv2, o2⟩ := h
    rcases low he2 with ⟨_, z⟩ | ⟨hj, he2⟩
    · cases z
    obtain ⟨u, hu, fq', oq, _, hF, _⟩ := R.sl _ _ he2
    rw [hv2] at hu; cases hu
    have Tq : TrAt K H e σ j fq' := ⟨b2, t2, v2, F, he2, hv2, oq⟩
    have oq2 : Ow K F H2 t2 v2 fq' := oq.ext (.refl F) fun a ha => (hk a (fun z => (R.tn i fp T).2 j fq' hj Tq a z ha)).1
    cases oq2.uniq o2
    exact ⟨hj, Tq⟩
  refine ⟨by rw [List.length_set]; exact R.len, fun a o h => ?_, fun a ha => ?_, fun a ha => ?_, fun j x hx => ?_, R.ml, fun j k x y hjk hx hy mx my => ?_, fun j fq h => ⟨fun a ha k y hy my hs => ?_, fun k fq' hjk h' a ha hq => ?_⟩, TU⟩
  · by_cases z : a ∈ fp
    · rw [← hf a z]; exact h
    · rw [(hk a z).2] at h; rw [(hk a z).1]; exact R.ext a o h
  · rw [(keepM a ha).2]; exact R.off a ha
  · rw [(keepM a ha).1]; exact R.frm a ha
  · rcases low hx with ⟨rfl, rfl⟩ | ⟨hj, hx⟩
    · exact ⟨v, hv, q⟩
    · obtain ⟨u, hu, q⟩ := R.sl j x hx
      refine ⟨u, hu, ?_⟩
      cases x with
      | fz d => exact Dp.ext E q
      | own ds =>
        obtain ⟨p, vs, rfl, k1, k2, k3, k4⟩ := q
        have k := hk p (nfp j _ p hx rfl hu)
        exact ⟨p, vs, rfl, k.1.trans k1, k2.ext E, k.2.trans k3, k4⟩
      | lent ds =>
        obtain ⟨vs, rfl, k1, k2, k3⟩ := q
        exact ⟨vs, rfl, (keepM _ (R.ml j k3)).1.trans k1, k2.ext E, k3⟩
      | io ds =>
        obtain ⟨vs, rfl, k1, k2, k3, k4⟩ := q
        have k := hk (C.lam j) (nfp j _ _ hx rfl hu)
        exact ⟨vs, rfl, k.1.trans k1, k2.ext E, k.2.trans k3, k4⟩
      | tr b2 t2 =>
        obtain ⟨fq, oq, ndq, hq, hbq⟩ := q
        have Tq : TrAt K H e σ j fq := ⟨b2, t2, u, F, hx, hu, oq⟩
        have k := fun a ha => hk a (fun z => (R.tn i fp T).2 j fq hj Tq a z ha)
        exact ⟨fq, oq.ext E fun a ha => (k a ha).1, ndq, fun a ha => ⟨(k a ha).2.trans (hq a ha).1, (hq a ha).2⟩, hbq⟩
  · rcases low hx with ⟨_, rfl⟩ | ⟨hj, hx⟩
    · cases mx
    rcases low hy with ⟨_, rfl⟩ | ⟨hk, hy⟩
    · cases my
    exact R.ne j k x y hjk hx hy mx my
  · rcases low hy with ⟨_, rfl⟩ | ⟨_, hy⟩
    · cases my
    · exact (R.tn j fq (oth h).2).1 a ha k y hy my hs
  · exact (R.tn j fq (oth h).2).2 k fq' hjk (oth h').2 a ha hq
/-- a name's worth; a thing of our own is laid down for good -/
def eVL (i : Nat) : Ev := fun e => match e[i]? with
  | some (some (.tr false t)) => if t.flat then .ok (.fz t.d) (e.set i (some (.fz t.d))) else .no
  | some (some (.tr true _)) => .no
  | some (some (.fz d)) => .ok (.fz d) e
  | some (some _) => .ok (.bor i) e
  | _ => .no
theorem rd_varL {w : Wd} {i : Nat} {Q : VK} (h : rdR w (eVL i) σ H Q) : tLockA (tVar i) σ H Q := by
  obtain ⟨C, F, e, R, P⟩ := h
  have nl : ∀ v, Q v H → ∃ L : List Addr, L.Nodup ∧ (∀ d ∈ L, ∃ u, H d = some u ∧ Mut (some u)) ∧ ∀ H2, Locked L H H2 → Q v H2 := fun v q => ⟨[], List.nodup_nil, fun d h => absurd h List.not_mem_nil, fun H2 k => by
    have : H2 = H := funext fun a => k.2 a List.not_mem_nil
    rw [this]; exact q⟩
  unfold eVL at P
  split at P
  · rename_i t ht
    obtain ⟨v, hv, fp, o, nd, hF, _⟩ := R.sl _ _ ht
    split at P
    · rename_i hfl
      obtain ⟨L, ndL, hL⟩ := dicts_of H fp
      refine ⟨v, hv, L, ndL, fun d hd => ?_, fun H2 k => ?_⟩
      · obtain ⟨_, o, k1, k2⟩ := (hL d).mp hd
        exact ⟨o, k1, isDc_mut k2⟩
      · let F2 : Hp := fun a => if a ∈ fp then H2 a else F a
        have hk : ∀ a, a ∉ fp → H2 a = H a ∧ F2 a = F a := fun a ha => ⟨k.2 a fun z => ha ((hL a).mp z).1, if_neg ha⟩
        have hf : ∀ a ∈ fp, F2 a = H2 a := fun a ha => if_pos ha
        have E : Ext F F2 := fun a o h => by
          have : a ∉ fp := fun z => by have := (hF a z).1; rw [h] at this; cases this
          rw [(hk a this).2]; exact h
        have q : Dp w.K F2 v t.d := o.dp E hfl fun a ha o' ho => by
          rw [hf a ha]
          constructor
          · intro hd
            obtain ⟨od, u, k1, k2⟩ := k.1 a ((hL a).mpr ⟨ha, o', ho, hd⟩)
            rw [ho] at k1; cases k1
            exact ⟨od, k2⟩
          · intro hd
            rw [k.2 a fun z => ?_]; exact ho
            obtain ⟨_, o2, k1, k2⟩ := (hL a).mp z
            rw [ho] at k1; cases k1
            rw [hd] at k2; cases k2
        have TU : TupIn F2 H2 := fun a xs h => by
          by_cases ha : a ∈ fp
          · rw [hf a ha]; exact h
          · rw [(hk a ha).1] at h; rw [(hk a ha).2]; exact R.tup a xs h
        exact P v F2 H2 (R.retire ht hv o hk hf TU q) E q
    · exact P.elim
  · exact P.elim
  · rename_i d hd
    obtain ⟨v, hv, q⟩ := R.sl _ _ hd
    exact ⟨v, hv, nl v (P.ok' R q)⟩
  · rename_i x hn1 hn2 hn hx
    obtain ⟨v, hv, q⟩ := R.sl _ _ hx
    exact ⟨v, hv, nl v (P.ok' R (show RvR _ _ _ _ _ _ (.bor i) v from hv))⟩
  · exact P.elim
def Sv.d : Sv → Option D
  | .fz d => some d
  | .own ds => some (.list ds)
  | .lent ds => some (.list ds)
  | .io ds => some (.list ds)
  | .tr _ t => if t.flat then some t.d else none
def lend1 (o : Option Sv) : Option Sv := o.bind fun x => x.d.map Sv.fz
def lendE (e : Env) : Env := e.map lend1
def scal : D → Bool
  | .none => true
  | .bool _ => true
  | .int _ => true
  | .str _ => true
  | _ => false
def lentE (a : Ev) : Ev := fun e => match a (lendE e) with
  | .ok (.fz d) _ => if scal d then .ok (.fz d) e else .no
  | _ => .no
def lentT (c : Sem1 Bool) : Sem1 Bool := fun e => match c (lendE e) with
  | .ok b _ => .ok b e
  | _ => .no
theorem scal_dp {d : D} {v : V} {F F' : Hp} (h : scal d = true) (q : Dp K F v d) : Dp K F' v d := by
  cases q with
  | non => exact .non
  | bl b => exact .bl b
  | int i => exact .int i
  | str x => exact .str x
  | _ => cases h
def noCf : Cf := ⟨fun _ => False, fun _ => none, fun _ => 0, fun _ => False⟩
theorem trs_of (K : PySem.W.Frag) (H : Hp) (e : Env) (σ : L2.St) (n : Nat) : ∃ l : List Addr, (∀ i fp, i < n → TrAt K H e σ i fp → ∀ a ∈ fp, a ∈ l) ∧ ∀ a ∈ l, ∃ i fp, TrAt K H e σ i fp ∧ a ∈ fp := by
  induction n with
  | zero => exact ⟨[], fun i fp h => absurd h (Nat.not_lt_zero i), fun a h => absurd h List.not_mem_nil⟩
  | succ n ih =>
    obtain ⟨l, h1, h2⟩ := ih
    by_cases q : ∃ fp, TrAt K H e σ n fp
    · obtain ⟨fp, T⟩ := q
      refine ⟨fp ++ l, fun i fq hi Tq a ha => ?_, fun a ha => ?_⟩
      · by_cases hn : i = n
        · subst hn
          obtain ⟨b, t, v, F1, he, hv, o⟩ := T
          obtain ⟨b', t', v', F2, he', hv', o'⟩ := Tq
          rw [he] at he'; cases he'
          rw [hv] at hv'; cases hv'
          cases o.uniq o'
          exact List.mem_append_left _ ha
        · exact List.mem_append_right _ (h1 i fq (by omega) Tq a ha)
      · rcases List.mem_append.mp ha with ha | ha
        · exact ⟨n, fp, T, ha⟩
        · exact h2 a ha
    · refine ⟨l, fun i fq hi Tq a ha => ?_, h2⟩
      by_cases hn : i = n
      · subst hn; exact absurd ⟨fq, Tq⟩ q
      · exact h1 i fq (by omega) Tq a ha
theorem Rp.lendAll (R : Rp K C F H e σ) : ∃ L : List Addr, L.Nodup ∧ (∀ d ∈ L, ∃ u, H d = some u ∧ Mut (some u)) ∧ ∀ H1, Locked L H H1 → Rp K noCf H1 H1 (lendE e) σ ∧
    ∀ H2, Ext H1 H2 → (∀ d ∈ L, H2 d = H1 d) ∧ ∃ F', Ext F F' ∧ Rp K C F' (unlockH L H H2) e σ := by
  obtain ⟨l, hl1, hl2⟩ := trs_of K H e σ e.length
  obtain ⟨L, nd, hL⟩ := dicts_of H l
  refine ⟨L, nd, fun d hd => ?_, fun H1 k => ⟨⟨by unfold lendE; rw [List.length_map]; exact R.len, .refl H1, fun a h => h.elim, fun a h => h.elim, fun i x hx => ?_, fun i h => h.elim, fun i j x y _ hx _ mx _ => ?_, fun i fp h => ?_, fun _ _ z => z⟩, fun H2 E2 => ?_⟩⟩
  · obtain ⟨_, o, k1, k2⟩ := (hL d).mp hd
    exact ⟨o, k1, isDc_mut k2⟩
  · -- a slot
    have EF : Ext F H1 := fun a o h => by
      have : a ∉ L := fun z => by
        obtain ⟨i, fp, T, ha⟩ := hl2 a ((hL a).mp z).1
        have := ((R.trFp T).1 a ha).1
        rw [h] at this; cases this
      rw [k.2 a this]; exact R.ext a o h
    have lst : ∀ {p : Addr} {vs : List V}, H p = some (.lst vs) → H1 p = some (.lst vs) := fun {p vs} h => by
      rw [k.2 p fun z => ?_]; exact h
      obtain ⟨_, o, k1, k2⟩ := (hL p).mp z
      rw [h] at k1; cases k1; cases k2
    unfold lendE at hx
    rw [List.getElem?_map] at hx
    cases he : e[i]? with
    | none => rw [he] at hx; cases hx
    | some oo =>
      cases oo with
      | none => rw [he] at hx; cases hx
      | some y =>
        rw [he] at hx
        obtain ⟨v, hv, q⟩ := R.sl i y he
        refine ⟨v, hv, ?_⟩
        have hx : (y.d.map Sv.fz) = some x := by
          have hx : some (lend1 (some y)) = some (some x) := hx
          exact Option.some.inj hx
        obtain ⟨d, hd, rfl⟩ := Option.map_eq_some_iff.mp hx
        show Dp K H1 v d
        cases y with
        | fz d' => cases hd; exact Dp.ext EF q
        | own ds => cases hd; obtain ⟨p, vs, rfl, k1, k2, _⟩ := q; exact .lst (.of (lst k1)) (k2.ext EF)
        | lent ds => cases hd; obtain ⟨vs, rfl, k1, k2, _⟩ := q; exact .lst (.of (lst k1)) (k2.ext EF)
        | io ds => cases hd; obtain ⟨vs, rfl, k1, k2, _⟩ := q; exact .lst (.of (lst k1)) (k2.ext EF)
        | tr b t =>
          obtain ⟨fp, o, ndf, hF, hb⟩ := q
          have hd : (if t.flat then some t.d else none) = some d := hd
          split at hd
          · rename_i hfl
            cases hd
            refine o.dp EF hfl fun a ha o' ho => ?_
            have al : a ∈ l := hl1 i fp (List.getElem?_eq_some_iff.mp he).1 ⟨b, t, v, F, he, hv, o⟩ a ha
            constructor
            · intro hd
              obtain ⟨od, u, k1, k2⟩ := k.1 a ((hL a).mpr ⟨al, o', ho, hd⟩)
              rw [ho] at k1; cases k1
              exact ⟨od, k2⟩
            · intro hd
              rw [k.2 a fun z => ?_]; exact ho
              obtain ⟨_, o2, k1, k2⟩ := (hL a).mp z
              rw [ho] at k1; cases k1
              rw [hd] at k2; cases k2
          · cases hd
  · -- none is changeable
    unfold lendE at hx
    rw [List.getElem?_map] at hx
    cases he : e[i]? with
    | none => rw [he] at hx; cases hx
    | some oo =>
      rw [he] at hx
      have hx : lend1 oo = some x := Option.some.inj hx
      unfold lend1 at hx
      obtain ⟨y, _, hy⟩ := Option.bind_eq_some_iff.mp hx
      obtain ⟨d, _, rfl⟩ := Option.map_eq_some_iff.mp hy
      cases mx
  · obtain ⟨b, t, v, F', hx, _⟩ := h
    unfold lendE at hx
    rw [List.getElem?_map] at hx
    cases he : e[i]? with
    | none => rw [he] at hx; cases hx
    | some oo =>
      rw [he] at hx
      have hx : lend1 oo = some (.tr b t) := Option.some.inj hx
      unfold lend1 at hx
      obtain ⟨y, _, hy⟩ := Option.bind_eq_some_iff.mp hx
      obtain ⟨d, _, z⟩ := Option.map_eq_some_iff.mp hy
      cases z
  · refine ⟨fun d hd => ?_, ?_⟩
    · obtain ⟨od, u, k1, k2⟩ := k.1 d hd
      rw [k2]; exact E2 _ _ k2
    · have EH : ∀ a, H a ≠ none → unlockH L H H2 a = H a := fun a ha => by
        unfold unlockH
        by_cases z : a ∈ L
        · rw [if_pos z]
        · rw [if_neg z]
          cases q : H a with
          | none => exact absurd q ha
          | some o => exact E2 a o (by rw [k.2 a z]; exact q)
      have nn : ∀ {a : Addr} {o : HO}, H a = some o → unlockH L H H2 a = some o := fun {a o} h => (EH a (by rw [h]; exact fun z => by cases z)).trans h
      let F' : Hp := fun a => match unlockH L H H2 a with | some (HO.tup xs) => some (HO.tup xs) | _ => F a
      have f1 : ∀ {a xs}, unlockH L H H2 a = some (.tup xs) → F' a = some (.tup xs) := fun {a xs} h => by show (match unlockH L H H2 a with | some (HO.tup xs) => some (HO.tup xs) | _ => F a) = _; rw [h]
      have f2 : ∀ {a}, (∀ xs, unlockH L H H2 a ≠ some (.tup xs)) → F' a = F a := fun {a} h => by
        show (match unlockH L H H2 a with | some (HO.tup xs) => some (HO.tup xs) | _ => F a) = _
        split
        · rename_i xs q; exact absurd q (h xs)
        · rfl
      have E : Ext F F' := fun a o h => by
        have hU := nn (R.ext a o h)
        by_cases q : ∃ xs, o = .tup xs
        · obtain ⟨xs, rfl⟩ := q; exact f1 hU
        · rw [f2 fun xs z => q ⟨xs, by rw [hU] at z; exact Option.some.inj z⟩]; exact h
      refine ⟨F', E, R.after ⟨E, fun a o h => ?_, fun a h1 h2 => ⟨EH a h1, ?_⟩, fun a xs h => f1 h⟩⟩
      · by_cases q : ∃ xs, unlockH L H H2 a = some (.tup xs)
        · obtain ⟨xs, q⟩ := q
          rw [f1 q] at h; rw [q]; exact h
        · rw [f2 fun xs z => q ⟨xs, z⟩] at h
          exact nn (R.ext a o h)
      · rw [f2 fun xs z => ?_]; exact h2
        rw [EH a h1] at z
        rw [R.tup a xs z] at h2; cases h2
theorem rd_lentE {w : Wd} {a : Ev} {Q : VK} (h : rdR w (lentE a) σ H Q) : tLockL (rdR w a) σ H Q := by
  obtain ⟨C, F, e, R, P⟩ := h
  obtain ⟨L, nd, hm, k⟩ := R.lendAll
  refine ⟨L, nd, hm, fun H1 hk => ?_⟩
  obtain ⟨R1, back⟩ := k H1 hk
  refine ⟨noCf, H1, lendE e, R1, ?_⟩
  unfold lentE at P
  split at P
  · rename_i d e1 ha
    rw [ha]
    split at P
    · rename_i hs
      intro v F' H' R' E q
      obtain ⟨b1, F2, E2, b2⟩ := back H' (E.trans R'.ext)
      exact ⟨b1, P v F2 _ b2 E2 (show RvR _ _ _ _ _ _ (.fz d) v from scal_dp hs q)⟩
    · exact P.elim
  · exact P.elim
theorem rd_lentT {w : Wd} {c : Sem1 Bool} {Q : Bool → Hp → Prop} (h : rdT w (lentT c) σ H Q) : tLockL (rdT w c) σ H Q := by
  obtain ⟨C, F, e, R, P⟩ := h
  obtain ⟨L, nd, hm, k⟩ := R.lendAll
  refine ⟨L, nd, hm, fun H1 hk => ?_⟩
  obtain ⟨R1, back⟩ := k H1 hk
  refine ⟨noCf, H1, lendE e, R1, ?_⟩
  unfold lentT at P
  split at P
  · rename_i d e1 ha
    rw [ha]
    intro v F' H' R' E q
    obtain ⟨b1, F2, E2, b2⟩ := back H' (E.trans R'.ext)
    cases q
    exact ⟨b1, P _ F2 _ b2 E2 rfl⟩
  · exact P.elim
section
variable {w : Wd} {X : Cx} {ex : Expr} {a : Ev} {c : Sem1 Bool} {pos : Pos} {x : Str}
theorem ve_lent (h : PE X ex (rdR w a)) : PE X ex (rdR w (lentE a)) := pe_mono (pe_lockL h) fun _ _ _ q => rd_lentE q
theorem vt_lent (h : PT X ex (rdT w c)) : PT X ex (rdT w (lentT c)) := pt_mono (pt_lockL h) fun _ _ _ q => rd_lentT q
theorem ve_varL (i : Nat) (hN : X.N[i]? = some x := by rfl) (hv : Vis X.env.scope x := by first | exact Or.inl rfl | exact Or.inr (Or.inl rfl) | exact Or.inr (Or.inr rfl)) (hd : (x == ("__debug__" : Str)) = false := by decide)
    (hcd : (x == ("__classdict__" : Str)) = false := by decide) : PE X (.Name x pos) (rdR w (eVL i)) := pe_mono (pe_lockA (pv i hN hv hd hcd)) fun _ _ _ h => rd_varL h
end
end VI
set_option Elab.async false
set_option linter.all false
set_option maxRecDepth 100000
set_option maxHeartbeats 4000000
namespace VI
open PySem PySem.Spec PyProof.Rows L2
variable {K : PySem.W.Frag} {C : Cf} {F H : Hp} {e e' : Env} {σ : L2.St}
section
variable {κ α : Type} [DecidableEq κ]
def aget (kvs : List (κ × α)) (k : κ) : Option α := (kvs.find? fun p => decide (p.1 = k)).map (·.2)
def aput (kvs : List (κ × α)) (k : κ) (v : α) : List (κ × α) := if (kvs.any fun p => decide (p.1 = k)) = true then kvs.map (fun p => if p.1 = k then (p.1, v) else p) else kvs ++ [(k, v)]
@[simp] theorem aget_nil (k : κ) : aget ([] : List (κ × α)) k = none := rfl
end
def skey : D → Option Key
  | .int i => some (.inl i)
  | .str s => some (.inr s)
  | _ => none
def skeys : List D → Option (List Key)
  | [] => some []
  | d :: ds => (skey d).bind fun k => (skeys ds).map fun ks => k :: ks
def tkey : D → Option (List Key)
  | .tuple ds => skeys ds
  | _ => none
@[simp] theorem skey_D (k : Key) : skey (keyD k) = some k := by cases k <;> rfl
@[simp] theorem skeys_D (ks : List Key) : skeys (ks.map keyD) = some ks := by
  induction ks with
  | nil => rfl
  | cons k ks ih => rw [List.map_cons]; unfold skeys; rw [skey_D, ih]; rfl
@[simp] theorem tkey_D (ks : List Key) : tkey (keysD ks) = some ks := skeys_D ks
@[simp] theorem tkey_key (k : Key) : tkey (keyD k) = none := by cases k <;> rfl
@[simp] theorem skey_keys (ks : List Key) : skey (keysD ks) = none := rfl
def dictT (kvs : List (List Key × D)) : D := .dict (kvs.map fun p => (keysD p.1, p.2))
def dictK (kvs : List (Key × D)) : D := .dict ((.none, .none) :: kvs.map fun p => (keyD p.1, p.2))
def unTs : List (D × D) → Option (List (List Key × D))
  | [] => some []
  | p :: ps => (tkey p.1).bind fun k => (unTs ps).map fun r => (k, p.2) :: r
def unKs : List (D × D) → Option (List (Key × D))
  | [] => some []
  | p :: ps => (skey p.1).bind fun k => (unKs ps).map fun r => (k, p.2) :: r
def unT : D → Option (List (List Key × D))
  | .dict ps => unTs ps
  | _ => none
def unK : D → Option (List (Key × D))
  | .dict ((.none, .none) :: ps) => unKs ps
  | _ => none
theorem unTs_eq (kvs : List (List Key × D)) : unTs (kvs.map fun p => (keysD p.1, p.2)) = some kvs := by
  induction kvs with
  | nil => rfl
  | cons p kvs ih => rw [List.map_cons]; unfold unTs; rw [tkey_D, ih]; rfl
theorem unKs_eq (kvs : List (Key × D)) : unKs (kvs.map fun p => (keyD p.1, p.2)) = some kvs := by
  induction kvs with
  | nil => rfl
  | cons p kvs ih => rw [List.map_cons]; unfold unKs; rw [skey_D, ih]; rfl
@[simp] theorem unT_T (kvs : List (List Key × D)) : unT (dictT kvs) = some kvs := unTs_eq kvs
@[simp] theorem unK_K (kvs : List (Key × D)) : unK (dictK kvs) = some kvs := unKs_eq kvs
@[simp] theorem unT_K (kvs : List (Key × D)) : unT (dictK kvs) = none := rfl
@[simp] theorem unK_T (kvs : List (List Key × D)) : unK (dictT kvs) = none := by
  unfold unK dictT
  cases kvs with
  | nil => rfl
  | cons p kvs => rfl
/-- the look-up -/
def dlook (d k : D) : Option (Option D) := match unT d, tkey k with
  | some kvs, some ks => some (aget kvs ks)
  | _, _ => match unK d, skey k with
    | some kvs, some ks => some (aget kvs ks)
    | _, _ => none
@[simp] theorem dlook_T (kvs : List (List Key × D)) (ks : List Key) : dlook (dictT kvs) (keysD ks) = some (aget kvs ks) := by unfold dlook; rw [unT_T, tkey_D]
@[simp] theorem dlook_K (kvs : List (Key × D)) (k : Key) : dlook (dictK kvs) (keyD k) = some (aget kvs k) := by unfold dlook; rw [unT_K, unK_K, skey_D]
def inK : F2 := fun x d => (dlook d x).map fun r => .fz (.bool r.isSome)
def notInK : F2 := fun x d => (dlook d x).map fun r => .fz (.bool (!r.isSome))
def ixK : F2 := fun d k => (dlook d k).bind fun r => r.map .fz
def isDct (d : D) : Bool := (unT d).isSome || (unK d).isSome
@[simp] theorem isDct_T (kvs : List (List Key × D)) : isDct (dictT kvs) = true := by unfold isDct; rw [unT_T]; rfl
@[simp] theorem isDct_K (kvs : List (Key × D)) : isDct (dictK kvs) = true := by unfold isDct; rw [unK_K]; simp
def getK1 (a b : Ev) : Ev := fun e => (toD a e).bind fun d e1 => if isDct d then (toD b e1).bind fun k e2 => ofO ((dlook d k).map fun r => .fz (r.getD .none)) e2 else .no
def getK2 (a b c : Ev) : Ev := fun e => (toD a e).bind fun d e1 => if isDct d then (toD b e1).bind fun k e2 => (toD c e2).bind fun x e3 => ofO ((dlook d k).map fun r => .fz (r.getD x)) e3 else .no
def keysOf (d : D) : Option (List D) := match unT d with
  | some kvs => some (kvs.map fun p => keysD p.1)
  | none => (unK d).map fun kvs => kvs.map fun p => keyD p.1
def keysE (a : Ev) : Sem1 Src := fun e => (toD a e).bind fun d e1 => ofO ((keysOf d).map fun ks => ⟨ks, []⟩) e1
def valsE (a : Ev) : Sem1 Src := fun e => (toD a e).bind fun d e1 => ofO ((unK d).map fun kvs => ⟨kvs.map (·.2), []⟩) e1
def itemsE (a : Ev) : Sem1 Src := fun e => (toD a e).bind fun d e1 => ofO ((unK d).map fun kvs => ⟨kvs.map fun p => .tuple [keyD p.1, p.2], []⟩) e1
section
variable {w : Wd} {X : Cx} {o i f tg : Expr} {a b c : Ev} {pos apos cpos tpos : Pos} {elts : List Expr} {kk : Nat}
end
end VI
set_option Elab.async false
set_option linter.all false
set_option maxRecDepth 100000
set_option maxHeartbeats 4000000
namespace VI
open PySem PySem.Spec PyProof.Rows L2
variable {K : PySem.W.Frag} {C : Cf} {F H : Hp} {e e' : Env} {σ : L2.St}
def Cf.holds (C : Cf) (H : Hp) (L : List Addr) : Cf := ⟨fun a => C.M a ∨ a ∈ L, H, C.lam, C.Ml⟩
theorem Rp.holds (R : Rp K C F H e σ) {L : List Addr} (h : ∀ a ∈ L, H a ≠ none ∧ F a = none ∧ Apar K H e σ a) : Rp K (C.holds H L) F H e σ := by
  refine ⟨R.len, R.ext, fun a ha => ?_, fun a ha => ⟨rfl, ?_⟩, fun i x hx => ?_, fun i hi => .inl (R.ml i hi), R.ne, R.tn, R.tup⟩
  · rcases ha with ha | ha
    · exact R.off a ha
    · exact (h a ha).2.1
  · rcases ha with ha | ha
    · show H a ≠ none; rw [(R.frm a ha).1]; exact (R.frm a ha).2
    · exact (h a ha).1
  · obtain ⟨v, hv, q⟩ := R.sl i x hx
    refine ⟨v, hv, ?_⟩
    cases x with
    | fz d => exact q
    | own ds =>
      obtain ⟨p', vs, rfl, h1, h2, h3, h4⟩ := q
      refine ⟨p', vs, rfl, h1, h2, h3, fun z => ?_⟩
      rcases z with z | z
      · exact h4 z
      · exact (h p' z).2.2.1 i _ hx rfl hv
    | lent ds => exact q
    | io ds =>
      obtain ⟨vs, rfl, h1, h2, h3, h4⟩ := q
      refine ⟨vs, rfl, h1, h2, h3, fun z => ?_⟩
      rcases z with z | z
      · exact h4 z
      · exact (h _ z).2.2.1 i _ hx rfl hv
    | tr b t =>
      obtain ⟨fp, o, nd, hh, hb⟩ := q
      refine ⟨fp, o, nd, fun a ha => ⟨(hh a ha).1, fun z => ?_⟩, hb⟩
      rcases z with z | z
      · exact (hh a ha).2 z
      · exact (h a z).2.2.2 i fp ⟨b, t, v, F, hx, hv, o⟩ ha
theorem Rp.drops (R0 : Rp K C F H e σ) {F2 H2 : Hp} {e2 : Env} {σ2 : L2.St} {L : List Addr} (R : Rp K (C.holds H L) F2 H2 e2 σ2) : Rp K C F2 H2 e2 σ2 ∧ ∀ a ∈ L, H2 a = H a ∧ F2 a = none ∧ Apar K H2 e2 σ2 a := by
  refine ⟨⟨R.len, R.ext, fun a ha => R.off a (.inl ha), fun a ha => ?_, fun i x hx => ?_, R0.ml, R.ne, R.tn, R.tup⟩, fun a ha => ⟨(R.frm a (.inr ha)).1, R.off a (.inr ha), fun i x hx mx hv => ?_, fun i fp h hq => ((R.trFp h).1 a hq).2.1 (.inr ha)⟩⟩
  · have h := R.frm a (.inl ha)
    exact ⟨h.1.trans (R0.frm a ha).1, (R0.frm a ha).2⟩
  · obtain ⟨v, hv, q⟩ := R.sl i x hx
    refine ⟨v, hv, ?_⟩
    cases x with
    | fz d => exact q
    | own ds => obtain ⟨p', vs, rfl, h1, h2, h3, h4⟩ := q; exact ⟨p', vs, rfl, h1, h2, h3, fun z => h4 (.inl z)⟩
    | lent ds => exact q
    | io ds => obtain ⟨vs, rfl, h1, h2, h3, h4⟩ := q; exact ⟨vs, rfl, h1, h2, h3, fun z => h4 (.inl z)⟩
    | tr b t => obtain ⟨fp, o', nd, h, hb⟩ := q; exact ⟨fp, o', nd, fun a ha => ⟨(h a ha).1, fun z => (h a ha).2 (.inl z)⟩, hb⟩
  · obtain ⟨v, hv', q⟩ := R.sl i x hx
    rw [hv] at hv'; cases hv'
    cases x with
    | fz d => cases mx
    | own ds => obtain ⟨p', vs, h0, _, _, _, h4⟩ := q; injection h0 with h0; subst h0; exact h4 (.inr ha)
    | lent ds => cases mx
    | io ds => obtain ⟨vs, h0, _, _, _, h4⟩ := q; injection h0 with h0; rw [← h0] at h4; exact h4 (.inr ha)
    | tr b t => cases mx
abbrev Nv := Sem1 OT
abbrev rdN (w : Wd) (a : Nv) : TE := Rd w (fun C F H e σ t v => NewAt w.K C F H e σ t v) a
/-- several, apart from one another -/
def NewsAt (K : PySem.W.Frag) (C : Cf) (F H : Hp) (e : Env) (σ : L2.St) (ts : List OT) (vs : List V) : Prop := ∃ fp, OwL K F H ts vs fp ∧ fp.Nodup ∧ ∀ a ∈ fp, F a = none ∧ ¬ C.M a ∧ Apar K H e σ a
abbrev rdNs (w : Wd) (a : Sem1 (List OT)) : TA := Rd w (fun C F H e σ ts vs => NewsAt w.K C F H e σ ts vs) a
theorem NewAt.fz {v : V} {d : D} (q : Dp K F v d) : NewAt K C F H e σ (.fz d) v := ⟨[], .fz q, List.nodup_nil, fun a h => absurd h List.not_mem_nil⟩
theorem owl_fz : ∀ {ds : List D} {vs : List V}, DpAll K F vs ds → OwL K F H (ds.map OT.fz) vs []
  | [], _, .nil => .nil
  | d :: ds, _, .cons a r => by
    have := OwL.cons (H := H) (Ow.fz a) (owl_fz r)
    exact this
theorem owl_fz' : ∀ {ds : List D} {vs : List V} {fp : List Addr}, OwL K F H (ds.map OT.fz) vs fp → DpAll K F vs ds ∧ fp = []
  | [], _, _, .nil => ⟨.nil, rfl⟩
  | d :: ds, _, _, .cons a r => by
    cases a with
    | fz q =>
      obtain ⟨h1, rfl⟩ := owl_fz' r
      exact ⟨.cons q h1, rfl⟩
theorem NewAt.fresh {v : V} {ds : List D} (q : RvR K C F H e σ (.fresh ds) v) : NewAt K C F H e σ (.lst (ds.map OT.fz)) v := by
  obtain ⟨p, vs, rfl, h1, h2, h3, h4, h5⟩ := q
  refine ⟨[p], .lst h1 (owl_fz h2), (List.nodup_cons.mpr ⟨List.not_mem_nil, List.nodup_nil⟩), fun a ha => ?_⟩
  rw [List.mem_singleton] at ha
  subst ha
  exact ⟨h3, h4, h5⟩
def nv (a : Ev) : Nv := fun e => ((a e).bind mvR).bind fun r e1 => match r with
  | .fz d => .ok (.fz d) e1
  | .fresh ds => .ok (.lst (ds.map OT.fz)) e1
  | .bor _ => .no
theorem rd_nv {w : Wd} {a : Ev} {Q : VK} (h : rdN w (nv a) σ H Q) : rdR w a σ H Q := by
  obtain ⟨C, F, e, R, P⟩ := h
  have P : Post w (fun C F H e σ t v => NewAt w.K C F H e σ t v) C F σ Q ((a e).bind fun r e0 => (mvR r e0).bind fun r e1 => match r with | .fz d => .ok (.fz d) e1 | .fresh ds => .ok (.lst (ds.map OT.fz)) e1 | .bor _ => .no) := by rw [← rs_assoc]; exact P
  refine bindP R P fun F1 H1 e1 r v h1 R1 E1 q1 P1 => ?_
  obtain ⟨F2, e2, x, R2, E2, q2, nb, P2⟩ := P1.mvR R1 q1
  cases x with
  | bor i => exact absurd rfl (nb i)
  | fz d => exact P2.ok' R2 (.fz q2)
  | fresh ds => exact P2.ok' R2 (.fresh q2)
def nDT : Nv := fun e => .ok (.dT [] []) e
def nDK : Nv := fun e => .ok (.dK [] []) e
def news : List Nv → Sem1 (List OT)
  | [] => fun e => .ok [] e
  | a :: as => fun e => (a e).bind fun t e1 => (news as e1).bind fun ts e2 => .ok (t :: ts) e2
theorem rd_news_nil {w : Wd} {Q : List V → Hp → Prop} (h : rdNs w (news []) σ H Q) : tNil σ H Q := by
  obtain ⟨C, F, e, R, P⟩ := h
  exact P.ok' R ⟨[], .nil, List.nodup_nil, fun a h => absurd h List.not_mem_nil⟩
theorem rd_news_cons {w : Wd} {a : Nv} {as : List Nv} {Q : List V → Hp → Prop} (h : rdNs w (news (a :: as)) σ H Q) : tCons (rdN w a) (rdNs w (news as)) σ H Q := by
  obtain ⟨C, F, e, R, P⟩ := h
  refine bindP R P fun F1 H1 e1 t v h1 R1 E1 q1 P1 => ?_
  obtain ⟨fp, o, nd, hF⟩ := q1
  have Rh := R1.holds (L := fp) fun a ha => ⟨o.some a ha, (hF a ha).1, (hF a ha).2.2⟩
  refine ⟨C.holds H1 fp, F1, e1, Rh, ?_⟩
  cases h3 : news as e1 with
  | no => rw [h3] at P1; exact P1
  | ex x e3 =>
    rw [h3] at P1
    intro F' H' cv od R' E' q
    exact P1 F' H' cv od (R1.drops R').1 E' q
  | ok ts e3 =>
    rw [h3] at P1
    intro vs F' H' R' E' q
    obtain ⟨R6, k⟩ := R1.drops R'
    obtain ⟨fp2, o2, nd2, hF2⟩ := q
    refine P1 _ F' H' R6 E' ⟨fp ++ fp2, .cons (o.ext E' fun a ha => (k a ha).1) o2, ?_, fun a ha => ?_⟩
    · rw [List.nodup_append]
      exact ⟨nd, nd2, fun a ha b hb z => (hF2 b hb).2.1 (.inr (z ▸ ha))⟩
    · rcases List.mem_append.mp ha with ha | ha
      · exact ⟨(k a ha).2.1, (hF a ha).2.1, (k a ha).2.2⟩
      · exact ⟨(hF2 a ha).1, fun z => (hF2 a ha).2.1 (.inl z), (hF2 a ha).2.2⟩
/-- a list of new things -/
def nLst (as : Sem1 (List OT)) : Nv := fun e => (as e).bind fun ts e1 => if ts.length ≤ sizeLine then .ok (.lst ts) e1 else .no
theorem Apar.grow (R : Rp K C F H e σ) {p a : Addr} {o : HO} (hp : H p = none) (h : Apar K H e σ a) : Apar K (upd H p o) e σ a := ⟨h.1, fun i fp ht => h.2 i fp (R.trBack (fun b h0 _ _ _ => upd_ne (fun z => h0 (z ▸ hp))) ht)⟩
theorem rd_nLst {w : Wd} {as : Sem1 (List OT)} {Q : VK} (h : rdN w (nLst as) σ H Q) : tLst (rdNs w as) σ H Q := by
  obtain ⟨C, F, e, R, P⟩ := h
  refine bindP R P fun F1 H1 e1 ts vs h1 R1 E1 q1 P1 => ?_
  obtain ⟨fp, o, nd, hF⟩ := q1
  split at P1
  · rename_i hl
    refine ⟨by rw [← o.length]; exact hl, fun p hp => ?_⟩
    obtain ⟨R2, hM, hF2, ap⟩ := R1.grow (o := .lst vs) hp
    have ne : ∀ a ∈ fp, a ≠ p := fun a ha z => o.some a ha (z ▸ hp)
    refine P1 _ F1 _ R2 (.refl F1) ⟨p :: fp, .lst upd_same (o.ext (.refl F1) fun a ha => upd_ne (ne a ha)), List.nodup_cons.mpr ⟨fun z => ne p z rfl, nd⟩, fun a ha => ?_⟩
    rcases List.mem_cons.mp ha with rfl | ha
    · exact ⟨hF2, hM, ap⟩
    · exact ⟨(hF a ha).1, (hF a ha).2.1, (hF a ha).2.2.grow R1 hp⟩
  · exact P1.elim
def allFz : List OT → Option (List D)
  | [] => some []
  | .fz d :: ts => (allFz ts).map fun ds => d :: ds
  | _ :: _ => none
@[simp] theorem allFz_map (ds : List D) : allFz (ds.map OT.fz) = some ds := by
  induction ds with
  | nil => rfl
  | cons d ds ih => rw [List.map_cons]; unfold allFz; rw [ih]; rfl
theorem allFz_of : ∀ {ts : List OT} {ds : List D}, allFz ts = some ds → ts = ds.map OT.fz
  | [], ds, h => by cases h; rfl
  | .fz d :: ts, ds, h => by
    unfold allFz at h
    obtain ⟨ds', h1, rfl⟩ := Option.map_eq_some_iff.mp h
    rw [List.map_cons, ← allFz_of h1]
  | .lst _ :: _, _, h => by cases h
  | .dT _ _ :: _, _, h => by cases h
  | .dK _ _ :: _, _, h => by cases h
  | .ins _ _ _ :: _, _, h => by cases h
def svOf : OT → Sv
  | .fz d => .fz d
  | .lst ts => match allFz ts with
    | some ds => .own ds
    | none => .tr false (.lst ts)
  | t => .tr false t
def unTr (i : Nat) (e : Env) : Env := match e[i]? with
  | some (some (.tr false _)) => e.set i none
  | _ => e
def storeN (i : Nat) (t : OT) (e : Env) : Rs Fl := if freeAt (unTr i e) i then .ok .nx ((unTr i e).set i (some (svOf t))) else .no
theorem Rp.unTr (R : Rp K C F H e σ) (i : Nat) : Rp K C F H (VI.unTr i e) σ := by
  unfold VI.unTr
  split
  · exact R.forget i
  · exact R
theorem low_unTr {i j : Nat} {y : Sv} (h : (VI.unTr i e)[j]? = some (some y)) : e[j]? = some (some y) := by
  unfold VI.unTr at h
  split at h
  · rcases getset h with ⟨_, z⟩ | ⟨_, h⟩
    · cases z
    · exact h
  · exact h
theorem Apar.unTr {a : Addr} {i : Nat} (h : Apar K H e σ a) : Apar K H (VI.unTr i e) σ a := ⟨fun j y hy my => h.1 j y (low_unTr hy) my, fun j fp ⟨b, t, v, F', hx, hv, o⟩ => h.2 j fp ⟨b, t, v, F', low_unTr hx, hv, o⟩⟩
theorem NewAt.unTr {t : OT} {v : V} {i : Nat} (h : NewAt K C F H e σ t v) : NewAt K C F H (VI.unTr i e) σ t v := by
  obtain ⟨fp, o, nd, hF⟩ := h
  exact ⟨fp, o, nd, fun a ha => ⟨(hF a ha).1, (hF a ha).2.1, (hF a ha).2.2.unTr⟩⟩
theorem free_lt {i : Nat} (R : Rp K C F H e σ) (h : freeAt e i = true) : i < σ.length := by
  rw [← R.len]
  unfold freeAt at h
  split at h <;> first | (cases h; done) | skip
  rename_i hs; exact (List.getElem?_eq_some_iff.mp hs).1
/-- a name takes a new thing; what else is new stays apart -/
theorem Rp.putN (R : Rp K C F H e σ) {i : Nat} {t : OT} {v : V} {fp : List Addr} (h : freeAt e i = true) (o : Ow K F H t v fp) (nd : fp.Nodup) (hF : ∀ a ∈ fp, F a = none ∧ ¬ C.M a ∧ Apar K H e σ a) :
    Rp K C F H (e.set i (some (svOf t))) (σ.set i (some v)) ∧ ∀ a, a ∉ fp → Apar K H e σ a → Apar K H (e.set i (some (svOf t))) (σ.set i (some v)) a := by
  have lt := free_lt R h
  have tr : ∀ {t : OT}, Ow K F H t v fp → Rp K C F H (e.set i (some (.tr false t))) (σ.set i (some v)) ∧ ∀ a, a ∉ fp → Apar K H e σ a → Apar K H (e.set i (some (.tr false t))) (σ.set i (some v)) a := fun {t} o => by
    refine ⟨R.putTr h ⟨fp, o, nd, hF⟩, fun a ha ap => ⟨fun j y hy my hs => ?_, fun j fq ⟨b2, t2, v2, F2, he2, hv2, o2⟩ hq => ?_⟩⟩
    · rcases getset hy with ⟨rfl, z⟩ | ⟨hj, hy⟩
      · cases z; cases my
      · rw [List.getElem?_set_ne hj] at hs; exact ap.1 j y hy my hs
    · rcases getset he2 with ⟨rfl, z⟩ | ⟨hj, he2⟩
      · cases z
        rw [List.getElem?_set_self lt] at hv2; cases hv2
        cases o2.uniq o
        exact ha hq
      · rw [List.getElem?_set_ne hj] at hv2
        exact ap.2 j fq ⟨b2, t2, v2, F2, he2, hv2, o2⟩ hq
  cases t with
  | fz d =>
    cases o with
    | fz q =>
      refine ⟨R.put h q, fun a ha ap => ⟨fun j y hy my hs => ?_, ap.2.set fun b t z => by cases z⟩⟩
      rcases getset hy with ⟨rfl, z⟩ | ⟨hj, hy⟩
      · cases z; cases my
      · rw [List.getElem?_set_ne hj] at hs; exact ap.1 j y hy my hs
  | lst ts =>
    cases hz : allFz ts with
    | none =>
      have hs : svOf (.lst ts) = .tr false (.lst ts) := by unfold svOf; simp only [hz]
      rw [hs]; exact tr o
    | some ds =>
      have hs : svOf (.lst ts) = .own ds := by unfold svOf; simp only [hz]
      rw [hs]
      have := allFz_of hz
      subst this
      cases o with
      | lst hp ol =>
        rename_i p vs fp'
        obtain ⟨hd, rfl⟩ := owl_fz' ol
        obtain ⟨h1, h2, h3⟩ := hF p List.mem_cons_self
        refine ⟨R.putOwn h hp hd h1 h2 h3, fun a ha ap => ⟨fun j y hy my hs => ?_, ap.2.set fun b t z => by cases z⟩⟩
        rcases getset hy with ⟨rfl, z⟩ | ⟨hj, hy⟩
        · rw [List.getElem?_set_self lt] at hs
          cases hs
          exact ha List.mem_cons_self
        · rw [List.getElem?_set_ne hj] at hs; exact ap.1 j y hy my hs
  | dT ks ts => exact tr o
  | dK ks ts => exact tr o
  | ins n fs ts => exact tr o
theorem PostS.storeN {w : Wd} {D : Ends} {i : Nat} {t : OT} {v : V} (R : Rp w.K C F H e σ) (q : NewAt w.K C F H e σ t v) (P : PostS w C F D (VI.storeN i t e)) : D.nx (σ.set i (some v)) H := by
  unfold VI.storeN at P
  split at P
  · rename_i hf
    obtain ⟨fp, o, nd, hF⟩ := q.unTr (i := i)
    exact P.nx' ((R.unTr i).putN hf o nd hF).1
  · exact P.elim
def asgN (i : Nat) (a : Nv) : St1 := fun e => (a e).bind fun t e1 => storeN i t e1
theorem rd_asgN {w : Wd} {D : Ends} {i : Nat} {a : Nv} (h : rdS w (asgN i a) D σ H) : rdN w a σ H fun v H' => D.nx (σ.set i (some v)) H' := by
  obtain ⟨C, F, e, R, P⟩ := h
  exact bindS R P fun F1 H1 e1 t v h1 R1 E1 q1 P1 => P1.storeN R1 q1
def storesN : List Nat → List OT → Env → Rs Fl
  | [], [], e => .ok .nx e
  | i :: is, t :: ts, e => (storeN i t e).bind fun _ e1 => storesN is ts e1
  | _, _, _ => .no
def parN (is : List Nat) (as : List Nv) : St1 := fun e => (news as e).bind fun ts e1 => storesN is ts e1
theorem PostS.storesN {w : Wd} {D : Ends} : ∀ {is : List Nat} {ts : List OT} {vs : List V} {e : Env} {σ : L2.St}, Rp w.K C F H e σ → NewsAt w.K C F H e σ ts vs → PostS w C F D (VI.storesN is ts e) → vs.length = is.length ∧ D.nx (setAll is vs σ) H
  | [], [], [], e, σ, R, _, P => ⟨rfl, P.nx' R⟩
  | [], [], _ :: _, _, _, _, h, _ => by obtain ⟨_, o, _⟩ := h; cases o
  | i :: is, t :: ts, [], e, σ, R, h, P => by obtain ⟨_, o, _⟩ := h; cases o
  | i :: is, t :: ts, v :: vs, e, σ, R, h, P => by
    obtain ⟨_, oo, nd, hF⟩ := h
    cases oo with
    | @cons _ _ _ _ f1 f2 o1 o2 =>
    rw [List.nodup_append] at nd
    have P : PostS w C F D ((VI.storeN i t e).bind fun _ e1 => VI.storesN is ts e1) := P
    unfold VI.storeN at P
    split at P
    · rename_i hf
      obtain ⟨R1, k⟩ := (R.unTr i).putN hf o1 nd.1 fun a ha => by
        obtain ⟨z1, z2, z3⟩ := hF a (List.mem_append_left _ ha)
        exact ⟨z1, z2, z3.unTr⟩
      obtain ⟨l, q⟩ := PostS.storesN R1 ⟨f2, o2, nd.2.1, fun a ha => by
        obtain ⟨z1, z2, z3⟩ := hF a (List.mem_append_right _ ha)
        exact ⟨z1, z2, k a (fun z => nd.2.2 a z a ha rfl) z3.unTr⟩⟩ P
      exact ⟨by rw [List.length_cons, List.length_cons, l], q⟩
    · exact P.elim
  | [], _ :: _, _, _, _, _, _, P => P.elim
  | _ :: _, [], _, _, _, _, _, P => P.elim
theorem NewsAt.growT (R : Rp K C F H e σ) {p : Addr} {o : HO} (hp : H p = none) {ts : List OT} {vs : List V} (h : NewsAt K C F H e σ ts vs) : NewsAt K C (upd F p o) (upd H p o) e σ ts vs := by
  obtain ⟨fp, ol, nd, hF⟩ := h
  have ne : ∀ a ∈ fp, a ≠ p := fun a ha z => ol.some a ha (z ▸ hp)
  exact ⟨fp, ol.ext (Ext.new (R.ext.free hp)) fun a ha => upd_ne (ne a ha), nd, fun a ha => ⟨by rw [upd_ne (ne a ha)]; exact (hF a ha).1, (hF a ha).2.1, (hF a ha).2.2.grow R hp⟩⟩
section
variable {X : Cx} {w : Wd} {ex : Expr} {es ts : List Expr} {a : Ev} {n : Nv} {as : List Nv} {i j l : Nat} {x y z : Str} {is : List Nat} {pos pos' px py pz pt pt2 : Pos} {ea eb ec : Expr}
theorem vn_ev (h : PE X ex (rdR w a)) : PE X ex (rdN w (nv a)) := pe_mono h fun _ _ _ q => rd_nv q
theorem vn_lst (h : PA X es (rdNs w (news as))) : PE X (.List es pos) (rdN w (nLst (news as))) := pe_mono (pe_lst h) fun _ _ _ q => rd_nLst q
theorem vns_nil : PA X [] (rdNs w (news [])) := pa_mono pa_nil fun _ _ _ h => rd_news_nil h
theorem vns_cons (ha : PE X ex (rdN w n)) (hr : PA X es (rdNs w (news as))) (hs : starEach (ex :: es) X.env = (false, eval ex X.env) :: starEach es X.env := by rfl) : PA X (ex :: es) (rdNs w (news (n :: as))) :=
  pa_mono (pa_cons ha hr hs) fun _ _ _ h => rd_news_cons h
theorem vs_asgN (hN : X.N.Nodup) (hi : X.N[i]? = some x) (hx : Loc X.env.scope x) (he : PE X ex (rdN w n)) (hs : swapsWith ex (some (.Name x pos')) pos.line X.env = pure false := by rfl) (hf : X.fn x = true ∨ X.env.scope.names.lookup x = some .local := by first | exact .inl rfl | exact .inr rfl | assumption) :
    PS X (.Assign [.Name x pos'] ex pos) (rdS w (asgN i n)) := ps_mono (ps_set hN hi hx he hs hf) fun _ _ _ h => rd_asgN h
end
end VI
set_option Elab.async false
set_option linter.all false
set_option maxRecDepth 100000
set_option maxHeartbeats 4000000
namespace VI
open PySem PySem.Spec PyProof.Rows L2
variable {K : PySem.W.Frag} {C : Cf} {F H : Hp} {e e' : Env} {σ : L2.St}
/-- {k: v}, its keys tuples; ints or texts -/
def nDT1 (a b : Ev) : Nv := fun e => (toD a e).bind fun dk e1 => (toD b e1).bind fun dv e2 => match tkey dk with
  | some ks => .ok (.dT [ks] [.fz dv]) e2
  | none => .no
def nDK1 (a b : Ev) : Nv := fun e => (toD a e).bind fun dk e1 => (toD b e1).bind fun dv e2 => match skey dk with
  | some k => .ok (.dK [k] [.fz dv]) e2
  | none => .no
/-- a dict of our own whose values lie still -/
def oT (kvs : List (List Key × D)) : OT := .dT (kvs.map (·.1)) (kvs.map fun p => .fz p.2)
def oK (kvs : List (Key × D)) : OT := .dK (kvs.map (·.1)) (kvs.map fun p => .fz p.2)
def flatT : OT → Option (List (List Key × D))
  | .dT ks ts => (allFz ts).bind fun ds => if ks.length = ds.length then some (ks.zip ds) else none
  | _ => none
def flatK : OT → Option (List (Key × D))
  | .dK ks ts => (allFz ts).bind fun ds => if ks.length = ds.length then some (ks.zip ds) else none
  | _ => none
theorem fz_map {κ : Type} (kvs : List (κ × D)) : (kvs.map fun p => OT.fz p.2) = (kvs.map (·.2)).map OT.fz := by rw [List.map_map]; rfl
theorem zip_un {κ α : Type} : ∀ kvs : List (κ × α), (kvs.map (·.1)).zip (kvs.map (·.2)) = kvs
  | [] => rfl
  | p :: kvs => by rw [List.map_cons, List.map_cons, List.zip_cons_cons, zip_un]
@[simp] theorem flatT_o (kvs : List (List Key × D)) : flatT (oT kvs) = some kvs := by
  unfold flatT oT
  simp only [fz_map, allFz_map, Option.bind_some, List.length_map, if_true, zip_un]
@[simp] theorem flatK_o (kvs : List (Key × D)) : flatK (oK kvs) = some kvs := by
  unfold flatK oK
  simp only [fz_map, allFz_map, Option.bind_some, List.length_map, if_true, zip_un]
@[simp] theorem flatT_oK (kvs : List (Key × D)) : flatT (oK kvs) = none := rfl
/-- d[k] = v, on the tree -/
def dput (t : OT) (k v : D) : Option OT := match flatT t, tkey k with
  | some kvs, some ks => if kvs.length < sizeLine then some (oT (aput kvs ks v)) else none
  | _, _ => match flatK t, skey k with
    | some kvs, some ks => if kvs.length < sizeLine then some (oK (aput kvs ks v)) else none
    | _, _ => none
def dsetS (i : Nat) (k v : Ev) : St1 := fun e => (toD v e).bind fun dv e1 => match e1[i]? with
  | some (some (.tr _ _)) => (toD k e1).bind fun dk e2 => match e2[i]? with
    | some (some (.tr b t)) => match dput t dk dv with
      | some t' => .ok .nx (e2.set i (some (.tr b t')))
      | none => .no
    | _ => .no
  | _ => .no
theorem ev_tr {i : Nat} {b : Bool} {t : OT} (h : e[i]? = some (some (.tr b t))) : eV i e = .ok (.bor i) e := by unfold eV; rw [h]
/-- name.update(pairs), keys that are tuples -/
def unPairs : List D → Option (List (List Key × D))
  | [] => some []
  | .tuple [k, v] :: ds => (tkey k).bind fun ks => (unPairs ds).map fun r => (ks, v) :: r
  | _ :: _ => none
def aputs (kvs more : List (List Key × D)) : List (List Key × D) := more.foldl (fun acc p => aput acc p.1 p.2) kvs
@[simp] theorem unPairs_eq (kvs : List (List Key × D)) : unPairs (kvs.map fun p => .tuple [keysD p.1, p.2]) = some kvs := by
  induction kvs with
  | nil => rfl
  | cons p kvs ih => rw [List.map_cons]; unfold unPairs; rw [tkey_D, ih]; rfl
def isOT : Option (Option Sv) → Bool
  | some (some (.tr _ t)) => (flatT t).isSome
  | _ => false
def eUpd (i : Nat) (a : Ev) : Ev := fun e => if isOT e[i]? then (toD a e).bind fun d e1 => match e1[i]?, d with
    | some (some (.tr b t)), .list ds => match flatT t, unPairs ds with
      | some kvs, some ms => if kvs.length + ms.length ≤ sizeLine then .ok (.fz .none) (e1.set i (some (.tr b (oT (aputs kvs ms))))) else .no
      | _, _ => .no
    | _, _ => .no
  else .no
section
variable {X : Cx} {w : Wd} {o k v a : Expr} {ea eb : Ev} {i : Nat} {pos pos' apos cpos : Pos}
end
end VI
set_option Elab.async false
set_option linter.all false
set_option maxRecDepth 100000
set_option maxHeartbeats 4000000
namespace VI
open PySem PySem.Spec PyProof.Rows L2
variable {K : PySem.W.Frag} {C : Cf} {F H : Hp} {e e' : Env} {σ : L2.St}
/-- an instance -/
structure In where
  n : Str
  fs : List Str
  ts : List OT
abbrev In.o (y : In) : OT := .ins y.n y.fs y.ts
def putIn (e : Env) (i : Nat) (y : In) : Env := match e[i]? with
  | some (some (.tr b _)) => e.set i (some (.tr b y.o))
  | _ => e
theorem putIn_at {i : Nat} {b : Bool} {t : OT} (y : In) (h : e[i]? = some (some (.tr b t))) : putIn e i y = e.set i (some (.tr b y.o)) := by
  unfold putIn; rw [h]
/-- behind a call that may change the instance made of fp -/
structure AfterT (F F' H H' : Hp) (v : V) (fp fp' : List Addr) : Prop where
  ext : Ext F F'
  ext' : Ext F' H'
  tup : TupIn F' H'
  frm : ∀ a, a ∉ fp → H a ≠ none → F a = none → H' a = H a ∧ F' a = none
  nd : fp'.Nodup
  new : ∀ a ∈ fp', F' a = none ∧ (a ∈ fp ∨ H a = none)
  root : ∃ p, v = .ref p ∧ p ∈ fp'
def RetT (K : PySem.W.Frag) (F' H H' : Hp) (fp fp' : List Addr) : Rv → V → Prop
  | .fz d, v => Dp K F' v d
  | .fresh ds, v => ∃ p vs, v = .ref p ∧ H' p = some (.lst vs) ∧ DpAll K F' vs ds ∧ F' p = none ∧ (H p = none ∨ p ∈ fp) ∧ p ∉ fp'
  | .bor _, _ => False
theorem ins_root {y : In} {p : Addr} {fp : List Addr} (o : Ow K F H y.o (.ref p) fp) : p ∈ fp := by
  cases o with
  | ins h1 h2 h3 h4 h5 => exact List.mem_cons_self
/-- the caller's names behind such a call -/
theorem Rp.afterT (R : Rp K C F H e σ) {i : Nat} {b : Bool} {t : OT} {y' : In} {p : Addr} {fp fp' : List Addr} {F' H' : Hp} (he : e[i]? = some (some (.tr b t))) (hv : σ[i]? = some (some (.ref p))) (o : Ow K F H t (.ref p) fp) (A : AfterT F F' H H' (.ref p) fp fp') (o' : Ow K F' H' y'.o (.ref p) fp') :
    Rp K C F' H' (putIn e i y') σ ∧ (∀ {j : Nat} {fq : List Addr}, i ≠ j → TrAt K H' (putIn e i y') σ j fq → TrAt K H e σ j fq) := by
  have hk : ∀ a, H a ≠ none → a ∉ fp → H' a = H a ∧ (F a = none → F' a = none) := fun a h0 h1 => by
    cases hF : F a with
    | none => exact ⟨(A.frm a h1 h0 hF).1, fun _ => (A.frm a h1 h0 hF).2⟩
    | some u => exact ⟨(A.ext' _ _ (A.ext _ _ hF)).trans (R.ext _ _ hF).symm, fun z => by cases z⟩
  obtain ⟨u, hu, fp1, o1, nd1, h1, hb1⟩ := R.sl _ _ he
  rw [hv] at hu; cases hu
  cases o.uniq o1
  rw [putIn_at y' he]
  refine ⟨R.trPut he hv o A.ext A.ext' hk A.tup o' A.nd A.new fun z => ?_, fun {j fq} hj h => ?_⟩
  · have h2 := (hb1 z).1
    cases h2
    exact ins_root o'
  · obtain ⟨b2, t2, v2, F2, he2, hv2, o2⟩ := h
    rw [List.getElem?_set_ne hj] at he2
    obtain ⟨u, hu, fq', oq, _, hF, _⟩ := R.sl _ _ he2
    rw [hv2] at hu; cases hu
    have Tq : TrAt K H e σ j fq' := ⟨b2, t2, v2, F, he2, hv2, oq⟩
    have T : TrAt K H e σ i fp := ⟨b, t, _, F, he, hv, o⟩
    have oq2 : Ow K F H' t2 v2 fq' := oq.ext (.refl F) fun a ha => (hk a (oq.some a ha) (fun z => (R.tn i fp T).2 j fq' hj Tq a z ha)).1
    cases oq2.uniq o2
    exact Tq
theorem RetT.rv (R : Rp K C F H e σ) {i : Nat} {b : Bool} {t : OT} {y' : In} {p : Addr} {fp fp' : List Addr} {F' H' : Hp} (he : e[i]? = some (some (.tr b t))) (hv : σ[i]? = some (some (.ref p))) (o : Ow K F H t (.ref p) fp) (A : AfterT F F' H H' (.ref p) fp fp') (o' : Ow K F' H' y'.o (.ref p) fp')
    {r : Rv} {v : V} (q : RetT K F' H H' fp fp' r v) : RvR K C F' H' (putIn e i y') σ r v := by
  have T : TrAt K H e σ i fp := ⟨b, t, _, F, he, hv, o⟩
  obtain ⟨R', oth⟩ := R.afterT he hv o A o'
  cases r with
  | fz d => exact q
  | bor j => exact q.elim
  | fresh ds =>
    obtain ⟨x, vs, rfl, k1, k2, k3, k4, k5⟩ := q
    have hM : ¬ C.M x := by
      rcases k4 with k4 | k4
      · exact R.notM k4
      · exact ((R.trFp T).1 x k4).2.1
    refine ⟨x, vs, rfl, k1, k2, k3, hM, fun j y hy my hs => ?_, fun j fq h hq => ?_⟩
    · rw [putIn_at y' he] at hy
      rcases getset hy with ⟨rfl, z⟩ | ⟨hj, hy⟩
      · cases z; cases my
      · rcases k4 with k4 | k4
        · exact R.apart k4 j y hy my hs
        · exact (R.tn i fp T).1 x k4 j y hy my hs
    · by_cases hj : i = j
      · subst hj
        obtain ⟨b2, t2, v2, F2, he2, hv2, o2⟩ := h
        rw [putIn_at y' he, List.getElem?_set_self (List.getElem?_eq_some_iff.mp he).1] at he2
        cases he2
        rw [hv] at hv2; cases hv2
        cases o2.uniq o'
        exact k5 hq
      · have h' := oth hj h
        rcases k4 with k4 | k4
        · exact ((R.trFp h').1 x hq).2.2 k4
        · exact (R.tn i fp T).2 j fq hj h' x k4 hq
section
variable {X : Cx} {pins : List (Addr × Obj)} {s : Shared} {W : WX} {XR : Hp → Hp → Xc → Value → Option Addr → Prop} {k n : Nat} {f CY : Addr} {fd : FuncData} {ps : List Str} {sp : Sp} {E : L2.St → XK} {m x : Str} {p pos apos : Pos} {a ex o : Expr} {es : List Expr} {ta : TE} {t : TA} {i : Nat} {as : List Ev}
/-- a method as it stands -/
structure Metd (P : Program) (W : World) (K : PySem.W.Frag) (mg : Str → Option Value) (base : Heap) (k : Nat) (cn m : Str) (n : Nat) (dvs : List V) (sp : Sp) : Prop where
  ex : ∃ (CY f : Addr) (fd : FuncData) (ps : List Str) (ds : List Value), (∀ c, clsNm K c = some cn → c = CY) ∧ Cls K CY ∧ Meth K CY m f ∧ Binds K fd ps ds ∧ Vals dvs ds ∧ ps.length = n ∧ FnG P W K mg base k f fd ps sp
end
end VI
set_option Elab.async false
set_option linter.all false
set_option maxRecDepth 100000
set_option maxHeartbeats 4000000
namespace VI
open PySem PySem.Spec PyProof.Rows L2
variable {K : PySem.W.Frag} {C : Cf} {F H : Hp} {e e' : Env} {σ : L2.St}
structure FunV (K : PySem.W.Frag) (x qual : Str) (st : Stmt) (f : Addr) (fd : FuncData) : Prop where
  ex : ∃ (oc : Value) (od : Option Addr) (dV kV doc pm : Value) (an : Option Addr) (cdv ct : Value) (osl : Array (Option Value)),
    fd = PySem.W.fnOf x qual (defArgs st) (defBody st) (defScope st) dV kV doc pm an cdv ct ∧ K.lookup f = some ⟨oc, od, .func fd, osl⟩ ∧ PySem.W.codeIn K cdv qual = true
theorem Fun.v {x qual : Str} {st : Stmt} {f : Addr} {fd : FuncData} (F : Fun K x qual st f fd) : FunV K x qual st f fd := by
  obtain ⟨oc, od, kV, doc, pm, an, cdv, ct, osl, h1, h2, h3⟩ := F.ex
  exact ⟨oc, od, .none, kV, doc, pm, an, cdv, ct, osl, h1, h2, h3⟩
theorem FunV.okG {P : Program} {W : World} {mg : Str → Option Value} {base : Heap} {x qual : Str} {st : Stmt} {f : Addr} {fd : FuncData} {N ps : List Str} {k : Nat} {sp : Sp} (FF : FunV K x qual st f fd) (S : FnScope N ps (defScope st)) (len : ∀ vs H Q E, sp vs H Q E → vs.length = ps.length)
    (hbody : ∀ (cdv : Value) (A : Around) (out : List PySem.Env) (s : Shared) (H : Hp) (vs : List V) (Q : VK) (E : XK), Room k (A.deeper (envOfC qual (defScope st) s.heap.objs.size f cdv)) → A.guards = some [] → sp vs H Q E →
      ∃ t, PSs (cxOf (L2.CX P W) P W K mg base N qual (defScope st) f cdv A out s H E) (defBody st) t ∧ t { nx := fun _ H' => Q .non H', rt := Q } (L2.start N vs) H) : FnG P W K mg base (k + 1) f fd ps sp := by
  obtain ⟨oc, od, dV, kV, doc, pm, an, cdv, ct, osl, rfl, lk, hcd⟩ := FF.ex
  exact fn_ofG lk hcd S len fun A out s H vs Q E => hbody cdv A out s H vs Q E
section
variable {P : Program} {W : World} {mg : Str → Option Value} {base : Heap} {XR : Hp → Hp → Xc → Value → Option Addr → Prop} {x qual : Str} {st : Stmt} {f : Addr} {fd : FuncData} {N ps : List Str} {k : Nat} {body : St1}
end
inductive RetN where
  | ok (y : In)
  | ex (x : Xc)
section
variable {X : Cx} {w : Wd} {st : Stmt} {rest : List Stmt} {a : St1} {as : List St1} {tl : TS}
end
section
variable {P : Program} {W : World} {mg : Str → Option Value} {base : Heap} {XR : Hp → Hp → Xc → Value → Option Addr → Prop} {x qual : Str} {st : Stmt} {f : Addr} {fd : FuncData} {N ps : List Str} {k j : Nat} {body : St1} {a : Nv}
end
section
variable {X : Cx} {pins : List (Addr × Obj)} {s : Shared} {W : WX} {XR : Hp → Hp → Xc → Value → Option Addr → Prop} {k n : Nat} {f CY : Addr} {fd : FuncData} {ps : List Str} {sp : Sp} {E : L2.St → XK} {m x : Str} {p pos apos : Pos} {a ex o : Expr} {es : List Expr} {ta : TE} {t : TA} {i : Nat} {as : List Ev}
/-- a class as it stands, by its __init__ -/
structure Clsd (P : Program) (W : World) (K : PySem.W.Frag) (mg : Str → Option Value) (base : Heap) (k : Nat) (cn : Str) (n : Nat) (dvs : List V) (sp : Sp) : Prop where
  ex : ∃ (CY f : Addr) (fd : FuncData) (ps : List Str) (ds : List Value), clsNm K CY = some cn ∧ mg cn = some (.ref CY) ∧ Mk K CY f ∧ Binds K fd ps ds ∧ Vals dvs ds ∧ ps.length = n ∧ FnG P W K mg base k f fd ps sp
end
end VI
set_option Elab.async false
set_option linter.all false
set_option maxRecDepth 100000
set_option maxHeartbeats 4000000
namespace VI
open PySem PySem.Spec PyProof.Rows L2
section
variable {α β : Type} {e : Env} {i j n : Nat} {d x y : D} {ds xs : List D} {r : Rv} {rs : List Rv} {a b c : Ev} {t : OT} {ts : List OT} {p : Nv} {ps : List Nv} {m : Sem1 Bool} {f : F2}
theorem ds_T (kvs : List (List Key × D)) : OT.ds (kvs.map fun p => OT.fz p.2) = kvs.map (·.2) := by rw [fz_map, ds_fz]
theorem ds_K (kvs : List (Key × D)) : OT.ds (kvs.map fun p => OT.fz p.2) = kvs.map (·.2) := by rw [fz_map, ds_fz]
theorem flatL_fz (ds : List D) : OT.flatL (ds.map OT.fz) = true := by
  induction ds with
  | nil => unfold List.map; unfold OT.flatL; rfl
  | cons d ds ih => rw [List.map_cons]; unfold OT.flatL; rw [ih]; unfold OT.flat; rfl
@[simp] theorem oT_d (kvs : List (List Key × D)) : (oT kvs).d = dictT kvs := by
  unfold oT OT.d dictT
  rw [ds_T]
  induction kvs with
  | nil => rfl
  | cons p kvs ih =>
    injection ih with ih
    simp only [List.map_cons, List.zip_cons_cons, PyData.dict.injEq, List.cons.injEq, true_and]
    exact ih
@[simp] theorem oK_d (kvs : List (Key × D)) : (oK kvs).d = dictK kvs := by
  unfold oK OT.d dictK
  rw [ds_K]
  induction kvs with
  | nil => rfl
  | cons p kvs ih =>
    injection ih with ih
    simp only [List.cons.injEq, true_and] at ih
    simp only [List.map_cons, List.zip_cons_cons, PyData.dict.injEq, List.cons.injEq, true_and]
    exact ih
@[simp] theorem oT_flat (kvs : List (List Key × D)) : (oT kvs).flat = true := by unfold oT OT.flat; rw [fz_map]; exact flatL_fz _
@[simp] theorem oK_flat (kvs : List (Key × D)) : (oK kvs).flat = true := by unfold oK OT.flat; rw [fz_map]; exact flatL_fz _
def okVL (o : Option (Option Sv)) (i : Nat) (e : Env) (Q : Po Rv) : Prop := match o with
  | some (some (.tr false t)) => t.flat = true ∧ Q (.fz t.d) (e.set i (some (.fz t.d)))
  | some (some (.tr true _)) => False
  | some (some (.fz d)) => Q (.fz d) e
  | some (some _) => Q (.bor i) e
  | _ => False
@[simp] theorem okVL_fz {Q : Po Rv} : okVL (some (some (.fz d))) i e Q = Q (.fz d) e := rfl
@[simp] theorem okVL_own {Q : Po Rv} : okVL (some (some (.own ds))) i e Q = Q (.bor i) e := rfl
@[simp] theorem okVL_tr {Q : Po Rv} : okVL (some (some (.tr false t))) i e Q = (t.flat = true ∧ Q (.fz t.d) (e.set i (some (.fz t.d)))) := rfl
@[simp] theorem ok_VL {Q : Po Rv} : Ok (eVL i e) Q = okVL e[i]? i e Q := by
  unfold eVL
  cases h : e[i]? with
  | none => rfl
  | some o => cases o with
    | none => rfl
    | some s => cases s with
      | tr z t =>
        cases z with
        | true => rfl
        | false =>
          show Ok (if t.flat then _ else _) Q = (t.flat = true ∧ Q (.fz t.d) (e.set i (some (.fz t.d))))
          by_cases hf : t.flat = true
          · simp [hf]
          · simp [hf]
      | _ => rfl
@[simp] theorem lendE_nil : lendE [] = [] := rfl
@[simp] theorem lendE_cons {o : Option Sv} : lendE (o :: e) = lend1 o :: lendE e := rfl
@[simp] theorem lend1_none : lend1 none = none := rfl
@[simp] theorem lend1_fz : lend1 (some (.fz d)) = some (.fz d) := rfl
@[simp] theorem lend1_own : lend1 (some (.own ds)) = some (.fz (.list ds)) := rfl
@[simp] theorem lend1_lent : lend1 (some (.lent ds)) = some (.fz (.list ds)) := rfl
@[simp] theorem lend1_io : lend1 (some (.io ds)) = some (.fz (.list ds)) := rfl
@[simp] theorem lend1_oT {z : Bool} {kvs : List (List Key × D)} : lend1 (some (.tr z (oT kvs))) = some (.fz (dictT kvs)) := by
  unfold lend1 Sv.d
  simp
@[simp] theorem lend1_oK {z : Bool} {kvs : List (Key × D)} : lend1 (some (.tr z (oK kvs))) = some (.fz (dictK kvs)) := by
  unfold lend1 Sv.d
  simp
@[simp] theorem lendE_rep {k : Nat} : lendE (List.replicate k none) = List.replicate k none := by unfold lendE; simp
@[simp] theorem scal_none : scal .none = true := rfl
@[simp] theorem scal_bool {z : Bool} : scal (.bool z) = true := rfl
@[simp] theorem scal_int {z : Int} : scal (.int z) = true := rfl
@[simp] theorem scal_str {z : Str} : scal (.str z) = true := rfl
def kLent (e : Env) (Q : Po Rv) : Po Rv := fun r _ => match r with
  | .fz d => scal d = true ∧ Q (.fz d) e
  | _ => False
@[simp] theorem kLent_fz {e' : Env} {Q : Po Rv} : kLent e Q (.fz d) e' = (scal d = true ∧ Q (.fz d) e) := rfl
@[simp] theorem ok_lentE {Q : Po Rv} : Ok (lentE a e) Q = Ok (a (lendE e)) (kLent e Q) := by
  unfold lentE
  cases a (lendE e) with
  | no => rfl
  | ex x e1 => rfl
  | ok r e1 =>
    cases r with
    | fz d =>
      show Ok (if scal d then _ else _) Q = (scal d = true ∧ Q (.fz d) e)
      by_cases h : scal d = true
      · simp [h]
      · simp [h]
    | fresh ds => rfl
    | bor j => rfl
def kLentT (e : Env) (Q : Po Bool) : Po Bool := fun z _ => Q z e
@[simp] theorem kLentT_eq {e' : Env} {z : Bool} {Q : Po Bool} : kLentT e Q z e' = Q z e := rfl
@[simp] theorem ok_lentT {Q : Po Bool} : Ok (lentT m e) Q = Ok (m (lendE e)) (kLentT e Q) := by
  unfold lentT
  cases m (lendE e) <;> rfl
def kNv (Q : Po OT) : Po Rv := fun r e => match r with
  | .fz d => Q (.fz d) e
  | .fresh ds => Q (.lst (ds.map OT.fz)) e
  | .bor _ => False
@[simp] theorem kNv_fz {Q : Po OT} : kNv Q (.fz d) e = Q (.fz d) e := rfl
@[simp] theorem kNv_fresh {Q : Po OT} : kNv Q (.fresh ds) e = Q (.lst (ds.map OT.fz)) e := rfl
@[simp] theorem ok_nv {Q : Po OT} : Ok (nv a e) Q = Ok (a e) (kMv (kNv Q)) := by
  unfold nv
  rw [ok_bind, ok_bind]
  congr 1
  funext r e1
  show Ok (mvR r e1) _ = Ok (mvR r e1) _
  congr 1
  funext r e1
  cases r <;> rfl
@[simp] theorem ok_nDT {Q : Po OT} : Ok (nDT e) Q = Q (oT []) e := rfl
@[simp] theorem ok_nDK {Q : Po OT} : Ok (nDK e) Q = Q (oK []) e := rfl
def kND2 (k : D) (Q : Po OT) : Po D := fun v e => okO (tkey k) e fun ks e => Q (oT [(ks, v)]) e
def kND1 (b : Ev) (Q : Po OT) : Po D := fun k e => Ok (b e) (kFrz (kND2 k Q))
@[simp] theorem kND2_eq {Q : Po OT} : kND2 x Q d e = okO (tkey x) e fun ks e => Q (oT [(ks, d)]) e := rfl
@[simp] theorem kND1_eq {Q : Po OT} : kND1 b Q d e = Ok (b e) (kFrz (kND2 d Q)) := rfl
@[simp] theorem ok_nDT1 {Q : Po OT} : Ok (nDT1 a b e) Q = Ok (a e) (kFrz (kND1 b Q)) := by
  unfold nDT1
  rw [ok_bind, ok_toD]
  congr 2
  funext k e1
  rw [ok_bind, ok_toD]
  show Ok (b e1) _ = Ok (b e1) _
  congr 2
  funext v e2
  show Ok (match tkey k with | some ks => Rs.ok (OT.dT [ks] [.fz v]) e2 | none => .no) Q = okO (tkey k) e2 _
  cases tkey k <;> rfl
def kNE2 (k : D) (Q : Po OT) : Po D := fun v e => okO (skey k) e fun ks e => Q (oK [(ks, v)]) e
def kNE1 (b : Ev) (Q : Po OT) : Po D := fun k e => Ok (b e) (kFrz (kNE2 k Q))
@[simp] theorem kNE2_eq {Q : Po OT} : kNE2 x Q d e = okO (skey x) e fun ks e => Q (oK [(ks, d)]) e := rfl
@[simp] theorem kNE1_eq {Q : Po OT} : kNE1 b Q d e = Ok (b e) (kFrz (kNE2 d Q)) := rfl
@[simp] theorem ok_nDK1 {Q : Po OT} : Ok (nDK1 a b e) Q = Ok (a e) (kFrz (kNE1 b Q)) := by
  unfold nDK1
  rw [ok_bind, ok_toD]
  congr 2
  funext k e1
  rw [ok_bind, ok_toD]
  show Ok (b e1) _ = Ok (b e1) _
  congr 2
  funext v e2
  show Ok (match skey k with | some ks => Rs.ok (OT.dK [ks] [.fz v]) e2 | none => .no) Q = okO (skey k) e2 _
  cases skey k <;> rfl
def kNs2 (t : OT) (Q : Po (List OT)) : Po (List OT) := fun ts e => Q (t :: ts) e
@[simp] theorem kNs2_eq {Q : Po (List OT)} : kNs2 t Q ts e = Q (t :: ts) e := rfl
def kNs1 (ps : List Nv) (Q : Po (List OT)) : Po OT := fun t e => Ok (news ps e) (kNs2 t Q)
@[simp] theorem kNs1_eq {Q : Po (List OT)} : kNs1 ps Q t e = Ok (news ps e) (kNs2 t Q) := rfl
@[simp] theorem ok_news0 {Q : Po (List OT)} : Ok (news [] e) Q = Q [] e := rfl
@[simp] theorem ok_news {Q : Po (List OT)} : Ok (news (p :: ps) e) Q = Ok (p e) (kNs1 ps Q) := by
  unfold news
  rw [ok_bind]
  congr 1
  funext t e1
  rw [ok_bind]; rfl
def kNL (Q : Po OT) : Po (List OT) := fun ts e => ts.length ≤ sizeLine ∧ Q (.lst ts) e
@[simp] theorem kNL_eq {Q : Po OT} : kNL Q ts e = (ts.length ≤ sizeLine ∧ Q (.lst ts) e) := rfl
@[simp] theorem ok_nLst {q : Sem1 (List OT)} {Q : Po OT} : Ok (nLst q e) Q = Ok (q e) (kNL Q) := by
  unfold nLst
  rw [ok_bind]
  congr 1
  funext ts e1
  show Ok (if ts.length ≤ sizeLine then _ else _) Q = (ts.length ≤ sizeLine ∧ Q (.lst ts) e1)
  by_cases h : ts.length ≤ sizeLine
  · rw [if_pos h]; simp [h, -szE]
  · rw [if_neg h]; simp [h, -szE]
@[simp] theorem allFz_nil : allFz [] = some [] := rfl
@[simp] theorem allFz_cons : allFz (.fz d :: ts) = (allFz ts).map fun ds => d :: ds := rfl
@[simp] theorem allFz_lst {us : List OT} : allFz (.lst us :: ts) = none := rfl
def svL (o : Option (List D)) (ts : List OT) : Sv := match o with
  | some ds => .own ds
  | none => .tr false (.lst ts)
@[simp] theorem svL_some : svL (some ds) ts = .own ds := rfl
@[simp] theorem svL_none : svL none ts = .tr false (.lst ts) := rfl
@[simp] theorem svOf_fz : svOf (.fz d) = .fz d := rfl
@[simp] theorem svOf_lst : svOf (.lst ts) = svL (allFz ts) ts := by unfold svOf svL; rfl
@[simp] theorem svOf_oT {kvs : List (List Key × D)} : svOf (oT kvs) = .tr false (oT kvs) := rfl
@[simp] theorem svOf_oK {kvs : List (Key × D)} : svOf (oK kvs) = .tr false (oK kvs) := rfl
def okStN (o : Option (Option Sv)) (i : Nat) (t : OT) (e : Env) (Q : Po Fl) : Prop := match o with
  | some none => Q .nx (e.set i (some (svOf t)))
  | some (some (.fz _)) => Q .nx (e.set i (some (svOf t)))
  | some (some (.own _)) => Q .nx (e.set i (some (svOf t)))
  | some (some (.tr false _)) => Q .nx (e.set i (some (svOf t)))
  | _ => False
@[simp] theorem okStN_none {Q : Po Fl} : okStN (some none) i t e Q = Q .nx (e.set i (some (svOf t))) := rfl
@[simp] theorem okStN_fz {Q : Po Fl} : okStN (some (some (.fz d))) i t e Q = Q .nx (e.set i (some (svOf t))) := rfl
@[simp] theorem okStN_own {Q : Po Fl} : okStN (some (some (.own ds))) i t e Q = Q .nx (e.set i (some (svOf t))) := rfl
@[simp] theorem okStN_tr {u : OT} {Q : Po Fl} : okStN (some (some (.tr false u))) i t e Q = Q .nx (e.set i (some (svOf t))) := rfl
theorem ok_storeN {Q : Po Fl} : Ok (storeN i t e) Q = okStN e[i]? i t e Q := by
  unfold storeN unTr
  cases h : e[i]? with
  | none => simp only [freeAt, h]; rfl
  | some o =>
    cases o with
    | none => simp only [freeAt, h]; rfl
    | some s =>
      cases s with
      | tr z u =>
        cases z with
        | true => simp only [freeAt, h]; rfl
        | false =>
          have lt : i < e.length := (List.getElem?_eq_some_iff.mp h).1
          have h2 : (e.set i none)[i]? = some none := by rw [List.getElem?_set_self lt]
          simp only [freeAt, h2, if_true]
          show Q .nx ((e.set i none).set i (some (svOf t))) = Q .nx (e.set i (some (svOf t)))
          rw [List.set_set]
      | _ => simp only [freeAt, h]; rfl
def kStN (i : Nat) (Q : Po Fl) : Po OT := fun t e => okStN e[i]? i t e Q
@[simp] theorem kStN_eq {Q : Po Fl} : kStN i Q t e = okStN e[i]? i t e Q := rfl
@[simp] theorem ok_asgN {Q : Po Fl} : Ok (asgN i p e) Q = Ok (p e) (kStN i Q) := by
  unfold asgN
  rw [ok_bind]
  congr 1
  funext t e1
  exact ok_storeN
def kParN (is : List Nat) (Q : Po Fl) : Po (List OT) := fun ts e => Ok (storesN is ts e) Q
@[simp] theorem kParN0 {Q : Po Fl} : kParN [] Q [] e = Q .nx e := rfl
def kParN2 (is : List Nat) (ts : List OT) (Q : Po Fl) : Po Fl := fun _ e => kParN is Q ts e
@[simp] theorem kParN2_eq {is : List Nat} {w : Fl} {Q : Po Fl} : kParN2 is ts Q w e = kParN is Q ts e := rfl
@[simp] theorem kParN1 {is : List Nat} {Q : Po Fl} : kParN (i :: is) Q (t :: ts) e = kStN i (kParN2 is ts Q) t e := by
  show Ok ((storeN i t e).bind _) Q = _
  rw [ok_bind]
  show Ok (storeN i t e) _ = _
  rw [ok_storeN]; rfl
@[simp] theorem ok_parN {is : List Nat} {Q : Po Fl} : Ok (parN is ps e) Q = Ok (news ps e) (kParN is Q) := by unfold parN; rw [ok_bind]; rfl
@[simp] theorem dput_T {kvs : List (List Key × D)} : dput (oT kvs) x y = (tkey x).bind fun ks => if kvs.length < sizeLine then some (oT (aput kvs ks y)) else none := by
  unfold dput
  rw [flatT_o]
  cases tkey x with
  | none => rfl
  | some ks => rfl
@[simp] theorem dput_K {kvs : List (Key × D)} : dput (oK kvs) x y = (skey x).bind fun ks => if kvs.length < sizeLine then some (oK (aput kvs ks y)) else none := by
  unfold dput
  rw [flatT_oK, flatK_o]
  cases skey x with
  | none => rfl
  | some ks => rfl
def isTr (o : Option (Option Sv)) : Bool := match o with
  | some (some (.tr _ _)) => true
  | _ => false
@[simp] theorem isTr_tr {z : Bool} : isTr (some (some (.tr z t))) = true := rfl
def okDp (o : Option (Option Sv)) (i : Nat) (k v : D) (e : Env) (Q : Po Fl) : Prop := match o with
  | some (some (.tr z t)) => okO (dput t k v) e fun t' e => Q .nx (e.set i (some (.tr z t')))
  | _ => False
@[simp] theorem okDp_tr {z : Bool} {Q : Po Fl} : okDp (some (some (.tr z t))) i x y e Q = okO (dput t x y) e fun t' e => Q .nx (e.set i (some (.tr z t'))) := rfl
def kDs2' (i : Nat) (v : D) (Q : Po Fl) : Po D := fun k e => okDp e[i]? i k v e Q
def kDs1' (i : Nat) (k : Ev) (Q : Po Fl) : Po D := fun v e => isTr e[i]? = true ∧ Ok (k e) (kFrz (kDs2' i v Q))
@[simp] theorem kDs2'_eq {Q : Po Fl} : kDs2' i y Q x e = okDp e[i]? i x y e Q := rfl
@[simp] theorem kDs1'_eq {Q : Po Fl} : kDs1' i a Q d e = (isTr e[i]? = true ∧ Ok (a e) (kFrz (kDs2' i d Q))) := rfl
@[simp] theorem ok_dset {Q : Po Fl} : Ok (dsetS i a b e) Q = Ok (b e) (kFrz (kDs1' i a Q)) := by
  unfold dsetS
  rw [ok_bind, ok_toD]
  congr 2
  funext v e1
  show Ok (match e1[i]? with | some (some (.tr _ _)) => _ | _ => _) Q = (isTr e1[i]? = true ∧ Ok (a e1) (kFrz (kDs2' i v Q)))
  cases h : e1[i]? with
  | none => simp [isTr]
  | some o => cases o with
    | none => simp [isTr]
    | some s => cases s with
      | tr z t =>
        simp only [isTr_tr, true_and]
        rw [ok_bind, ok_toD]
        congr 2
        funext k e2
        show Ok (match e2[i]? with | some (some (.tr b t)) => _ | _ => _) Q = okDp e2[i]? i k v e2 Q
        cases e2[i]? with
        | none => rfl
        | some o => cases o with
          | none => rfl
          | some s => cases s with
            | tr z t =>
              show Ok (match dput t k v with | some t' => Rs.ok Fl.nx (List.set e2 i (some (Sv.tr z t'))) | none => Rs.no) Q = okO (dput t k v) e2 fun t' e => Q .nx (e.set i (some (.tr z t')))
              cases dput t k v <;> rfl
            | _ => rfl
      | _ => simp [isTr]
def okUp2 (o : Option (Option Sv)) (i : Nat) (ms : List (List Key × D)) (e : Env) (Q : Po Rv) : Prop := match o with
  | some (some (.tr z t)) => okO (flatT t) e fun kvs e => kvs.length + ms.length ≤ sizeLine ∧ Q (.fz .none) (e.set i (some (.tr z (oT (aputs kvs ms)))))
  | _ => False
@[simp] theorem okUp2_T {z : Bool} {kvs ms : List (List Key × D)} {Q : Po Rv} : okUp2 (some (some (.tr z (oT kvs)))) i ms e Q = (kvs.length + ms.length ≤ sizeLine ∧ Q (.fz .none) (e.set i (some (.tr z (oT (aputs kvs ms)))))) := by
  unfold okUp2
  simp only [flatT_o]
  rfl
def unPairsL : D → Option (List (List Key × D))
  | .list ds => unPairs ds
  | _ => none
@[simp] theorem unPairsL_list : unPairsL (.list ds) = unPairs ds := rfl
def kUp (i : Nat) (Q : Po Rv) : Po D := fun d e => okO (unPairsL d) e fun ms e => okUp2 e[i]? i ms e Q
@[simp] theorem kUp_eq {Q : Po Rv} : kUp i Q d e = okO (unPairsL d) e fun ms e => okUp2 e[i]? i ms e Q := rfl
@[simp] theorem isOT_T {z : Bool} {kvs : List (List Key × D)} : isOT (some (some (.tr z (oT kvs)))) = true := by unfold isOT; simp
@[simp] theorem ok_upd {Q : Po Rv} : Ok (eUpd i a e) Q = (isOT e[i]? = true ∧ Ok (a e) (kFrz (kUp i Q))) := by
  unfold eUpd
  by_cases h : isOT e[i]? = true
  · rw [if_pos h, ok_bind, ok_toD]
    simp only [h, true_and]
    congr 2
    funext d e1
    have nl : unPairsL d = none → Ok (match e1[i]?, d with
      | some (some (.tr b t)), .list ds => match flatT t, unPairs ds with
        | some kvs, some ms => if kvs.length + ms.length ≤ sizeLine then .ok (.fz .none) (e1.set i (some (.tr b (oT (aputs kvs ms))))) else .no
        | _, _ => .no
      | _, _ => (.no : Rs Rv)) Q = False := by
      intro hn
      split
      · rename_i b t ds ht
        have hn : unPairs ds = none := hn
        rw [hn]
        cases flatT t <;> rfl
      · rfl
    show Ok (match e1[i]?, d with
      | some (some (.tr b t)), .list ds => match flatT t, unPairs ds with
        | some kvs, some ms => if kvs.length + ms.length ≤ sizeLine then .ok (.fz .none) (e1.set i (some (.tr b (oT (aputs kvs ms))))) else .no
        | _, _ => .no
      | _, _ => (.no : Rs Rv)) Q = okO (unPairsL d) e1 fun ms e => okUp2 e[i]? i ms e Q
    cases hn : unPairsL d with
    | none => rw [nl hn]; rfl
    | some ms =>
      cases d with
      | list ds =>
        have hn : unPairs ds = some ms := hn
        clear nl
        show _ = okUp2 e1[i]? i ms e1 Q
        cases e1[i]? with
        | none => rfl
        | some o => cases o with
          | none => rfl
          | some s => cases s with
            | tr z t =>
              show Ok (match flatT t, unPairs ds with
                | some kvs, some ms => if kvs.length + ms.length ≤ sizeLine then .ok (.fz .none) (e1.set i (some (.tr z (oT (aputs kvs ms))))) else .no
                | _, _ => (.no : Rs Rv)) Q = okO (flatT t) e1 fun kvs e => kvs.length + ms.length ≤ sizeLine ∧ Q (.fz .none) (e.set i (some (.tr z (oT (aputs kvs ms)))))
              rw [hn]
              cases flatT t with
              | none => rfl
              | some kvs =>
                show Ok (if kvs.length + ms.length ≤ sizeLine then _ else _) Q = (kvs.length + ms.length ≤ sizeLine ∧ _)
                by_cases hl : kvs.length + ms.length ≤ sizeLine
                · rw [if_pos hl]; simp [hl, -szE]
                · rw [if_neg hl]; simp [hl, -szE]
            | _ => rfl
      | _ => cases hn
  · rw [if_neg h]; simp [h]
@[simp] theorem inK_eq : inK x d = (dlook d x).map fun r => .fz (.bool r.isSome) := rfl
@[simp] theorem notInK_eq : notInK x d = (dlook d x).map fun r => .fz (.bool (!r.isSome)) := rfl
@[simp] theorem ixK_eq : ixK d x = (dlook d x).bind fun r => r.map .fz := rfl
@[simp] theorem dlook_dT {kvs : List (List Key × D)} : dlook (dictT kvs) x = (tkey x).map fun ks => aget kvs ks := by
  unfold dlook
  rw [unT_T]
  cases tkey x with
  | none => rw [unK_T]; rfl
  | some ks => rfl
@[simp] theorem dlook_dK {kvs : List (Key × D)} : dlook (dictK kvs) x = (skey x).map fun ks => aget kvs ks := by
  unfold dlook
  rw [unT_K, unK_K]
  cases skey x <;> rfl
def kG2 (d : D) (Q : Po Rv) : Po D := fun k e => okO (dlook d k) e fun r e => Q (.fz (r.getD .none)) e
def kG1 (b : Ev) (Q : Po Rv) : Po D := fun d e => isDct d = true ∧ Ok (b e) (kFrz (kG2 d Q))
@[simp] theorem kG2_eq {Q : Po Rv} : kG2 d Q x e = okO (dlook d x) e fun r e => Q (.fz (r.getD .none)) e := rfl
@[simp] theorem kG1_eq {Q : Po Rv} : kG1 b Q d e = (isDct d = true ∧ Ok (b e) (kFrz (kG2 d Q))) := rfl
theorem ok_ifd {z : Bool} {q : Rs α} {Q : Po α} : Ok (if z = true then q else .no) Q = (z = true ∧ Ok q Q) := by
  cases z
  · simp
  · simp
@[simp] theorem ok_getK1 {Q : Po Rv} : Ok (getK1 a b e) Q = Ok (a e) (kFrz (kG1 b Q)) := by
  unfold getK1
  rw [ok_bind, ok_toD]
  congr 2
  funext d e1
  show Ok (if isDct d then _ else _) Q = (isDct d = true ∧ Ok (b e1) (kFrz (kG2 d Q)))
  rw [ok_ifd, ok_bind, ok_toD]
  congr 3
  funext k e2
  rw [ok_ofO]
  show okO ((dlook d k).map _) e2 Q = okO (dlook d k) e2 _
  cases dlook d k <;> rfl
def kH3 (d k : D) (Q : Po Rv) : Po D := fun x e => okO (dlook d k) e fun r e => Q (.fz (r.getD x)) e
def kH2 (d : D) (c : Ev) (Q : Po Rv) : Po D := fun k e => Ok (c e) (kFrz (kH3 d k Q))
def kH1 (b c : Ev) (Q : Po Rv) : Po D := fun d e => isDct d = true ∧ Ok (b e) (kFrz (kH2 d c Q))
@[simp] theorem kH3_eq {Q : Po Rv} : kH3 d x Q y e = okO (dlook d x) e fun r e => Q (.fz (r.getD y)) e := rfl
@[simp] theorem kH2_eq {Q : Po Rv} : kH2 d c Q x e = Ok (c e) (kFrz (kH3 d x Q)) := rfl
@[simp] theorem kH1_eq {Q : Po Rv} : kH1 b c Q d e = (isDct d = true ∧ Ok (b e) (kFrz (kH2 d c Q))) := rfl
@[simp] theorem ok_getK2 {Q : Po Rv} : Ok (getK2 a b c e) Q = Ok (a e) (kFrz (kH1 b c Q)) := by
  unfold getK2
  rw [ok_bind, ok_toD]
  congr 2
  funext d e1
  show Ok (if isDct d then _ else _) Q = (isDct d = true ∧ Ok (b e1) (kFrz (kH2 d c Q)))
  rw [ok_ifd, ok_bind, ok_toD]
  congr 3
  funext k e2
  rw [ok_bind, ok_toD]
  show Ok (c e2) _ = Ok (c e2) _
  congr 2
  funext x e3
  rw [ok_ofO]
  show okO ((dlook d k).map _) e3 Q = okO (dlook d k) e3 _
  cases dlook d k <;> rfl
@[simp] theorem keysOf_T {kvs : List (List Key × D)} : keysOf (dictT kvs) = some (kvs.map fun p => keysD p.1) := by unfold keysOf; rw [unT_T]
@[simp] theorem keysOf_K {kvs : List (Key × D)} : keysOf (dictK kvs) = some (kvs.map fun p => keyD p.1) := by unfold keysOf; rw [unT_K, unK_K]; rfl
def kKe (Q : Po Src) : Po D := fun d e => okO (keysOf d) e fun ks e => Q ⟨ks, []⟩ e
@[simp] theorem kKe_eq {Q : Po Src} : kKe Q d e = okO (keysOf d) e fun ks e => Q ⟨ks, []⟩ e := rfl
@[simp] theorem ok_keysE {Q : Po Src} : Ok (keysE a e) Q = Ok (a e) (kFrz (kKe Q)) := by
  unfold keysE
  rw [ok_bind, ok_toD]
  congr 2
  funext d e1
  rw [ok_ofO]
  show okO ((keysOf d).map _) e1 Q = okO (keysOf d) e1 _
  cases keysOf d <;> rfl
def kVa (Q : Po Src) : Po D := fun d e => okO (unK d) e fun kvs e => Q ⟨kvs.map (·.2), []⟩ e
@[simp] theorem kVa_eq {Q : Po Src} : kVa Q d e = okO (unK d) e fun kvs e => Q ⟨kvs.map (·.2), []⟩ e := rfl
@[simp] theorem ok_valsE {Q : Po Src} : Ok (valsE a e) Q = Ok (a e) (kFrz (kVa Q)) := by
  unfold valsE
  rw [ok_bind, ok_toD]
  congr 2
  funext d e1
  rw [ok_ofO]
  show okO ((unK d).map _) e1 Q = okO (unK d) e1 _
  cases unK d <;> rfl
def kIt (Q : Po Src) : Po D := fun d e => okO (unK d) e fun kvs e => Q ⟨kvs.map fun p => .tuple [keyD p.1, p.2], []⟩ e
@[simp] theorem kIt_eq {Q : Po Src} : kIt Q d e = okO (unK d) e fun kvs e => Q ⟨kvs.map fun p => .tuple [keyD p.1, p.2], []⟩ e := rfl
@[simp] theorem ok_itemsE {Q : Po Src} : Ok (itemsE a e) Q = Ok (a e) (kFrz (kIt Q)) := by
  unfold itemsE
  rw [ok_bind, ok_toD]
  congr 2
  funext d e1
  rw [ok_ofO]
  show okO ((unK d).map _) e1 Q = okO (unK d) e1 _
  cases unK d <;> rfl
end
end VI
set_option Elab.async false
set_option linter.all false
set_option maxRecDepth 100000
set_option maxHeartbeats 4000000
set_option exponentiation.threshold 5000
namespace VI
open PySem PySem.Spec PyProof.Rows L2
variable {K : PySem.W.Frag} {C : Cf} {F H : Hp} {e e' : Env} {σ : L2.St}
def rgN (i j c : Int) : Nat := (Builtin.Range.rangeSize i j c).toNat
def stepsOf (lo c : Int) (n : Nat) : List D := (List.range n).map fun i => .int (lo + (i : Nat) * c)
def rgB (_i _j c : Int) : Bool := decide (0 < c) && decide (c < 2 ^ 4000)
def int3 : List Rv → Option (Int × Int × Int)
  | [.fz (.int i), .fz (.int j), .fz (.int c)] => some (i, j, c)
  | _ => none
def rng3 (as : Sem1 (List Rv)) : Sem1 Src := fun e => (as e).bind fun rs e1 => ofO ((int3 rs).bind fun p => if rgB p.1 p.2.1 p.2.2 then some ⟨stepsOf p.1 p.2.2 (rgN p.1 p.2.1 p.2.2), []⟩ else none) e1
def kR3 (Q : Po Src) : Po (List Rv) := fun rs e => okO (int3 rs) e fun p e => rgB p.1 p.2.1 p.2.2 = true ∧ Q ⟨stepsOf p.1 p.2.2 (rgN p.1 p.2.1 p.2.2), []⟩ e
@[simp] theorem kR3_eq {i j c : Int} {Q : Po Src} {e : Env} : kR3 Q [.fz (.int i), .fz (.int j), .fz (.int c)] e = (rgB i j c = true ∧ Q ⟨stepsOf i c (rgN i j c), []⟩ e) := rfl
@[simp] theorem ok_rng3 {as : Sem1 (List Rv)} {Q : Po Src} {e : Env} : Ok (rng3 as e) Q = Ok (as e) (kR3 Q) := by
  unfold rng3
  rw [ok_bind]
  congr 1
  funext rs e1
  rw [ok_ofO]
  show okO ((int3 rs).bind _) e1 Q = okO (int3 rs) e1 _
  cases int3 rs with
  | none => rfl
  | some p =>
    show okO (if rgB p.1 p.2.1 p.2.2 then _ else none) e1 Q = (rgB p.1 p.2.1 p.2.2 = true ∧ _)
    cases rgB p.1 p.2.1 p.2.2 <;> simp
def lenKD : D → Option Rv := fun d => (unT d).map fun kvs => .fz (.int kvs.length)
@[simp] theorem lenKD_T (kvs : List (List Key × D)) : lenKD (dictT kvs) = some (.fz (.int kvs.length)) := by unfold lenKD; rw [unT_T]; rfl
def lstTD : D → Option Rv := fun d => (unT d).map fun kvs => .fresh (kvs.map fun p => keysD p.1)
def srtTD : D → Option Rv := fun d => (unT d).bind fun kvs => if sortB (kvs.map fun p => keysD p.1) then some (.fresh ((kvs.map fun p => keysD p.1).mergeSort (PySem.W.dataLe false id))) else none
section
variable {X : Cx} {w : Wd} {ex : Expr} {a : Ev} {p pos : Pos}
end
@[simp] theorem lstTD_T (kvs : List (List Key × D)) : lstTD (dictT kvs) = some (.fresh (kvs.map fun p => keysD p.1)) := by unfold lstTD; rw [unT_T]; rfl
@[simp] theorem srtTD_T (kvs : List (List Key × D)) : srtTD (dictT kvs) = if sortB (kvs.map fun p => keysD p.1) then some (.fresh ((kvs.map fun p => keysD p.1).mergeSort (PySem.W.dataLe false id))) else none := by unfold srtTD; rw [unT_T]; rfl
end VI
set_option Elab.async false
set_option linter.all false
set_option maxRecDepth 100000
set_option maxHeartbeats 4000000
namespace VI
open PySem PySem.Spec PyProof.Rows L2
variable {K : PySem.W.Frag} {C : Cf} {F H : Hp} {e e' : Env} {σ : L2.St}
/-- one of several, told apart -/
theorem owl_at : ∀ {ts : List OT} {vs : List V} {fp : List Addr} {j : Nat} {t : OT}, OwL K F H ts vs fp → ts[j]? = some t → ∃ v f1 f2 f3, fp = f1 ++ f2 ++ f3 ∧ vs[j]? = some v ∧ Ow K F H t v f2 ∧
    ∀ {F' H' : Hp} {t' : OT} {f2' : List Addr}, Ext F F' → (∀ a ∈ f1 ++ f3, H' a = H a) → Ow K F' H' t' v f2' → OwL K F' H' (ts.set j t') vs (f1 ++ f2' ++ f3)
  | _, _, _, _, _, .nil, h => by simp at h
  | _, _, _, 0, t, .cons (v := v) (vs := vs) (f1 := g1) (f2 := g2) o r, h => by
    simp at h; subst h
    refine ⟨v, [], g1, g2, by simp, rfl, o, fun {F' H' t' f2'} E k o' => ?_⟩
    have := OwL.cons o' (r.ext E fun a ha => k a (by simpa using ha))
    simpa using this
  | _, _, _, j + 1, t, .cons (v := v) (vs := vs) (f1 := g1) (f2 := g2) o r, h => by
    obtain ⟨u, f1, f2, f3, rfl, h1, h2, h3⟩ := owl_at r (by simpa using h)
    refine ⟨u, g1 ++ f1, f2, f3, by simp, by simpa using h1, h2, fun {F' H' t' f2'} E k o' => ?_⟩
    have a1 : Ow K F' H' _ v g1 := o.ext E fun a ha => k a (by simp [ha])
    have a2 := h3 E (fun a ha => k a (by rcases List.mem_append.mp ha with z | z <;> simp [z])) o'
    have := OwL.cons a1 a2
    simpa using this
def isLT : Option (Option Sv) → Bool
  | some (some (.tr _ (.lst _))) => true
  | _ => false
def kids : Option (Option Sv) → Option (List OT)
  | some (some (.tr _ (.lst ts))) => some ts
  | _ => none
/-- x[i], x a list of our own of things of our own: which one -/
def ixAt (i : Nat) (ix : Ev) : Sem1 Nat := fun e => if isLT e[i]? then (opd ix e).bind fun r e1 => match r, kids e1[i]? with
    | .fz (.int k), some ts => ofO (ixN ts.length k) e1
    | _, _ => .no
  else .no
def RK (i : Nat) : Cf → Hp → Hp → Env → L2.St → Nat → V → Prop := fun _ _ H e σ j v => ∃ b ts p vs, e[i]? = some (some (.tr b (.lst ts))) ∧ σ[i]? = some (some (.ref p)) ∧ H p = some (.lst vs) ∧ vs[j]? = some v ∧ j < ts.length
abbrev rdK (w : Wd) (i : Nat) (a : Sem1 Nat) : TE := Rd w (RK i) a
theorem isLT_of {o : Option (Option Sv)} (h : isLT o = true) : ∃ b ts, o = some (some (.tr b (.lst ts))) := by
  unfold isLT at h
  split at h
  · exact ⟨_, _, rfl⟩
  · cases h
theorem kids_of {o : Option (Option Sv)} {ts : List OT} (h : kids o = some ts) : ∃ b, o = some (some (.tr b (.lst ts))) := by
  unfold kids at h
  split at h
  · cases h; exact ⟨_, rfl⟩
  · cases h
theorem rd_ixAt {w : Wd} {i : Nat} {ix : Ev} {Q : VK} (h : rdK w i (ixAt i ix) σ H Q) : tOp (rIx w.K) (rdR w (eV i)) (rdR w ix) σ H Q := by
  obtain ⟨C, F, e, R, P⟩ := h
  unfold ixAt at P
  split at P
  · rename_i h0
    obtain ⟨b0, ts0, h0⟩ := isLT_of h0
    refine ⟨C, F, e, R, ?_⟩
    rw [ev_tr h0]
    intro x F1 H1 R1 E1 q1
    have q1 : σ[i]? = some (some x) := q1
    have P := Post.mono E1 P
    refine rd_opd (bindP R1 P fun F2 H2 e2 r v h2 R2 E2 q2 P2 => ?_)
    split at P2
    · rename_i k ts ht
      obtain ⟨b, ht⟩ := kids_of ht
      obtain ⟨j, hj, P3⟩ := post_ofO P2
      cases q2
      obtain ⟨u, hu, fp, ow, nd, hF, hb⟩ := R2.sl _ _ ht
      rw [q1] at hu; cases hu
      cases ow with
      | @lst p _ vs fp' hp ol =>
        have hl : ts.length = vs.length := ol.length
        have hjl : j < vs.length := by
          have := (ixN_seq hj).2.1; omega
        refine .inl ⟨p, vs, k, vs[j], rfl, rfl, .inl (.inl hp), ?_, P3.ok' R2 ⟨b, ts, p, vs, ht, q1, hp, List.getElem?_eq_getElem hjl, by omega⟩⟩
        unfold atI
        rw [← hl, hj]
        exact List.getElem?_eq_getElem hjl
    · exact P2.elim
  · exact P.elim
/-- constants, as they stand anywhere -/
structure Cst (K : PySem.W.Frag) (v : V) (d : D) : Prop where
  dp : ∀ F, Dp K F v d
theorem pc_str {X : Cx} {i : Str} {j : Nat} {pos : Pos} : PE X (.Constant (.str i) j pos) (tC (.str i)) := pe_str
theorem cst_str {i : Str} : Cst K (.str i) (.str i) := ⟨fun _ => .str i⟩
def tCsU (vs : List V) : TA := fun _ H Q => Q vs H
def kidL (o : Option (Option Sv)) (j : Nat) : Option (List D) := match kids o with
  | some ts => match ts[j]? with
    | some (.lst us) => allFz us
    | _ => none
  | none => none
def setKid (e : Env) (i j : Nat) (t : OT) : Env := match e[i]? with
  | some (some (.tr b (.lst ts))) => e.set i (some (.tr b (.lst (ts.set j t))))
  | _ => e
def eMAt (f : FM) (i : Nat) (ix : Ev) (ds : List D) : Ev := fun e => (ixAt i ix e).bind fun j e1 => match kidL e1[i]? j with
  | none => .no
  | some xs => match f xs ds with
    | none => .no
    | some (z, xs') => .ok (.fz z) (setKid e1 i j (.lst (xs'.map OT.fz)))
/-- a child is changed -/
theorem Rp.setKid (R : Rp K C F H e σ) {i j : Nat} {b : Bool} {ts : List OT} {p : Addr} {vs : List V} {t t' : OT} {v : V} (he : e[i]? = some (some (.tr b (.lst ts)))) (hv : σ[i]? = some (some (.ref p))) (hp : H p = some (.lst vs)) (ht : ts[j]? = some t) (hj : vs[j]? = some v) :
    ∃ fc, Ow K F H t v fc ∧ fc.Nodup ∧ (∀ a ∈ fc, F a = none ∧ ¬ C.M a ∧ a ≠ p) ∧ ∀ {F' H' : Hp} {fc' : List Addr}, Ext F F' → Ext F' H' → TupIn F' H' → (∀ a, a ∉ fc → H a ≠ none → H' a = H a ∧ (F a = none → F' a = none)) → Ow K F' H' t' v fc' → fc'.Nodup → (∀ a ∈ fc', F' a = none ∧ (a ∈ fc ∨ H a = none)) →
      Rp K C F' H' (VI.setKid e i j t') σ := by
  obtain ⟨u, hu, fp, ow, nd, hF, hb⟩ := R.sl _ _ he
  rw [hv] at hu; cases hu
  cases ow with
  | @lst _ _ vs' fp' hp' ol =>
    rw [hp] at hp'; cases hp'
    obtain ⟨v', f1, f2, f3, rfl, h1, h2, h3⟩ := owl_at ol ht
    rw [hj] at h1; cases h1
    have nd' := List.nodup_cons.mp nd
    have ndm := nd'.2
    rw [List.nodup_append, List.nodup_append] at ndm
    obtain ⟨⟨n1, n2, n12⟩, n3, n123⟩ := ndm
    have mem : ∀ a, a ∈ f2 → a ∈ p :: (f1 ++ f2 ++ f3) := fun a ha => List.mem_cons_of_mem _ (by simp [ha])
    refine ⟨f2, h2, n2, fun a ha => ⟨(hF a (mem a ha)).1, (hF a (mem a ha)).2, fun z => nd'.1 (z ▸ (by simp [ha]))⟩, fun {F' H' fc'} E EH TU hk o' ndc hn => ?_⟩
    have ol0 : OwL K F H ts vs (f1 ++ f2 ++ f3) := ol
    have some' : ∀ a ∈ f1 ++ f2 ++ f3, H a ≠ none := fun a ha => ol0.some a ha
    have pn : H p ≠ none := by rw [hp]; exact fun z => by cases z
    have pf2 : p ∉ f2 := fun z => nd'.1 (by simp [z])
    have keep : ∀ a ∈ f1 ++ f3, H' a = H a := fun a ha => by
      have ha2 : a ∉ f2 := fun z => by
        rcases List.mem_append.mp ha with q | q
        · exact n12 a q a z rfl
        · exact n123 a (List.mem_append_right _ z) a q rfl
      exact (hk a ha2 (some' a (by rcases List.mem_append.mp ha with q | q <;> simp [q]))).1
    have ol' := h3 E keep o'
    have e1 : VI.setKid e i j t' = e.set i (some (.tr b (.lst (ts.set j t')))) := by unfold VI.setKid; rw [he]
    rw [e1]
    have op : Ow K F' H' (.lst (ts.set j t')) (.ref p) (p :: (f1 ++ fc' ++ f3)) := .lst ((hk p pf2 pn).1.trans hp) ol'
    have nin : ∀ a ∈ fc', a ∉ f1 ∧ a ∉ f3 ∧ a ≠ p := fun a ha => by
      rcases (hn a ha).2 with q | q
      · exact ⟨fun z => n12 a z a q rfl, fun z => n123 a (List.mem_append_right _ q) a z rfl, fun z => pf2 (z ▸ q)⟩
      · exact ⟨fun z => some' a (by simp [z]) q, fun z => some' a (by simp [z]) q, fun z => pn (z ▸ q)⟩
    refine R.trPut he hv (.lst hp ol0) E EH (fun a h0 hna => hk a (fun z => hna (mem a z)) h0) TU op ?_ (fun a ha => ?_) fun hbt => ?_
    · refine List.nodup_cons.mpr ⟨fun z => ?_, ?_⟩
      · rcases List.mem_append.mp z with z | z
        · rcases List.mem_append.mp z with z | z
          · exact nd'.1 (by simp [z])
          · exact (nin p z).2.2 rfl
        · exact nd'.1 (by simp [z])
      · rw [List.nodup_append, List.nodup_append]
        exact ⟨⟨n1, ndc, fun a ha c hc z => (nin c hc).1 (z ▸ ha)⟩, n3, fun a ha c hc z => by
          rcases List.mem_append.mp ha with q | q
          · exact n123 a (List.mem_append_left _ q) c hc z
          · exact (nin a q).2.1 (z ▸ hc)⟩
    · rcases List.mem_cons.mp ha with rfl | ha
      · exact ⟨(hk a pf2 pn).2 (hF a List.mem_cons_self).1, .inl List.mem_cons_self⟩
      · rcases List.mem_append.mp ha with ha | ha
        · rcases List.mem_append.mp ha with ha | ha
          · have hm : a ∈ p :: (f1 ++ f2 ++ f3) := List.mem_cons_of_mem _ (by simp [ha])
            exact ⟨(hk a (fun z => n12 a ha a z rfl) (some' a (by simp [ha]))).2 (hF a hm).1, .inl hm⟩
          · rcases (hn a ha).2 with q | q
            · exact ⟨(hn a ha).1, .inl (mem a q)⟩
            · exact ⟨(hn a ha).1, .inr q⟩
        · have hm : a ∈ p :: (f1 ++ f2 ++ f3) := List.mem_cons_of_mem _ (by simp [ha])
          exact ⟨(hk a (fun z => n123 a (List.mem_append_right _ z) a ha rfl) (some' a (by simp [ha]))).2 (hF a hm).1, .inl hm⟩
    · have := (hb hbt).1
      injection this with this
      rw [← this]; exact List.mem_cons_self
theorem kidL_of {o : Option (Option Sv)} {j : Nat} {xs : List D} (h : kidL o j = some xs) : ∃ b ts, o = some (some (.tr b (.lst ts))) ∧ ts[j]? = some (.lst (xs.map OT.fz)) := by
  unfold kidL at h
  split at h
  · rename_i ts hk
    obtain ⟨b, hk⟩ := kids_of hk
    split at h
    · rename_i us hu
      rw [allFz_of h] at hu
      exact ⟨b, ts, hk, hu⟩
    · cases h
  · cases h
theorem rd_mutAt {w : Wd} {f : FM} {r : V → List V → Hp → VK → Prop} {i : Nat} {ix : Ev} {ds : List D} {vs : List V} (hs : MutS w.K f r) (hc : ∀ F, DpAll w.K F vs ds) {Q : VK} (h : rdR w (eMAt f i ix ds) σ H Q) : tBM w.K "list" r (rdK w i (ixAt i ix)) (tCsU vs) σ H Q := by
  obtain ⟨C, F, e, R, P⟩ := h
  refine bindP R P fun F1 H1 e1 j v h1 R1 E1 q1 P1 => ?_
  obtain ⟨b, ts, p, us, he, hv, hp, hj, _⟩ := q1
  split at P1
  · exact P1.elim
  · rename_i xs hk
    obtain ⟨b2, ts2, he2, hts⟩ := kidL_of hk
    rw [he] at he2; cases he2
    split at P1
    · exact P1.elim
    · rename_i z xs' hf
      obtain ⟨fc, oc, ndc, hFc, k⟩ := R1.setKid (t' := .lst (xs'.map OT.fz)) he hv hp hts hj
      cases oc with
      | @lst q _ ws fq hq oq =>
        obtain ⟨hd, rfl⟩ := owl_fz' oq
        obtain ⟨f1, f2, f3⟩ := hFc q List.mem_cons_self
        refine ⟨.inl ⟨rfl, ws, .of hq⟩, hs F1 H1 q ws vs xs ds z xs' R1.ext hq f1 hd (hc F1) hf Q fun v' ys qv qy => P1 v' F1 _ (k (.refl F1) (R1.ext.mut f1) (R1.tup.mut fun xs z => by cases z) (fun a ha _ => ⟨upd_ne (fun z => ha (by rw [z]; exact List.mem_cons_self)), id⟩) (.lst upd_same (owl_fz qy)) (List.nodup_cons.mpr ⟨List.not_mem_nil, List.nodup_nil⟩) fun a ha => ?_) (.refl F1) qv⟩
        rw [List.mem_singleton] at ha
        subst ha
        exact ⟨f1, .inl List.mem_cons_self⟩
section
variable {X : Cx} {w : Wd} {o a ix : Expr} {f : FM} {r : V → List V → Hp → VK → Prop} {id : String} {ea : Ev} {i : Nat} {pos apos cpos : Pos} {name : Str} {v : V} {d : D}
theorem ve_mutAt (slot : Slot "list" name id) (hty : typeOf (.builtin id) = pure (.type "method_descriptor")) (hm : MtR X id r) (hs : MutS X.K f r) (hw : w.K = X.K) (ho : PE X o (rdR w (eV i))) (hi : PE X ix (rdR w ea)) (hx : PlainIx ix) (hc : PE X a (tC v)) (hd : Cst X.K v d)
    (hbase : attributeBase (.Subscript o ix pos) name X.env (eval (.Subscript o ix pos) X.env) = eval (.Subscript o ix pos) X.env := by rfl)
    (hfew : ((backTo cpos (starEach [a] X.env)).all (fun x => !x.1) && (backToKw cpos (keywordEach [] X.env)).all (fun x => x.1.isSome)
      && decide (([a] : List Expr).length + ([] : List Keyword).length + (if ([] : List Keyword).isEmpty then 0 else 1) < 30)) = true := by rfl)
    (hline : (apos.endLine == cpos.line) = true := by rfl) (h1 : starEach [a] X.env = (false, eval a X.env) :: starEach [] X.env := by rfl) (hplain : (backTo cpos (starEach [] X.env)).any (·.1) = false := by rfl) :
    PE X (.Call (.Attribute (.Subscript o ix pos) name apos) [a] [] cpos) (rdR w (eMAt f i ea [d])) :=
  pe_mono (pe_bm PySem.F.plainAttrs_list slot hty hm (pe_mono (pe_ix ix_seq ho hi hx) fun _ _ _ q => by rw [← hw]; exact rd_ixAt q) (pa_mono (pa_cons hc pa_nil h1) fun σ H Q (q : tCsU [v] σ H Q) => q) hbase hfew hline h1 hplain) fun _ _ _ h => by
    rw [← hw] at hs hd ⊢
    exact rd_mutAt hs (fun F => .cons (hd.dp F) .nil) h
theorem ve_mutAt0 (slot : Slot "list" name id) (hty : typeOf (.builtin id) = pure (.type "method_descriptor")) (hm : MtR X id r) (hs : MutS X.K f r) (hw : w.K = X.K) (ho : PE X o (rdR w (eV i))) (hi : PE X ix (rdR w ea)) (hx : PlainIx ix)
    (hbase : attributeBase (.Subscript o ix pos) name X.env (eval (.Subscript o ix pos) X.env) = eval (.Subscript o ix pos) X.env := by rfl) (hline : (apos.endLine == cpos.line) = true := by rfl) :
    PE X (.Call (.Attribute (.Subscript o ix pos) name apos) [] [] cpos) (rdR w (eMAt f i ea [])) :=
  pe_mono (pe_bm0 PySem.F.plainAttrs_list slot hty hm (pe_mono (pe_ix ix_seq ho hi hx) fun _ _ _ q => by rw [← hw]; exact rd_ixAt q) hbase hline) fun σ H Q h => by
    rw [← hw] at hs ⊢
    have q := rd_mutAt hs (fun F => .nil) h
    obtain ⟨C, F, e, R, P⟩ := q
    refine ⟨C, F, e, R, ?_⟩
    cases h1 : ixAt i ea e with
    | no => rw [h1] at P; exact P
    | ex x e1 => rw [h1] at P; exact P
    | ok r e1 => rw [h1] at P; exact P
end
def catS (i : Nat) (as : Sem1 (List OT)) : St1 := fun e => if isLT e[i]? then (as e).bind fun us e1 => match e1[i]? with
    | some (some (.tr false (.lst ts))) => if ts.length + us.length ≤ sizeLine ∧ us.length ≤ sizeLine then .ok .nx (e1.set i (some (.tr false (.lst (ts ++ us))))) else .no
    | _ => .no
  else .no
theorem Apar.forget {a : Addr} {i : Nat} (h : ∀ (j : Nat) (y : Sv), j ≠ i → e[j]? = some (some y) → y.mu = true → σ[j]? ≠ some (some (.ref a))) (h2 : ∀ j fp, j ≠ i → TrAt K H e σ j fp → a ∉ fp) : Apar K H (e.set i none) σ a := by
  have low : ∀ {j : Nat} {y : Sv}, (e.set i none)[j]? = some (some y) → j ≠ i ∧ e[j]? = some (some y) := fun {j y} h => by
    rcases getset h with ⟨_, z⟩ | ⟨hj, h⟩
    · cases z
    · exact ⟨Ne.symm hj, h⟩
  exact ⟨fun j y hy my => h j y (low hy).1 (low hy).2 my, fun j fp ⟨b, t, v, F', he, hv, o⟩ => h2 j fp (low he).1 ⟨b, t, v, F', (low he).2, hv, o⟩⟩
section
variable {X : Cx} {w : Wd} {i : Nat} {x : Str} {es : List Expr} {as : List Nv} {pos pos' p2 p3 p4 : Pos} {o : Expr}
end
end VI
set_option Elab.async false
set_option linter.all false
set_option maxRecDepth 100000
set_option maxHeartbeats 4000000
namespace VI
open PySem PySem.Spec PyProof.Rows L2
variable {K : PySem.W.Frag} {C : Cf} {F H : Hp} {e e' : Env} {σ : L2.St}
def setF (y : In) (j : Nat) (ds : List D) : In := ⟨y.n, y.fs, y.ts.set j (.lst (ds.map .fz))⟩
/-- the instance and its list -/
structure FldAt (K : PySem.W.Frag) (C : Cf) (F H : Hp) (e : Env) (σ : L2.St) (i : Nat) (y : In) (f : Str) (j : Nat) (ds : List D) (b : Bool) (p dx CY q : Addr) (vs ws : List V) (f1 f3 : List Addr) : Prop where
  he : e[i]? = some (some (.tr b y.o))
  hv : σ[i]? = some (some (.ref p))
  cl : clsNm K CY = some y.n
  hp : H p = some (.ins CY dx (y.fs.zip vs))
  lk : (y.fs.zip vs).lookup f = some (.ref q)
  hq : H q = some (.lst ws)
  hd : DpAll K F ws ds
  o : Ow K F H y.o (.ref p) (p :: dx :: (f1 ++ [q] ++ f3))
  nd : (p :: dx :: (f1 ++ [q] ++ f3)).Nodup
  fr : ∀ a ∈ p :: dx :: (f1 ++ [q] ++ f3), F a = none ∧ ¬ C.M a
  rt : b = true → (V.ref p) = .ref (C.lam i) ∧ C.lam i ∈ p :: dx :: (f1 ++ [q] ++ f3)
  new : ∀ {F' H' : Hp} {ys : List V} {es : List D}, Ext F F' → (∀ a ∈ p :: dx :: (f1 ++ f3), H' a = H a) → H' q = some (.lst ys) → DpAll K F' ys es → Ow K F' H' (setF y j es).o (.ref p) (p :: dx :: (f1 ++ [q] ++ f3))
end VI
set_option Elab.async false
set_option linter.all false
set_option maxRecDepth 100000
set_option maxHeartbeats 4000000
namespace VI
open PySem PySem.Spec PyProof.Rows L2
/-- one handler -/
structure Hdl where
  ty : Expr
  b0 : Stmt
  rest : List Stmt
  pos : Pos
  cs : List Value
  ts : TS
def Hdl.st (n : Str) (h : Hdl) : ExceptHandler := .ExceptHandler (some h.ty) (some n) (h.b0 :: h.rest) h.pos
section
variable {X : Cx} {n : Str} {i : Nat} {body : List Stmt} {pos : Pos} {tb : WX → TS} {Wout : WX}
end
end VI
set_option Elab.async false
set_option linter.all false
set_option maxRecDepth 100000
set_option maxHeartbeats 4000000
namespace VI
open PySem PySem.Spec PyProof.Rows L2
variable {K : PySem.W.Frag} {C : Cf} {F H : Hp} {e e' : Env} {σ : L2.St}
abbrev W0 : WX := fun _ _ _ _ => False
inductive HRel (K : PySem.W.Frag) : List Hdl → List (List Str × St1) → Prop
  | nil : HRel K [] []
  | cons {h : Hdl} {hs : List Hdl} {ns : List Str} {s : St1} {r : List (List Str × St1)} : Cats K h.cs ns → h.ts = rdS ⟨K, W0, XRk K⟩ s → HRel K hs r → HRel K (h :: hs) ((ns, s) :: r)
section
variable {X : Cx} {W : WX} {n : Str} {i : Nat} {body : List Stmt} {b : St1} {pos : Pos}
/-- the handlers of a text against their meanings -/
inductive HsOk (X : Cx) (n : Str) : List ExceptHandler → List (List Str × St1) → Prop
  | nil : HsOk X n [] []
  | cons {ty : Expr} {b0 : Stmt} {rest : List Stmt} {p : Pos} {ns : List Str} {s : St1} {es : List ExceptHandler} {r : List (List Str × St1)} : (∃ us, TyOk X ty us ∧ Cats X.K us ns) → (∀ (a : Addr) (pn : List (Addr × Obj)), PSs (X.suite a pn) (b0 :: rest) (rdS (wd (X.suite a pn) W0 (XRk X.K)) s)) → HsOk X n es r →
      HsOk X n (.ExceptHandler (some ty) (some n) (b0 :: rest) p :: es) ((ns, s) :: r)
end
end VI
set_option Elab.async false
set_option linter.all false
set_option maxRecDepth 100000
set_option maxHeartbeats 4000000
namespace VI
open PySem PySem.Spec PyProof.Rows L2
variable {K : PySem.W.Frag} {C : Cf} {F H : Hp} {e e' : Env} {σ : L2.St}
section
variable {X : Cx} {w : Wd} {i k : Nat} {cn f x : Str} {o ix a : Expr} {es : List Expr} {p pos pf apos cpos p2 p3 : Pos}
end
section
variable {X : Cx} {ea eb : Expr} {ps pos : Pos} {k : Nat} {t : TGs}
end
section
variable {X : Cx} {w : Wd} {i j : Nat} {x y : Str} {a : Expr} {ea : Ev} {px py ps pt pos : Pos} {kt : Nat}
end
section
variable {X : Cx} {body : List Stmt} {f₀ : Stmt} {fs : List Stmt} {pos : Pos} {tb : WX → TS} {tf tfs : TS} {Wout : WX}
end
section
variable {X : Cx} {W : WX} {body : List Stmt} {f₀ : Stmt} {fs : List Stmt} {pos : Pos} {b f : St1}
end
end VI
set_option Elab.async false
set_option linter.all false
set_option maxRecDepth 100000
set_option maxHeartbeats 4000000
namespace VI
open PySem PySem.Spec PyProof.Rows L2
variable {K : PySem.W.Frag} {C : Cf} {F H : Hp} {e e' : Env} {σ : L2.St}
/-- no other class has the name -/
def onlyB (K : PySem.W.Frag) (CY : Addr) (cn : Str) : Bool := K.all fun p => decide (clsNm K p.1 = some cn → p.1 = CY)
theorem only_of {CY : Addr} {cn : Str} (h : onlyB K CY cn = true) (c : Addr) (hc : clsNm K c = some cn) : c = CY := by
  have hk : ∃ o, K.lookup c = some o := by
    unfold clsNm PySem.W.clsIn at hc
    cases hl : K.lookup c with
    | some o => exact ⟨o, rfl⟩
    | none => rw [hl] at hc; simp at hc
  obtain ⟨o, ho⟩ := hk
  have := List.all_eq_true.mp h _ (lookup_mem ho)
  exact of_decide_eq_true this hc
structure ClsT (K : PySem.W.Frag) (mg : Str → Option Value) (cn : Str) : Prop where
  ex : ∃ CY : Addr, clsNm K CY = some cn ∧ (∀ c, clsNm K c = some cn → c = CY) ∧ mg cn = some (.ref CY) ∧ Cls K CY ∧ PySem.W.makesIn K CY = true ∧ PySem.W.keepIn K (.ref CY) = true
theorem cls_mk {mg : Str → Option Value} {h : Heap} {cn : Str} {CY : Addr} (X : K.In h) (G : h.Ns mainGlobals mg) (aC : PySem.W.nsIn K mainGlobals cn = some (some (.ref CY))) (nm : clsNm K CY = some cn) (un : onlyB K CY cn = true)
    (pg : PySem.W.plainGet K CY Str.empty = true) (hd : PySem.W.hasDictIn K CY = true) (po : PySem.W.plainOver K CY = true) (sa : PySem.W.findIn K (.ref CY) "__setattr__" = some (some (.builtin "object.__setattr__"))) (mk : PySem.W.makesIn K CY = true) (kc : PySem.W.keepIn K (.ref CY) = true) : ClsT K mg cn :=
  ⟨CY, nm, only_of un, PySem.W.mg_of X G aC, ⟨pg, hd, po, sa⟩, mk, kc⟩
/-- a method: its parameters ps, the last of which have the defaults dvs -/
structure MF (K : PySem.W.Frag) (cn m qual : Str) (st : Stmt) (ps : List Str) (dvs : List V) : Prop where
  ex : ∃ (CY f : Addr) (fd : FuncData) (us : List Value), clsNm K CY = some cn ∧ (∀ c, clsNm K c = some cn → c = CY) ∧ PySem.W.findIn K (.ref CY) m = some (some (.ref f)) ∧ PySem.W.isFn K (.ref f) = true ∧ PySem.W.keepIn K (.ref f) = true ∧ Binds K fd ps us ∧ Vals dvs us ∧ FunV K m qual st f fd
section
variable {P : Program} {W : World} {mg : Str → Option Value} {base : Heap} {cn m qual : Str} {st : Stmt} {ps : List Str} {dvs : List V} {k n : Nat} {sp : Sp}
theorem MF.to (d : MF K cn m qual st ps dvs) (c : ClsT K mg cn) (hn : ps.length = n) (h : ∀ f fd, FunV K m qual st f fd → FnG P W K mg base k f fd ps sp) : Metd P W K mg base k cn m n dvs sp := by
  obtain ⟨CY, f, fd, us, h1, h2, h3, h4, h5, h6, h7, h8⟩ := d.ex
  obtain ⟨C2, k1, k2, k3, k4, k5, k6⟩ := c.ex
  obtain rfl := k2 CY h1
  exact ⟨CY, f, fd, ps, us, h2, k4, ⟨h3, h4, h5⟩, h6, h7, hn, h f fd h8⟩
end
section
variable {X : Cx} {pins : List (Addr × Obj)} {s : Shared} {W : WX} {XR : Hp → Hp → Xc → Value → Option Addr → Prop} {k n : Nat} {f CY : Addr} {fd : FuncData} {ps : List Str} {sp : Sp} {x : Str} {p pos : Pos} {o : Expr} {i : Nat}
end
section
variable {X : Cx} {w : Wd} {a o : Expr} {name : Str} {apos cpos : Pos} {ea : Ev}
end
end VI
set_option Elab.async false
set_option linter.all false
set_option maxRecDepth 100000
set_option maxHeartbeats 4000000
namespace VI
open PySem PySem.Spec PyProof.Rows L2
variable {K : PySem.W.Frag} {C : Cf} {F H : Hp} {e e' : Env} {σ : L2.St}
/-- how the arguments by position (np of them) and by name (ks) are laid into the parameters behind self -/
def KBm (K : PySem.W.Frag) (fd : FuncData) (ps ks : List Str) (np : Nat) (is : List Nat) : Prop := ∀ (s : Shared) (u : Value) (us ws : List Value), K.In s.heap → us.length = np → ws.length = ks.length → BindsTo s fd ⟨u :: us, ks.zip ws⟩ (ps.zip (u :: pick is (us ++ ws)))
structure MetdK (P : Program) (W : World) (K : PySem.W.Frag) (mg : Str → Option Value) (base : Heap) (k : Nat) (cn m : Str) (ks : List Str) (np : Nat) (is : List Nat) (sp : Sp) : Prop where
  ex : ∃ (CY f : Addr) (fd : FuncData) (ps : List Str), (∀ c, clsNm K c = some cn → c = CY) ∧ Cls K CY ∧ Meth K CY m f ∧ KBm K fd ps ks np is ∧ FnG P W K mg base k f fd ps sp
structure MFK (K : PySem.W.Frag) (cn m qual : Str) (st : Stmt) (ps ks : List Str) (np : Nat) (is : List Nat) : Prop where
  ex : ∃ (CY f : Addr) (fd : FuncData), clsNm K CY = some cn ∧ (∀ c, clsNm K c = some cn → c = CY) ∧ PySem.W.findIn K (.ref CY) m = some (some (.ref f)) ∧ PySem.W.isFn K (.ref f) = true ∧ PySem.W.keepIn K (.ref f) = true ∧ KBm K fd ps ks np is ∧ FunV K m qual st f fd
section
variable {P : Program} {W : World} {mg : Str → Option Value} {base : Heap} {cn m qual : Str} {st : Stmt} {ps ks : List Str} {np k : Nat} {is : List Nat} {sp : Sp}
theorem MFK.to (d : MFK K cn m qual st ps ks np is) (c : ClsT K mg cn) (h : ∀ f fd, FunV K m qual st f fd → FnG P W K mg base k f fd ps sp) : MetdK P W K mg base k cn m ks np is sp := by
  obtain ⟨CY, f, fd, h1, h2, h3, h4, h5, h6, h8⟩ := d.ex
  obtain ⟨C2, k1, k2, k3, k4, k5, k6⟩ := c.ex
  obtain rfl := k2 CY h1
  exact ⟨CY, f, fd, ps, h2, k4, ⟨h3, h4, h5⟩, h6, h f fd h8⟩
end
section
variable {X : Cx} {W : WX} {XR : Hp → Hp → Xc → Value → Option Addr → Prop} {k n nn i : Nat} {f CY : Addr} {fd : FuncData} {ps ks : List Str} {is : List Nat} {sp : Sp} {E : L2.St → XK} {m : Str} {pos apos : Pos} {o ex : Expr} {ta te : TE} {tk : TA} {kws : List Keyword} {as : List Ev} {a : Ev}
end
end VI
set_option Elab.async false
set_option linter.all false
set_option maxRecDepth 100000
set_option maxHeartbeats 4000000
namespace VI
open PySem PySem.Spec PyProof.Rows L2
variable {K : PySem.W.Frag} {C : Cf} {F H : Hp} {e e' : Env} {σ : L2.St}
structure DAl (K : PySem.W.Frag) (mg : Str → Option Value) (a x qual : Str) (st : Stmt) (ps : List Str) : Prop where
  ex : ∃ (f : Addr) (fd : FuncData), mg a = some (.ref f) ∧ PySem.W.keepIn K (.ref f) = true ∧ Binds K fd ps [] ∧ Fun K x qual st f fd
theorem DAl.to {P : Program} {W : World} {mg : Str → Option Value} {base : Heap} {a x qual : Str} {st : Stmt} {ps : List Str} {k n : Nat} {sp : Sp} (d : DAl K mg a x qual st ps) (hn : ps.length = n) (h : ∀ f fd, Fun K x qual st f fd → FnG P W K mg base k f fd ps sp) : Defn P W K mg base k a n sp := by
  obtain ⟨f, fd, h1, h2, h3, h4⟩ := d.ex
  exact ⟨f, fd, ps, h1, h2, h3, hn, h f fd h4⟩
def EntsI (PP : Params) : List DictEntry → List (Str × Int) → Prop
  | [], [] => True
  | e :: es, q :: qs => (∃ t t', e.key = .str q.1 t ∧ e.hash = PyData.keyHash PP q.1 ∧ e.val = .int q.2 t') ∧ EntsI PP es qs
  | _, _ => False
structure TbI (K : PySem.W.Frag) (PP : Params) (mg : Str → Option Value) (x : Str) (kvs : List (Str × Int)) : Prop where
  ex : ∃ (p : Addr) (es : Array DictEntry) (n : Nat), mg x = some (.ref p) ∧ K.lookup p = some ⟨.type "dict", none, .dict es n, #[]⟩ ∧ (p == sysModules) = false ∧ EntsI PP es.toList kvs
theorem EntsI.lit {PP : Params} : ∀ {es : List DictEntry} {kvs : List (Str × Int)}, EntsI PP es kvs → PySem.W.KeysLit PP es
  | [], [], _ => trivial
  | e :: es, q :: qs, h => by
    obtain ⟨⟨t, t', h1, h2, h3⟩, r⟩ := h
    exact ⟨⟨q.1, t, h1, h2⟩, r.lit⟩
  | [], _ :: _, h => h.elim
  | _ :: _, [], h => h.elim
theorem EntsI.find {PP : Params} (z : Str) : ∀ {es : List DictEntry} {kvs : List (Str × Int)}, EntsI PP es kvs → match kvs.lookup z with
    | none => es.find? (fun e => Value.isStrOf z e.key) = none
    | some i => ∃ e t, es.find? (fun e => Value.isStrOf z e.key) = some e ∧ e.val = .int i t
  | [], [], _ => rfl
  | e :: es, q :: qs, h => by
    obtain ⟨⟨t, t', h1, h2, h3⟩, r⟩ := h
    have hk : Value.isStrOf z e.key = (q.1 == z) := by rw [h1]; rfl
    obtain ⟨q1, q2⟩ := q
    by_cases hz : z = q1
    · subst hz
      have : List.lookup z ((z, q2) :: qs) = some q2 := by simp [List.lookup]
      rw [this]
      refine ⟨e, t', ?_, h3⟩
      rw [List.find?_cons, hk]
      simp
    · have : List.lookup z ((q1, q2) :: qs) = qs.lookup z := by
        rw [List.lookup]
        have : (z == q1) = false := by simpa using hz
        rw [this]
      rw [this]
      have hk2 : Value.isStrOf z e.key = false := by rw [hk]; simpa using fun w => hz w.symm
      have ih := EntsI.find z r
      rw [List.find?_cons, hk2]
      exact ih
  | [], _ :: _, h => h.elim
  | _ :: _, [], h => h.elim
section
variable {X : Cx} {w : Wd} {W : WX} {XR : Hp → Hp → Xc → Value → Option Addr → Prop} {kvs : List (Str × Int)} {x : Str} {i f : Expr} {p apos cpos : Pos} {ta tc : TE} {a : Ev} {c : Int} {mb : Str}
end
section
variable {X : Cx} {W : WX} {XR : Hp → Hp → Xc → Value → Option Addr → Prop} {k n : Nat} {p pos : Pos}
end
def rev0D : F1 := fun d => match d with
  | .list ds => some (.fresh (ds.drop 1).reverse)
  | _ => none
@[simp] theorem rev0D_lst {ds : List D} : rev0D (.list ds) = some (.fresh (ds.drop 1).reverse) := rfl
end VI
set_option Elab.async false
set_option linter.all false
set_option maxRecDepth 100000
set_option maxHeartbeats 4000000
namespace VI
open PySem PySem.Spec PyProof.Rows L2
variable {K : PySem.W.Frag} {C : Cf} {F H : Hp} {e e' : Env} {σ : L2.St}
def mkS (l : List Nat) : Str := ⟨l.toArray⟩
theorem mkS_tl (z : Str) : mkS (TL.tl z) = z := TL.mk_tl z
@[simp] theorem tl_mkS (l : List Nat) : TL.tl (mkS l) = l := TL.tl_mk l
@[simp] theorem mkS_len (l : List Nat) : (mkS l).length = l.length := by rw [TL.len_tl, tl_mkS]
def eS1 (g : F2) (a b : Ev) : Ev := fun e => (opd a e).bind fun x e1 => match peek x e1 with
  | some (.str _) => (opd b e1).bind fun y e2 => ofO (ap2 g x y e2) e2
  | _ => .no
theorem rd_S1 {w : Wd} {g : F2} {r : V → List V → Hp → VK → Prop} {a b : Ev} (hs : OpS w.K g (fun x y H Q => r x [y] H Q)) {Q : VK} (h : rdR w (eS1 g a b) σ H Q) : tM1 r (rdR w a) (rdR w b) σ H Q := by
  obtain ⟨C, F, e, R, P⟩ := h
  refine rd_opd (bindP R P fun F1 H1 e1 x v1 h1 R1 E1 q1 P1 => ?_)
  split at P1
  · rename_i z hz
    have q := RvR.peek R1 (opd_still h1) q1 hz
    refine ⟨by cases q; exact ⟨_, rfl⟩, ?_⟩
    refine rd_opd (bindP R1 P1 fun F2 H2 e2 y v2 h2 R2 E2 q2 P2 => ?_)
    obtain ⟨z, hz, P3⟩ := post_ofO P2
    obtain ⟨dx, dy, hx, hy, hf⟩ := ap2_some hz
    exact hs F2 H2 v1 v2 dx dy z R2.ext (RvR.peek R2 (opd_still h1) (RvR.later (opd_still h1) E2 q1) hx) (RvR.peek R2 (opd_still h2) q2 hy) hf Q fun v H' q => P3.res R2 q
  · exact P1.elim
def splD : F2 := fun x y => match x, y with
  | .str u, .str v => if v.length ≠ 0 ∧ u.length + 2 ≤ sizeLine ∧ v.cps.all (· < 256) = true then some (.fresh ((TL.spl (TL.tl v) 0 [] (TL.tl u)).map fun l => .str (mkS l))) else none
  | _, _ => none
theorem tl_ne {v : Str} (h : v.length ≠ 0) : TL.tl v ≠ [] := fun z => h (by rw [TL.len_tl, z]; rfl)
theorem dpAll_strs : ∀ {ws : List Str}, DpAll K F (ws.map V.str) (ws.map PyData.str)
  | [] => .nil
  | w :: ws => .cons (.str w) dpAll_strs
theorem s_spl : OpS K splD (fun x y H Q => ∃ a b, x = .str a ∧ [y] = [.str b] ∧ (b.length == 0) = false ∧ a.length + 2 ≤ sizeLine ∧ rNewStrs (Txt.split a b) H Q) := by
  intro F H x y dx dy z E hx hy hz Q k
  unfold splD at hz
  split at hz
  · rename_i u v
    split at hz
    · rename_i hc
      cases hz; cases hx; cases hy
      refine ⟨u, v, rfl, rfl, by simpa using hc.1, hc.2.1, fun p hp => ?_⟩
      have e1 := TL.split_spl u v (tl_ne hc.1) (TL.kind_ok hc.2.2)
      have e2 : (TL.spl (TL.tl v) 0 [] (TL.tl u)).map mkS = Txt.split u v := by
        rw [← e1, List.map_map]
        exact (List.map_congr_left fun s _ => mkS_tl s).trans (List.map_id _)
      refine k _ _ ?_
      have e3 : ((TL.spl (TL.tl v) 0 [] (TL.tl u)).map fun l => PyData.str (mkS l)) = (Txt.split u v).map PyData.str := by rw [← e2, List.map_map]; rfl
      rw [e3]
      exact .lst hp dpAll_strs
    · cases hz
  · cases hz
def strsOf : List D → Option (List Str)
  | [] => some []
  | .str z :: ds => (strsOf ds).map (z :: ·)
  | _ => none
theorem strsOf_map : ∀ {ds : List D} {ws : List Str}, strsOf ds = some ws → ds = ws.map .str
  | [], ws, h => by cases h; rfl
  | .str z :: ds, ws, h => by
    obtain ⟨w, h1, rfl⟩ := Option.map_eq_some_iff.mp h
    rw [strsOf_map h1]; rfl
  | .none :: _, _, h => by cases h
  | .bool _ :: _, _, h => by cases h
  | .int _ :: _, _, h => by cases h
  | .list _ :: _, _, h => by cases h
  | .tuple _ :: _, _, h => by cases h
  | .dict _ :: _, _, h => by cases h
@[simp] theorem strsOf_strs (ws : List Str) : strsOf (ws.map PyData.str) = some ws := by
  induction ws with
  | nil => rfl
  | cons w ws ih => show (strsOf (ws.map PyData.str)).map (w :: ·) = _; rw [ih]; rfl
theorem dpAll_strs_eq : ∀ {ws : List Str} {vs : List V}, DpAll K F vs (ws.map PyData.str) → vs = ws.map V.str
  | [], _, .nil => rfl
  | w :: ws, _, .cons h r => by
    cases h
    rw [dpAll_strs_eq r]; rfl
def joinW (s : Str) (ws : List Str) : Option Rv := if (ws.map (·.length)).sum + ws.length * s.length ≤ 16777216 then some (.fz (.str (mkS (TL.joinL (TL.tl s) (ws.map TL.tl))))) else none
def joinD : F2 := fun x y => match x, y with
  | .str s, .list ds => (strsOf ds).bind (joinW s)
  | .str s, .tuple ds => (strsOf ds).bind (joinW s)
  | _, _ => none
theorem join_eq (s : Str) (ws : List Str) : mkS (TL.joinL (TL.tl s) (ws.map TL.tl)) = Txt.join s ws := by
  rw [TL.join_eq, ← TL.tl_join, mkS_tl]
theorem s_join : OpS K joinD (fun x y H Q => ∃ a p, ∃ ys : List Str, x = .str a ∧ [y] = [.ref p] ∧ (SqL K H p (ys.map V.str) ∨ SqT K H p (ys.map V.str)) ∧
    (ys.map (·.length)).sum + ys.length * a.length ≤ 16777216 ∧ Q (.str (Txt.join a ys)) H) := by
  intro F H x y dx dy z E hx hy hz Q k
  unfold joinD at hz
  split at hz
  · obtain ⟨ws, h1, h2⟩ := Option.bind_eq_some_iff.mp hz
    unfold joinW at h2
    split at h2
    · rename_i hc
      cases h2
      rw [strsOf_map h1] at hy
      cases hx
      cases hy with
      | lst h3 h4 =>
        rw [dpAll_strs_eq h4] at h3
        exact ⟨_, _, ws, rfl, rfl, .inl (.inl h3), hc, by rw [← join_eq]; exact k _ _ (.old (.str _))⟩
    · cases h2
  · obtain ⟨ws, h1, h2⟩ := Option.bind_eq_some_iff.mp hz
    unfold joinW at h2
    split at h2
    · rename_i hc
      cases h2
      rw [strsOf_map h1] at hy
      cases hx
      cases hy with
      | tup h3 h4 =>
        rw [dpAll_strs_eq h4] at h3
        exact ⟨_, _, ws, rfl, rfl, .inr (ext_t E h3), hc, by rw [← join_eq]; exact k _ _ (.old (.str _))⟩
    · cases h2
  · cases hz
section
variable {X : Cx} {w : Wd} {o ex : Expr} {a b : Ev} {apos pos : Pos}
theorem ve_split (ho : PE X o (rdR w a)) (he : PE X ex (rdR w b)) (hs : starEach [ex] X.env = [(false, eval ex X.env)] := by rfl) (hbase : attributeBase o "split" X.env (eval o X.env) = eval o X.env := by rfl) (hline : (apos.endLine == pos.line) = true := by rfl) :
    PE X (.Call (.Attribute o "split" apos) [ex] [] pos) (rdR w (eS1 splD a b)) := pe_mono (pe_split ho he hs hbase hline) fun _ _ _ h => rd_S1 s_spl h
theorem ve_join (hw : w.K = X.K) (ho : PE X o (rdR w a)) (he : PE X ex (rdR w b)) (hs : starEach [ex] X.env = [(false, eval ex X.env)] := by rfl) (hbase : attributeBase o "join" X.env (eval o X.env) = eval o X.env := by rfl) (hline : (apos.endLine == pos.line) = true := by rfl) :
    PE X (.Call (.Attribute o "join" apos) [ex] [] pos) (rdR w (eS1 joinD a b)) := pe_mono (pe_join ho he hs hbase hline) fun _ _ _ h => rd_S1 (hw ▸ s_join) h
end
def intSD : D → Option Rv
  | .str z => if z.length ≤ 640 then (PySem.intText? z).map fun n => .fz (.int n) else none
  | _ => none
theorem s_intS : CallS K (on1 intSD) (fun xs H Q => ∃ a n, xs = [V.str a] ∧ PySem.intText? a = some n ∧ a.length ≤ 640 ∧ Q (.int n) H) := callS1 fun F H v d z E h hz Q k => by
  unfold intSD at hz
  split at hz
  · split at hz
    · rename_i hl
      obtain ⟨n, h1, h2⟩ := Option.map_eq_some_iff.mp hz
      cases h2; cases h
      exact ⟨_, n, rfl, h1, hl, k _ _ (.old (.int _))⟩
    · cases hz
  · cases hz
def inSg : F2 := fun x y => match x, y with
  | .str u, .str z => match TL.tl u with
    | [c] => some (.fz (.bool (decide (c ∈ TL.tl z))))
    | _ => none
  | _, _ => none
theorem s_inSg : OpS K inSg (fun x y H Q => ∃ (c : Nat) (z : Str), x = .str ⟨#[c]⟩ ∧ y = .str z ∧ Q (.bl (decide (c ∈ z.cps.toList))) H) := by
  intro F H x y dx dy z E hx hy hz Q k
  unfold inSg at hz
  split at hz
  · rename_i u z
    split at hz
    · rename_i c hc
      cases hz; cases hx; cases hy
      have : u = ⟨#[c]⟩ := TL.ext_tl hc
      subst this
      exact ⟨c, z, rfl, rfl, k _ _ (.old (.bl _))⟩
    · cases hz
  · cases hz
def signsD (z : Str) : List D := (TL.tl z).map fun c => .str (mkS [c])
def srcSt (a : Ev) : Sem1 Src := fun e => (opd a e).bind fun x e1 => match peek x e1 with
  | some (.str z) => .ok ⟨signsD z, []⟩ e1
  | _ => .no
theorem itOk_str {F : Hp} {z : Str} : ItOk K C F (Its z) (signsD z) := by
  have hl : (signsD z).length = z.cps.size := by unfold signsD; rw [List.length_map]; exact (TL.len_tl z).symm
  refine ⟨fun _ => True, fun i H v H' => H' = H ∧ ∃ c, z.cps[i]? = some c ∧ v = .str ⟨#[c]⟩, by rw [hl]; exact walk_str, fun _ _ _ _ _ _ => trivial, fun i x H1 H2 F1 E _ _ y hi => ?_⟩
  obtain ⟨rfl, c, hc, rfl⟩ := y
  refine ⟨.str (mkS [c]), ?_, .old (.str _)⟩
  unfold signsD
  rw [List.getElem?_map]
  have : (TL.tl z)[i]? = some c := by
    show z.cps.toList[i]? = some c
    rw [Array.getElem?_toList]; exact hc
  rw [this]; rfl
theorem rd_srcSt {w : Wd} {a : Ev} {Rr : It → Hp → Prop} (h : rdI w (srcSt a) σ H Rr) : iStr (rdR w a) σ H Rr := by
  obtain ⟨C, F, e, R, P⟩ := h
  refine rd_opd (bindI R P fun F1 H1 e1 x v h1 R1 E1 q1 P1 => ?_)
  split at P1
  · rename_i z hz
    have q := RvR.peek R1 (opd_still h1) q1 hz
    cases q
    exact ⟨z, rfl, P1 C (Its z) F1 H1 R1 (.refl F1) back_nil itOk_str⟩
  · exact P1.elim
theorem vi_srcSt {X : Cx} {w : Wd} {tg iter : Expr} {a : Ev} (h : PE X iter (rdR w a)) : PI X tg iter (rdI w (srcSt a)) := pi_mono (pi_str h) fun _ _ _ q => rd_srcSt q
structure TbT (K : PySem.W.Frag) (mg : Str → Option Value) (x : Str) (ws : List Str) : Prop where
  ex : ∃ (p : Addr) (o : Obj) (its : Array Value) (n : Nat), mg x = some (.ref p) ∧ K.lookup p = some o ∧ o.cls = .type "tuple" ∧ o.data = .seq its n ∧ its.size ≤ sizeLine ∧ Vals (ws.map V.str) its.toList
def inTb (ws : List Str) : F1 := fun d => match d with
  | .str z => some (.fz (.bool (decide (z ∈ ws))))
  | _ => none
section
variable {X : Cx} {w : Wd} {ex : Expr} {a : Ev} {x : Str} {ws : List Str} {p pos : Pos}
end
def kS1' (g : F2) (b : Ev) (Q : Po Rv) (x : Rv) (e1 : Env) : Option D → Prop
  | some (.str _) => Ok ((opd b e1).bind fun y e2 => ofO (ap2 g x y e2) e2) Q
  | _ => False
def kS1s (g : F2) (b : Ev) (Q : Po Rv) : Po Rv := kOpd fun x e1 => kS1' g b Q x e1 (peek x e1)
@[simp] theorem kS1s_eq {g : F2} {b : Ev} {Q : Po Rv} {r : Rv} : kS1s g b Q r e = kS1' g b Q (calmR r) e (peek (calmR r) e) := rfl
@[simp] theorem kS1'_str {g : F2} {b : Ev} {Q : Po Rv} {x : Rv} {z : Str} : kS1' g b Q x e (some (.str z)) = Ok (b e) (kB2 g x Q) := by
  show Ok ((opd b e).bind fun y e2 => ofO (ap2 g x y e2) e2) Q = _
  rw [ok_bind, ok_opd]; rfl
@[simp] theorem ok_S1 {g : F2} {a b : Ev} {Q : Po Rv} : Ok (eS1 g a b e) Q = Ok (a e) (kS1s g b Q) := by
  unfold eS1
  rw [ok_bind, ok_opd]
  congr 1
  unfold kS1s
  congr 1
  funext x e1
  unfold kS1'
  split <;> rfl
def kSst' (Q : Po Src) (e1 : Env) : Option D → Prop
  | some (.str z) => Q ⟨signsD z, []⟩ e1
  | _ => False
@[simp] theorem kSst'_str {Q : Po Src} {z : Str} : kSst' Q e (some (.str z)) = Q ⟨signsD z, []⟩ e := rfl
def kSst (Q : Po Src) : Po Rv := kOpd fun x e1 => kSst' Q e1 (peek x e1)
@[simp] theorem kSst_eq {Q : Po Src} {r : Rv} : kSst Q r e = kSst' Q e (peek (calmR r) e) := rfl
@[simp] theorem ok_srcSt {a : Ev} {Q : Po Src} : Ok (srcSt a e) Q = Ok (a e) (kSst Q) := by
  unfold srcSt
  rw [ok_bind, ok_opd]
  congr 1
  unfold kSst
  congr 1
  funext x e1
  unfold kSst'
  split <;> rfl
@[simp] theorem inTb_str {ws : List Str} {z : Str} : inTb ws (.str z) = some (.fz (.bool (decide (z ∈ ws)))) := rfl
end VI
set_option Elab.async false
set_option linter.all false
set_option maxRecDepth 100000
set_option maxHeartbeats 4000000
namespace VI
open PySem PySem.Spec PyProof.Rows L2
variable {K : PySem.W.Frag} {C : Cf} {F H : Hp} {e e' : Env} {σ : L2.St}
def EntsS (PP : Params) : List DictEntry → List (Str × Str) → Prop
  | [], [] => True
  | e :: es, q :: qs => (∃ t t', e.key = .str q.1 t ∧ e.hash = PyData.keyHash PP q.1 ∧ e.val = .str q.2 t') ∧ EntsS PP es qs
  | _, _ => False
structure TbS (K : PySem.W.Frag) (PP : Params) (mg : Str → Option Value) (x : Str) (kvs : List (Str × Str)) : Prop where
  ex : ∃ (p : Addr) (es : Array DictEntry) (n : Nat), mg x = some (.ref p) ∧ K.lookup p = some ⟨.type "dict", none, .dict es n, #[]⟩ ∧ (p == sysModules) = false ∧ EntsS PP es.toList kvs
theorem tbs_mk {PP : Params} {mg : Str → Option Value} {h : Heap} {x : Str} {kvs : List (Str × Str)} {p : Addr} {es : Array DictEntry} {n : Nat} (X : K.In h) (G : h.Ns mainGlobals mg) (a : PySem.W.nsIn K mainGlobals x = some (some (.ref p)))
    (l : K.lookup p = some ⟨.type "dict", none, .dict es n, #[]⟩) (lo : (p == sysModules) = false) (k : EntsS PP es.toList kvs) : TbS K PP mg x kvs := ⟨p, es, n, PySem.W.mg_of X G a, l, lo, k⟩
theorem EntsS.lit {PP : Params} : ∀ {es : List DictEntry} {kvs : List (Str × Str)}, EntsS PP es kvs → PySem.W.KeysLit PP es
  | [], [], _ => trivial
  | e :: es, q :: qs, h => by
    obtain ⟨⟨t, t', h1, h2, h3⟩, r⟩ := h
    exact ⟨⟨q.1, t, h1, h2⟩, r.lit⟩
  | [], _ :: _, h => h.elim
  | _ :: _, [], h => h.elim
theorem EntsS.find {PP : Params} (z : Str) : ∀ {es : List DictEntry} {kvs : List (Str × Str)}, EntsS PP es kvs → match kvs.lookup z with
    | none => es.find? (fun e => Value.isStrOf z e.key) = none
    | some i => ∃ e t, es.find? (fun e => Value.isStrOf z e.key) = some e ∧ e.val = .str i t
  | [], [], _ => rfl
  | e :: es, q :: qs, h => by
    obtain ⟨⟨t, t', h1, h2, h3⟩, r⟩ := h
    have hk : Value.isStrOf z e.key = (q.1 == z) := by rw [h1]; rfl
    obtain ⟨q1, q2⟩ := q
    by_cases hz : z = q1
    · subst hz
      have : List.lookup z ((z, q2) :: qs) = some q2 := by simp [List.lookup]
      rw [this]
      refine ⟨e, t', ?_, h3⟩
      rw [List.find?_cons, hk]
      simp
    · have : List.lookup z ((q1, q2) :: qs) = qs.lookup z := by
        rw [List.lookup]
        have : (z == q1) = false := by simpa using hz
        rw [this]
      rw [this]
      have hk2 : Value.isStrOf z e.key = false := by rw [hk]; simpa using fun w => hz w.symm
      have ih := EntsS.find z r
      rw [List.find?_cons, hk2]
      exact ih
  | [], _ :: _, h => h.elim
  | _ :: _, [], h => h.elim
theorem findBy_arr (z : Str) (es : Array DictEntry) : findBy Value.isStrOf es z = (es.toList.find? fun e => Value.isStrOf z e.key).map (·.val) := by
  obtain ⟨l⟩ := es
  unfold findBy
  rw [List.find?_toArray]
def ixTb (kvs : List (Str × Str)) : F1 := fun d => match d with
  | .str z => (kvs.lookup z).map fun s => .fz (.str s)
  | _ => none
def rIxTb (p : Addr) (kvs : List (Str × Str)) : R2 := fun x y H Q => ∃ z s, x = .ref p ∧ y = .str z ∧ kvs.lookup z = some s ∧ Q (.str s) H
section
variable {X : Cx} {w : Wd} {W : WX} {XR : Hp → Hp → Xc → Value → Option Addr → Prop} {kvs : List (Str × Str)} {x : Str} {i f : Expr} {p pos apos cpos : Pos} {ta tc : TE} {a : Ev}
theorem ix_tb {d : Addr} {es : Array DictEntry} {n : Nat} (hl : X.K.lookup d = some ⟨.type "dict", none, .dict es n, #[]⟩) (lo : (d == sysModules) = false) (ents : EntsS X.w.params es.toList kvs) : IxR X (rIxTb d kvs) := by
  intro value slice pins s σ H x y v u Q I rx ry h hs
  obtain ⟨z, r, rfl, rfl, hz, q⟩ := h
  cases rx
  obtain ⟨t, rfl⟩ := ry
  have hmp := PySem.W.mapOf_K (prog := X.prog) (w := X.w) I.kIn hl ents.lit
  have hf := EntsS.find z ents
  rw [hz] at hf
  obtain ⟨e0, t0, h1, h2⟩ := hf
  refine tail_any hmp.typeIs slot_dict_getitem.lookup ?_ hs
  exact wpAny_getItem_of (PySem.strKind_is X.prog X.w z t) hmp (by rw [findBy_arr, h1]; rfl) ⟨.str r, H, I.tok _, by show L2.RelV (V.str r) e0.val; rw [h2]; exact ⟨_, rfl⟩, q⟩
theorem rd_ixTb {w : Wd} {d : Addr} {Q : VK} (h : rdR w (un1 (ixTb kvs) a) σ H Q) : tOp (rIxTb d kvs) (tC (.ref d)) (rdR w a) σ H Q := by
  obtain ⟨C, F, e, R, P⟩ := h
  refine rd_opd (bindP R P fun F1 H1 e1 x v1 h1 R1 E1 q1 P1 => ?_)
  obtain ⟨z, hz, P3⟩ := post_ofO P1
  obtain ⟨dx, hx, hf⟩ := ap1_some hz
  have q := RvR.peek R1 (opd_still h1) q1 hx
  unfold ixTb at hf
  split at hf
  · rename_i u
    obtain ⟨s, hs, hf⟩ := Option.map_eq_some_iff.mp hf
    cases hf
    cases q
    exact ⟨u, s, rfl, rfl, hs, P3.ok' R1 (show RvR _ _ _ _ _ _ (.fz _) _ from .str _)⟩
  · cases hf
theorem ve_ixTb (T : TbS X.K X.w.params X.mg x kvs) (hg : Gl X x) (ha : PE X i (rdR w a)) (hx : PlainIx i) (hdb : (x == ("__debug__" : Str)) = false := by decide) : PE X (.Subscript (.Name x p) i pos) (rdR w (un1 (ixTb kvs) a)) := by
  obtain ⟨d, es, n, hm, hl, lo, ents⟩ := T.ex
  exact pe_mono (pe_ix (ix_tb hl lo ents) (pe_glob (v := .ref d) hg hm rfl hdb) ha hx) fun _ _ _ h => rd_ixTb h
def getTs (kvs : List (Str × Str)) : F1 := fun d => match d with
  | .str z => some (.fz (match kvs.lookup z with | some s => .str s | none => .none))
  | _ => none
def tTbGetS (kvs : List (Str × Str)) (ta : TE) : TE := fun σ H Q => ta σ H fun y H1 => ∃ x, y = .str x ∧ Q (match kvs.lookup x with | some s => .str s | none => .non) H1
theorem rd_getTs {w : Wd} {Q : VK} (h : rdR w (un1 (getTs kvs) a) σ H Q) : tTbGetS kvs (rdR w a) σ H Q := by
  obtain ⟨C, F, e, R, P⟩ := h
  refine rd_opd (bindP R P fun F1 H1 e1 x v1 h1 R1 E1 q1 P1 => ?_)
  obtain ⟨z, hz, P3⟩ := post_ofO P1
  obtain ⟨dx, hx, hf⟩ := ap1_some hz
  have q := RvR.peek R1 (opd_still h1) q1 hx
  unfold getTs at hf
  split at hf
  · rename_i u
    cases hf
    cases q
    refine ⟨u, rfl, P3.ok' R1 ?_⟩
    show Dp _ _ _ _
    cases kvs.lookup u with
    | none => exact .non
    | some s => exact .str _
  · cases hf
theorem pe_getTs (T : TbS X.K X.w.params X.mg x kvs) (hg : Gl X x) (ha : PE X i ta) (m : M1 X (.Name x p) "get" apos i cpos) (hdb : (x == ("__debug__" : Str)) = false := by decide) : PE X (.Call (.Attribute (.Name x p) "get" apos) [i] [] cpos) (tTbGetS kvs ta) := by
  obtain ⟨d, es, n, hm, hl, lo, ents⟩ := T.ex
  refine ⟨fun pins s σ H Q I h => ?_⟩
  refine wpAny_Call_method m.base m.few m.line PySem.F.plainAttrs_dict PySem.F.slot_dict_get PySem.F.type_dict_get (thn ((pe_glob (v := .ref d) hg hm rfl hdb).run pins s σ H (fun v H' => v = .ref d ∧ H' = H) I ⟨rfl, rfl⟩) fun u s1 ⟨y, H1, I1, rx, ex, eh⟩ => ?_)
  subst ex
  subst eh
  obtain rfl : u = Value.ref d := rx
  have hmp := PySem.W.mapOf_K (prog := X.prog) (w := X.w) I1.kIn hl ents.lit
  refine ⟨hmp.typeIs, fun b q => ?_, ?_⟩
  · cases q
    exact ⟨_, I1.kIn _ _ hl, rfl⟩
  rw [m.trees]
  refine Calls.callWith_builtin rfl (Calls.evalArgs_plain (Calls.spliced_cons (thn (ha.run pins s1 σ H1 _ I1 h) fun iv s2 ⟨y, H2, I2, ry, k, ey, q2⟩ => Calls.spliced_nil ?_)))
  subst ey
  obtain ⟨t, rfl⟩ := ry
  have hm3 := PySem.W.mapOf_K (prog := X.prog) (w := X.w) I2.kIn hl ents.lit
  refine call_meetsIn PySem.F.slot_dict_get hm3.typeIs PySem.F.entry_dict_get (PySem.F.args_dict_get_2 _ _) (meets_dict_get (strKind X.prog X.w) d (strKind_is X.prog X.w k t) lo) ⟨_, hm3, ?_⟩
  refine ⟨_, H2, I2.tok _, ?_, q2⟩
  have hf := EntsS.find k ents
  have he := findBy_arr k es
  split at hf
  · rename_i h0
    rw [he, hf, h0]
    rfl
  · rename_i j h0
    obtain ⟨e0, t0, h1, h2⟩ := hf
    rw [he, h1, h0]
    exact ⟨t0, h2⟩
theorem ve_getTs (T : TbS X.K X.w.params X.mg x kvs) (hg : Gl X x) (ha : PE X i (rdR w a)) (m : M1 X (.Name x p) "get" apos i cpos) (hdb : (x == ("__debug__" : Str)) = false := by decide) : PE X (.Call (.Attribute (.Name x p) "get" apos) [i] [] cpos) (rdR w (un1 (getTs kvs) a)) :=
  pe_mono (pe_getTs T hg ha m hdb) fun _ _ _ h => rd_getTs h
end
@[simp] theorem getTs_str {kvs : List (Str × Str)} {z : Str} : getTs kvs (.str z) = some (.fz (match kvs.lookup z with | some s => .str s | none => .none)) := rfl
@[simp] theorem ixTb_str {kvs : List (Str × Str)} {z : Str} : ixTb kvs (.str z) = (kvs.lookup z).map fun s => .fz (.str s) := rfl
end VI
set_option Elab.async false
set_option linter.all false
set_option maxRecDepth 100000
set_option maxHeartbeats 4000000
namespace VI
open PySem PySem.Spec PyProof.Rows L2
theorem law_endX {l : PySem.W.OpenLaw} {n k : Nat} {q : Program} {loose : List Str} {XP : (Str → Option Value) → Heap → Prop} {YP : World → Heap → Prop} {d : DefRec} {Sy : World → PySem.W.Frag → Prop} {x : Str}
    (hn : l.most = some n) (hn2 : n ≤ sizeLine) (hdf : d.params.defaults = []) (hr : Room k callerA) (hY : ∀ (w : World) (h : Heap), YP w h → ∃ K : PySem.W.Frag, K.In h ∧ noLst K = true ∧ Sy w K)
    (F : ∀ (w : World) (mg : Str → Option Value) (fa : Addr) (h : Heap) (K : PySem.W.Frag), K.In h → Sy w K → h.Ns mainGlobals mg → mg d.name = some (.ref fa) →
      ∃ fd : FuncData, Binds K fd [x] [] ∧ ∀ base : Heap, K.In base → base.Ns mainGlobals mg → FnG l.prog w K mg base k fa fd [x] (spLaw n)) :
    PySem.W.WalkO q loose XP YP l.row.toRowW d [] (fun f vs => PySem.call f vs) := by
  refine Att.attach_callB hn hdf fun w s₀ s1 mg mb fa o pm cd doc a vs ns G Y ho hd hcd hmg hobj hints hlen hbits hgen => ?_
  obtain ⟨K, kin, hLK, hSy⟩ := hY w _ Y
  obtain ⟨fd, hbnd, hF⟩ := F w mg fa _ K kin hSy G.T.g hmg
  have free : K.lookup a = none := by
    cases e : K.lookup a with
    | none => rfl
    | some o' =>
      have := kin _ _ e
      rw [hobj] at this
      cases this
      exact absurd rfl (noLst_at (hLK) e)
  -- the heap, the script locked
  generalize hob : ({ cls := .type "list", data := .seq vs.toArray } : Obj) = ob at hobj
  have sH : ∀ b u, scriptHp a ob ns b = some u → b = a ∧ u = .frz ob (.lst (ns.map V.int)) := by
    intro b u z
    by_cases hb : b = a
    · subst hb; rw [scriptHp_at] at z; exact ⟨rfl, (Option.some.inj z).symm⟩
    · rw [scriptHp_ne hb] at z; cases z
  have ok : HOk l.prog w (scriptHp a ob ns) s1.heap := by
    intro b u z
    obtain ⟨rfl, rfl⟩ := sH b u z
    exact ⟨hobj, by rw [List.length_map]; exact Nat.le_trans hlen hn2, vs, 0, L2.vals_ints hints, by rw [hobj, ← hob]⟩
  have shown : ∀ {b : Addr} {o : Obj}, s1.heap.get? b = some o → b ≠ a → (hidT s1.heap (scriptHp a ob ns)).get? b = some o := fun e n => hidT_get e (scriptHp_ne n)
  have dictNe : ∀ {b : Addr} {m : Str → Option Value}, s1.heap.Ns b m → b ≠ a := by
    rintro b m ⟨o, es, ep, e, dd, _⟩ rfl
    rw [hobj, ← hob] at e
    cases e
    cases dd
  have ns' : ∀ {b : Addr} {m : Str → Option Value}, s1.heap.Ns b m → (hidT s1.heap (scriptHp a ob ns)).Ns b m := by
    intro b m z
    have nb := dictNe z
    obtain ⟨o, es, ep, e, r⟩ := z
    exact ⟨o, es, ep, shown e nb, r⟩
  have kb : K.In (hidT s1.heap (scriptHp a ob ns)) := by
    intro b o e
    refine shown (kin b o e) ?_
    rintro rfl
    rw [free] at e; cases e
  have md : Mod K mg (hidT s1.heap (scriptHp a ob ns)) :=
    { kin := kb, glob := ns' G.T.g, blt := ⟨mb, ns' G.T.b, G.T.builtins⟩, nolimit := by obtain ⟨mc, h1, h2⟩ := G.T.nolimit; exact ⟨mc, ns' h1, h2⟩ }
  have e0 : Env0 l.prog w K mg (hidT s1.heap (scriptHp a ob ns)) callerA [] s1 (scriptHp a ob ns) :=
    { frames := rfl, mod := md, bs := fun b o e => of_hidT e, bsz := Nat.le_of_eq (hidT_size _ _), funs := trivial, frf := fun b hb => (by cases hb), hok := ok, bare := .of_eq hgen }
  refine codeAny_mono ((hF _ kb (ns' G.T.g)).run callerA [] s1 (scriptHp a ob ns) ⟨[.ref a], []⟩ [.ref a] [.ref a] (fun v _ => v = .bl true) (fun _ _ _ => False) hr rfl e0 (hbnd s1 [.ref a] kin rfl) (.cons rfl .nil) ⟨a, ob, ns, rfl, hlen, hbits, rfl, fun _ => rfl⟩) ?_
  intro r s2 h
  match r, h with
  | .error z, h => exact (by obtain ⟨_, _, _, _, _, _, _, _, _, _, _, _, zz⟩ := h; exact zz.elim)
  | .ok (.ret u), ⟨v, H', os, bare, un, hok', rv, qv⟩ =>
    have qv : v = .bl true := qv
    subst qv
    cases rv
    refine ⟨rfl, OldK.of_keep fun b o e => ?_, os, bare⟩
    by_cases hb : b = a
    · subst hb
      have z := hok' b _ (un.frzs b ob _ scriptHp_at)
      rw [hobj] at e; cases e
      exact z.1
    · exact un.keep b o e (scriptHp_ne hb) (fun z => by cases z) (fun z => by cases z)
section
variable {K : PySem.W.Frag} {h : Heap} {mg : Str → Option Value}
def gloB (x : Str) (K : PySem.W.Frag) : Bool := He.eqO (PySem.W.nsIn K mainGlobals x) (some (some (.ref (He.ga K x))))
def freeB (x : Str) (K : PySem.W.Frag) : Bool := He.eqO (PySem.W.nsIn K mainGlobals x) (some none)
def faB (f : He.Fa) (K : PySem.W.Frag) : Bool := f.ok K
theorem glo_hd {x : Str} (c : gloB x K = true) : PySem.W.nsIn K mainGlobals x = some (some (.ref (He.ga K x))) := He.eqO_ok c
theorem free_hd (X : K.In h) (G : h.Ns mainGlobals mg) {x : Str} (c : freeB x K = true) : mg x = none := PySem.W.mg_none_of X G (He.eqO_ok c)
abbrev dfD (x qual : Str) (st : Stmt) : He.DefD := ⟨(x, none), x, qual, defArgs st, defBody st, defScope st, [], []⟩
abbrev FnX (K : PySem.W.Frag) (d : He.DefD) : Prop := ∃ fd, FunD K d.name d.qual d.params d.body d.scope (d.dvs K) (d.kws K) (He.fAd K d.at_) fd
theorem FnX.look {d : He.DefD} (F : FnX K d) (h0 : d.dfl = []) : ∃ (oc : Value) (od : Option Addr) (kV doc pm : Value) (an : Option Addr) (cdv ct : Value) (osl : Array (Option Value)),
    K.lookup (He.fAd K d.at_) = some ⟨oc, od, .func (PySem.W.fnOf d.name d.qual d.params d.body d.scope .none kV doc pm an cdv ct), osl⟩ ∧ PySem.W.codeIn K cdv d.qual = true ∧ PySem.W.keepIn K (.ref (He.fAd K d.at_)) = true ∧ KwdV K kV (d.kws K) := by
  obtain ⟨fd, F⟩ := F
  obtain ⟨oc, od, dV, kV, doc, pm, an, cdv, ct, osl, rfl, lk, hcd, hD, hK⟩ := F.ex
  have e : d.dvs K = [] := by unfold He.DefD.dvs; rw [h0]; rfl
  rw [e] at hD
  rcases hD with ⟨_, rfl⟩ | ⟨z, _⟩
  · exact ⟨oc, od, kV, doc, pm, an, cdv, ct, osl, lk, hcd, F.kp, hK⟩
  · exact absurd rfl z
theorem df_hd (X : K.In h) (G : h.Ns mainGlobals mg) {x qual : Str} {st : Stmt} {ps : List Str} (F : FnX K (dfD x qual st)) (g : gloB x K = true) (hq : qual = x)
    (hb : ∀ (kV doc pm : Value) (an : Option Addr) (cdv ct : Value) (us : List Value), us.length = ps.length → bindArgs (PySem.W.fnOf x qual (defArgs st) (defBody st) (defScope st) .none kV doc pm an cdv ct) ⟨us, []⟩ = pure (ps.zip us)) : DF K mg x qual st ps := by
  obtain ⟨oc, od, kV, doc, pm, an, cdv, ct, osl, lk, hcd, kp, _⟩ := F.look rfl
  exact df_mk X G (glo_hd g) lk hcd kp hb
theorem dfk_hd (X : K.In h) (G : h.Ns mainGlobals mg) {x qual : Str} {st : Stmt} {ps ks : List Str} {is : List Nat} (F : FnX K (dfD x qual st)) (g : gloB x K = true)
    (hb : ∀ (kV doc pm : Value) (an : Option Addr) (cdv ct : Value) (ws : List Value), ws.length = ks.length → bindArgs (PySem.W.fnOf x qual (defArgs st) (defBody st) (defScope st) .none kV doc pm an cdv ct) ⟨[], ks.zip ws⟩ = pure (ps.zip (pick is ws))) : DFK K mg x qual st ps ks is := by
  obtain ⟨oc, od, kV, doc, pm, an, cdv, ct, osl, lk, hcd, kp, _⟩ := F.look rfl
  exact dfk_mk X G (glo_hd g) lk hcd kp (hb kV doc pm an cdv ct)
structure ClH (K : PySem.W.Frag) (cn : Str) : Prop where
  g : PySem.W.nsIn K mainGlobals cn = some (some (.ref (He.ga K cn)))
  nm : clsNm K (He.ga K cn) = some cn
  un : onlyB K (He.ga K cn) cn = true
  pg : PySem.W.plainGet K (He.ga K cn) Str.empty = true
  hd : PySem.W.hasDictIn K (He.ga K cn) = true
  po : PySem.W.plainOver K (He.ga K cn) = true
  sa : PySem.W.findIn K (.ref (He.ga K cn)) "__setattr__" = some (some (.builtin "object.__setattr__"))
  mks : PySem.W.makesIn K (He.ga K cn) = true
  kc : PySem.W.keepIn K (.ref (He.ga K cn)) = true
theorem ClH.cls (c : ClH K cn) (X : K.In h) (G : h.Ns mainGlobals mg) : ClsT K mg cn := cls_mk X G c.g c.nm c.un c.pg c.hd c.po c.sa c.mks c.kc
def exShape (K : PySem.W.Frag) (C : Addr) (n : Str) (bmB : List Value) (newId : String) : Bool := match K.lookup C with
  | some ⟨.type "type", _, .cls cd, sl⟩ => (match cd.mro, sl.toList with
    | .ref C' :: bm, [_, _, _, _, some (.builtin m), _] => decide (C' = C) && (decide (m = newId) && (!cd.hasDel && (cd.hasDict && (decide (cd.qualname = n) && decide (bm = bmB)))))
    | _, _ => false)
  | _ => false
def eqB (a b : Option Bool) : Bool := decide (a = b)
structure ErH (K : PySem.W.Frag) (n : Str) (bmB : List Value) (newId : String) : Prop where
  c1 : gloB n K = true
  c2 : exShape K (He.ga K n) n bmB newId = true
  c3 : He.eqO (PySem.W.findIn K (.ref (He.ga K n)) "__setattr__") (some (some (.builtin "object.__setattr__"))) = true
  c4 : He.eqO (PySem.W.findIn K (.ref (He.ga K n)) "__getattribute__") (some (some (.builtin "BaseException.__getattribute__"))) = true
  c5 : He.eqO (PySem.W.findIn K (.ref (He.ga K n)) "__getattr__") (some none) = true
  c6 : He.eqO (PySem.W.findIn K (.ref (He.ga K n)) "__class__") (some (some (.builtin "object.__class__"))) = true
  c7 : He.eqO (PySem.W.specialIn K (.builtin "object.__class__") "__get__") (some (some (.builtin "getset_descriptor.__get__"))) = true
  c8 : eqB (PySem.W.takesIn K (.builtin "object.__class__")) (some true) = true
  c9 : eqB (PySem.W.mroIn K (He.ga K n) (.type "object")) (some true) = true
  c10 : He.eqO (PySem.W.findIn K (.ref (He.ga K n)) "__init__") (some (some (.ref (He.ma K (He.ga K n) "__init__")))) = true
  c11 : decide (PySem.W.typeIn K (.ref (He.ma K (He.ga K n) "__init__")) = some (.type "function")) = true
  c12 : PySem.W.keepIn K (.ref (He.ga K n)) = true
  c13 : eqB (PySem.W.subIn K (.ref (He.ga K n)) (.type "BaseException")) (some true) = true
  c14 : decide (PySem.W.typeIn K (.ref (He.ga K n)) = some (.type "type")) = true
  c15 : PySem.W.hasDictIn K (He.ga K n) = true
  c16 : flB K (He.ga K n) = true
  c17 : askB K (He.ga K n) n = true
  c18 : ownB K (He.ga K n) n = true
def valS : List DictEntry → List (Str × Str) → Bool
  | [], [] => true
  | e :: es, q :: qs => (match e.val with
    | .str i _ => decide (i = q.2)
    | _ => false) && valS es qs
  | _, _ => false
theorem entsS_of {PP : Params} : ∀ {es : List DictEntry} {kvs : List (Str × Str)}, es.map He.keyOf = He.keysIn PP (kvs.map (·.1)) → valS es kvs = true → EntsS PP es kvs
  | [], [], _, _ => trivial
  | [], _ :: _, _, h => by cases h
  | _ :: _, [], _, h => by cases h
  | e :: es, q :: qs, h1, h2 => by
    obtain ⟨h2a, h2b⟩ := He.ba h2
    have h1 : He.keyOf e :: es.map He.keyOf = some (q.1, PyData.keyHash PP q.1) :: He.keysIn PP (qs.map (·.1)) := h1
    injection h1 with h3 h4
    refine ⟨?_, entsS_of h4 h2b⟩
    unfold He.keyOf at h3
    split at h3
    · rename_i x t hx
      have h5 := Option.some.inj h3
      obtain ⟨h6, h7⟩ := Prod.mk.inj h5
      split at h2a
      · rename_i i t' hi
        exact ⟨t, t', by rw [hx, h6], by rw [h7], by rw [hi, of_decide_eq_true h2a]⟩
      · cases h2a
    · cases h3
def tsB (x : Str) (kvs : List (Str × Str)) (K : PySem.W.Frag) : Bool := gloB x K && (match K.lookup (He.ga K x) with
  | some ⟨_, _, .dict es _, _⟩ => valS es.toList kvs
  | _ => false)
theorem dicW_at {a : Addr} {l : List (Option (Str × Int))} (h : He.dicW K a = some l) : ∃ es n, K.lookup a = some ⟨.type "dict", none, .dict es n, #[]⟩ ∧ (a == sysModules) = false ∧ es.toList.map He.keyOf = l := by
  unfold He.dicW at h
  split at h
  · rename_i c es n sl ho
    split at h
    · rename_i hc
      obtain ⟨h1, h2⟩ := He.ba hc
      obtain ⟨h3, h4⟩ := He.ba h2
      have h1 := of_decide_eq_true h1
      subst h1
      have h3 : sl = #[] := by simpa using h3
      subst h3
      exact ⟨es, n, ho, by simpa using h4, Option.some.inj h⟩
    · cases h
  · cases h
theorem tbs_hd {PP : Params} {x : Str} {kvs : List (Str × Str)} (X : K.In h) (G : h.Ns mainGlobals mg) (c : tsB x kvs K = true) (w : He.dicW K (He.ga K x) = some (He.keysIn PP (kvs.map (·.1)))) : TbS K PP mg x kvs := by
  obtain ⟨c1, c2⟩ := He.ba c
  obtain ⟨es, n, h1, h2, h3⟩ := dicW_at w
  rw [h1] at c2
  exact tbs_mk X G (glo_hd c1) h1 h2 (entsS_of h3 c2)
end
def isLstO (o : Obj) : Bool := match o.cls with
  | .type n => n == "list"
  | _ => false
/-- a forced spine -/
def frK {α : Type} : PySem.W.Frag → PySem.W.Frag → (PySem.W.Frag → α) → α
  | [], acc, k => k acc
  | (a, o) :: r, acc, k => HandSHeadRun.frNat a fun a => frK r (if isLstO o then acc else (a, o) :: acc) k
theorem frK_eq {α : Type} : ∀ (K acc : PySem.W.Frag), ∃ L, (∀ p ∈ L, (p ∈ K ∨ p ∈ acc) ∧ (isLstO p.2 = false ∨ p ∈ acc)) ∧ ∀ k : PySem.W.Frag → α, frK K acc k = k L
  | [], acc => ⟨acc, fun p hp => ⟨.inr hp, .inr hp⟩, fun _ => rfl⟩
  | (a, o) :: r, acc => by
    obtain ⟨L, h1, h2⟩ := frK_eq (α := α) r (if isLstO o then acc else (a, o) :: acc)
    refine ⟨L, fun p hp => ?_, fun k => ?_⟩
    · obtain ⟨h3, h4⟩ := h1 p hp
      have key : ∀ {q : Prop}, p ∈ (if isLstO o = true then acc else (a, o) :: acc) → (p ∈ acc → q) → (p = (a, o) → isLstO o = false → q) → q := by
        intro q hq k1 k2
        cases e : isLstO o with
        | true => rw [e, if_pos rfl] at hq; exact k1 hq
        | false =>
          rw [e, if_neg Bool.false_ne_true] at hq
          rcases List.mem_cons.mp hq with z | z
          · exact k2 z e
          · exact k1 z
      refine ⟨?_, ?_⟩
      · rcases h3 with h3 | h3
        · exact .inl (List.mem_cons_of_mem _ h3)
        · exact key h3 .inr fun z _ => .inl (by rw [z]; exact List.mem_cons_self)
      · rcases h4 with h4 | h4
        · exact .inl h4
        · exact key h4 .inr fun z e => .inl (by rw [z]; exact e)
    · show HandSHeadRun.frNat a (fun a => frK r (if isLstO o then acc else (a, o) :: acc) k) = _
      rw [HandSHeadRun.frNat_eq]
      exact h2 k
abbrev AlX : Type := Bool × List He.FnW × List (Option (List (Option (Str × Int))))
def obX (fa : List (PySem.W.Frag → Bool)) (fn : List He.DefD) (tb : List (Str × List Str)) (K : PySem.W.Frag) : AlX := ((fa.all fun f => f K) && fn.all fun d => d.ok K, fn.map fun d => He.fnW K d.at_, tb.map fun q => He.dicW K (He.ga K q.1))
def vlX (fn : List He.DefD) (tb : List (Str × List Str)) (w : World) : AlX := (true, fn.map He.DefD.val, tb.map fun q => some (He.keysIn w.params q.2))
abbrev SaysX (fa : List (PySem.W.Frag → Bool)) (fn : List He.DefD) (tb : List (Str × List Str)) (w : World) (K : PySem.W.Frag) : Prop := obX fa fn tb K = vlX fn tb w
/-- what the module's names reach in n steps, the deepest first -/
def asL (g : Addr → Option Obj) : Nat → List Addr → List Addr → List Addr
  | 0, cur, acc => cur ++ acc
  | n + 1, cur, acc => asL g n (cur.flatMap fun a => match g a with
    | some o => (He.refsD o).filter fun b => !Nat.beq a b
    | none => []) (cur ++ acc)
def obG (n : Nat) (fa : List (PySem.W.Frag → Bool)) (fn : List He.DefD) (tb : List (Str × List Str)) (g : Addr → Option Obj) : AlX := frK (He.frG g (asL g n [mainGlobals] [])) [] fun K => obX fa fn tb K
theorem frG_mem {g : Addr → Option Obj} {as : List Addr} {p : Addr × Obj} (h : p ∈ He.frG g as) : g p.1 = some p.2 := by
  unfold He.frG at h
  obtain ⟨a, _, e⟩ := List.mem_filterMap.mp h
  obtain ⟨o, h1, rfl⟩ := Option.map_eq_some_iff.mp e
  exact h1
def hookX (n : Nat) (fa : List (PySem.W.Frag → Bool)) (fn : List He.DefD) (tb : List (Str × List Str)) : PySem.W.Hook where
  α := AlX
  obs := fun s => obG n fa fn tb s.heap.get?
  val := vlX fn tb
  says := fun w h => ∃ K : PySem.W.Frag, K.In h ∧ noLst K = true ∧ SaysX fa fn tb w K
  of := fun w s e => by
    obtain ⟨L, h1, h2⟩ := frK_eq (α := AlX) (He.frG s.heap.get? (asL s.heap.get? n [mainGlobals] [])) []
    refine ⟨L, fun a o e => ?_, List.all_eq_true.mpr fun p hp => ?_, (h2 _).symm.trans e⟩
    · have hm := lookup_mem e
      rcases (h1 _ hm).1 with z | z
      · exact frG_mem z
      · cases z
    · rcases (h1 p hp).2 with z | z
      · have z : isLstO p.2 = false := z
        unfold isLstO at z
        generalize p.2.cls = c at z ⊢
        cases c <;> first | rfl | (revert z; intro z; simpa [bne] using z)
      · cases z
  keeps := fun _ _ _ ⟨K, hK, hn, c⟩ k => ⟨K, PySem.W.Frag.In.keeps hK k, hn, c⟩
theorem obG_eq {n : Nat} {fa : List (PySem.W.Frag → Bool)} {fn : List He.DefD} {tb : List (Str × List Str)} {g : Addr → Option Obj} {s : Shared} (h : ∀ a, g a = s.heap.get? a) : obG n fa fn tb g = (hookX n fa fn tb).obs s := by
  have e : g = s.heap.get? := funext h
  rw [e] <;> rfl
section
variable {fa : List (PySem.W.Frag → Bool)} {fn : List He.DefD} {tb : List (Str × List Str)} {w : World} {K : PySem.W.Frag}
theorem SaysX.fact (c : SaysX fa fn tb w K) (i : Nat) {f : PySem.W.Frag → Bool} (h : fa[i]? = some f := by rfl) : f K = true := by
  have c1 := (He.ba (show ((fa.all fun f => f K) && fn.all fun d => d.ok K) = true from congrArg (fun z : AlX => z.1) c)).1
  exact List.all_eq_true.mp c1 f (List.mem_of_getElem? h)
theorem SaysX.def_ (c : SaysX fa fn tb w K) (i : Nat) {d : He.DefD} (h : fn[i]? = some d := by rfl) : FnX K d := by
  have c2 := (He.ba (show ((fa.all fun f => f K) && fn.all fun d => d.ok K) = true from congrArg (fun z : AlX => z.1) c)).2
  have e : fn.map (fun d => He.fnW K d.at_) = fn.map He.DefD.val := congrArg (fun z : AlX => z.2.1) c
  have e2 : (fn.map fun d => He.fnW K d.at_)[i]? = (fn.map He.DefD.val)[i]? := by rw [e]
  rw [List.getElem?_map, List.getElem?_map, h] at e2
  exact He.DefD.funD (Option.some.inj e2) (List.all_eq_true.mp c2 d (List.mem_of_getElem? h))
theorem SaysX.tab (c : SaysX fa fn tb w K) (i : Nat) {q : Str × List Str} (h : tb[i]? = some q := by rfl) : He.dicW K (He.ga K q.1) = some (He.keysIn w.params q.2) := by
  have e : tb.map (fun q => He.dicW K (He.ga K q.1)) = tb.map fun q => some (He.keysIn w.params q.2) := congrArg (fun z : AlX => z.2.2) c
  have e2 : (tb.map fun q => He.dicW K (He.ga K q.1))[i]? = (tb.map fun q => some (He.keysIn w.params q.2))[i]? := by rw [e]
  rw [List.getElem?_map, List.getElem?_map, h] at e2
  exact Option.some.inj e2
end
theorem run_two {r : PySem.W.OpenRow} {q : Program} {H : PySem.W.Hook} {ob : PySem.W.SharedT → H.α} {M : Nat} {loose : List PySem.Str} {w : World} (h1 : HandSHeadRun.RunEq r q PySem.W.Hook.none (fun _ => ()) M loose w)
    (h2 : ∀ os : OsState, (HandSHeadRun.endF (HandSHeadRun.stepQ (HandSHeadRun.denQ HandSHeadRun.tabQ) r.prog w) M r.prog w os).map ob = some (H.val w)) : HandSHeadRun.RunEq r q H ob M loose w := by
  intro os
  have k1 := h1 os
  have k2 := h2 os
  cases e : HandSHeadRun.endF (HandSHeadRun.stepQ (HandSHeadRun.denQ HandSHeadRun.tabQ) r.prog w) M r.prog w os with
  | none => rw [e] at k2; cases k2
  | some s =>
    rw [e] at k1 k2
    have k2 := Option.some.inj k2
    have k1 := Option.some.inj k1
    obtain ⟨a1, a2⟩ := Prod.mk.inj k1
    obtain ⟨a2, a3⟩ := Prod.mk.inj a2
    show some (_, _, ob s) = _
    rw [k2]
    exact congrArg some (Prod.ext a1 (Prod.ext a2 rfl))
end VI
set_option Elab.async false
set_option linter.all false
set_option maxRecDepth 100000
set_option maxHeartbeats 4000000
namespace VI
open PySem PySem.Spec PyProof.Rows L2
variable {K : PySem.W.Frag} {C : Cf} {F H : Hp} {e e' : Env} {σ : L2.St}
def lstSD : D → Option Rv
  | .str z => if z.length ≤ sizeLine then some (.fresh (signsD z)) else none
  | _ => none
@[simp] theorem lstSD_str {z : Str} : lstSD (.str z) = if z.length ≤ sizeLine then some (.fresh (signsD z)) else none := rfl
end VI
set_option Elab.async false
set_option linter.all false
set_option maxRecDepth 100000
set_option maxHeartbeats 4000000
namespace VI
open PySem PySem.Spec PyProof.Rows L2
def spThr : Sp := fun vs H Q _ => ∃ v t, vs = [v, t] ∧ v ≠ V.non ∧ Q v H
theorem thru_ok {P : Program} {w : World} {K : PySem.W.Frag} {mg : Str → Option Value} {base : Heap} {x qual : Str} {st : Stmt} {f : Addr} {fd : FuncData} {k : Nat} {ss : List Stmt} {p1 p2 p3 p4 p5 p6 : Pos} {j : Nat} {y z : Str}
    (FF : Fun K x qual st f fd) (S : FnScope [y, z] [y, z] (defScope st))
    (hb : defBody st = [.If (.Compare (.Name y p1) [.Is] [.Constant .none j p2] p3) ss [] p4, .Return (some (.Name y p5)) p6])
    (hss : ∃ s1, ss = [s1]) (hv : Vis (defScope st) y) (hd : (y == ("__debug__" : Str)) = false := by decide) (hc : (y == ("__classdict__" : Str)) = false := by decide) : FnG P w K mg base (k + 1) f fd [y, z] spThr := by
  obtain ⟨s1, rfl⟩ := hss
  refine Fun.okG FF S (fun vs H Q E h => by obtain ⟨v, t, rfl, _⟩ := h; rfl) (fun cdv A outer s H vs Q E hr hgd h => ?_)
  obtain ⟨v, t, rfl, hv2, q⟩ := h
  rw [hb]
  refine ⟨_, pss_cons (ps_if (pt_cmpR op_isN (pe_var (i := 0) rfl ?_ hd hc) pe_non (by rfl)) (pss_one ps_never) pss_nil) (pss_one (ps_ret (pe_var (i := 0) rfl ?_ hd hc))), ?_⟩
  · exact hv
  · exact hv
  · exact ⟨v, rfl, rfl, _, rfl, by rw [decide_eq_false hv2]; exact ⟨v, rfl, q⟩⟩
/-- the call -/
def eThr (a : Ev) (i : Nat) : Ev := fun e => (a e).bind fun r e1 => match e1[i]? with
  | some (some (.fz (.str _))) => (match r with
    | .fz d => if isNone d then .no else .ok r e1
    | .fresh _ => .ok r e1
    | .bor _ => .no)
  | _ => .no
theorem rd_thr {w : Wd} {a : Ev} {i : Nat} {E : L2.St → XK} {Q : VK} (h : rdR w (eThr a i) σ H Q) : tCallS spThr E (tCons (rdR w a) (tCons (tVar i) tNil)) σ H Q := by
  obtain ⟨C, F, e, R, P⟩ := h
  refine bindP R P fun F1 H1 e1 r v1 h1 R1 E1 q1 P1 => ?_
  split at P1
  · rename_i z hz
    obtain ⟨u, hu, r2⟩ := R1.sl _ _ hz
    refine ⟨u, hu, v1, u, rfl, ?_, ?_⟩
    · rintro rfl
      split at P1
      · rename_i d
        split at P1
        · exact P1.elim
        · rename_i hn
          cases q1
          exact hn rfl
      · obtain ⟨p, vs, hp, _⟩ := q1
        cases hp
      · exact P1.elim
    · split at P1
      · split at P1
        · exact P1.elim
        · exact P1 v1 F1 H1 R1 (.refl F1) q1
      · exact P1 v1 F1 H1 R1 (.refl F1) q1
      · exact P1.elim
  · exact P1.elim
section
variable {X : Cx} {W : WX} {XR : Hp → Hp → Xc → Value → Option Addr → Prop} {b c : Expr} {ea : Ev} {pos p q : Pos} {x y : Str}
theorem ve_thr {k i : Nat} (d : Defn X.prog X.w X.K X.mg X.base k x 2 spThr) (hr : Room k X.A) (hu : X.A.guards = some []) (hg : Gl X x) (hx : ∀ σ, PassesAt (L2.CX X.prog X.w) X σ (WE W σ))
    (ha : PE X b (rdR (wd X W XR) ea)) (hb : PE X (.Name y q) (tVar i)) (hdb : (x == ("__debug__" : Str)) = false := by decide) (he : starEach [b, .Name y q] X.env = (false, eval b X.env) :: starEach [.Name y q] X.env := by rfl) (he2 : starEach [.Name y q] X.env = (false, eval (.Name y q) X.env) :: starEach [] X.env := by rfl)
    (hpl : (backTo pos (starEach [.Name y q] X.env)).any (·.1) = false := by rfl) :
    PE X (.Call (.Name x p) [b, .Name y q] [] pos) (rdR (wd X W XR) (eThr ea i)) := by
  obtain ⟨f, fd, ps, hm, hk, hb2, hl, F⟩ := d.ex
  exact pe_mono (pe_callG F hr hu hg hm hk hb2 hx (pa_cons ha (pa_cons hb pa_nil he2) he) hdb he hpl) fun _ _ _ h => rd_thr h
end
def kThr (i : Nat) (Q : Po Rv) : Po Rv := fun r e1 => match e1[i]? with
  | some (some (.fz (.str _))) => (match r with
    | .fz d => if isNone d then False else Q r e1
    | .fresh _ => Q r e1
    | .bor _ => False)
  | _ => False
@[simp] theorem ok_thr {a : Ev} {i : Nat} {Q : Po Rv} : Ok (eThr a i e) Q = Ok (a e) (kThr i Q) := by
  show Ok ((a e).bind _) Q = _
  rw [ok_bind]
  congr 1
  funext r e1
  unfold kThr
  split
  · split
    · split <;> rfl
    · rfl
    · rfl
  · rfl
end VI
set_option Elab.async false
set_option linter.all false
set_option maxRecDepth 100000
set_option maxHeartbeats 4000000
namespace VI
open PySem PySem.Spec PyProof.Rows L2
section
variable {e : Env} {i j n : Nat} {d x y : D} {ds xs : List D} {r : Rv} {a b c : Ev} {t u : OT} {ts us : List OT} {p : Nv} {f : FM} {z : Bool} {k : Int}
@[simp] theorem flat_fz : OT.flat (.fz d) = true := by unfold OT.flat; rfl
@[simp] theorem flat_lst : OT.flat (.lst ts) = OT.flatL ts := by rw [OT.flat]
@[simp] theorem flatL_nil : OT.flatL [] = true := by rw [OT.flatL]
@[simp] theorem flatL_cons : OT.flatL (t :: ts) = (t.flat && OT.flatL ts) := by rw [OT.flatL]
@[simp] theorem flatL_map : OT.flatL (ds.map OT.fz) = true := flatL_fz ds
@[simp] theorem d_fz : OT.d (.fz d) = d := by unfold OT.d; rfl
@[simp] theorem d_lst : OT.d (.lst ts) = .list (OT.ds ts) := by rw [OT.d]
@[simp] theorem ds_nil : OT.ds [] = [] := by rw [OT.ds]
@[simp] theorem ds_cons : OT.ds (t :: ts) = t.d :: OT.ds ts := by rw [OT.ds]
@[simp] theorem ds_mapfz : OT.ds (ds.map OT.fz) = ds := ds_fz ds
@[simp] theorem lend1_lst : lend1 (some (.tr z (.lst ts))) = if OT.flatL ts then some (.fz (.list (OT.ds ts))) else none := by
  unfold lend1 Sv.d
  simp only [Option.bind_some, flat_lst, d_lst]
  split <;> rfl
@[simp] theorem isLT_T : isLT (some (some (.tr z (.lst ts)))) = true := rfl
@[simp] theorem kids_T : kids (some (some (.tr z (.lst ts)))) = some ts := rfl
def kid1 : OT → Option (List D)
  | .lst us => allFz us
  | _ => none
@[simp] theorem kid1_lst : kid1 (.lst us) = allFz us := rfl
@[simp] theorem kidL_T : kidL (some (some (.tr z (.lst ts)))) j = (ts[j]?).bind kid1 := by
  unfold kidL
  rw [kids_T]
  simp only
  cases ts[j]? with
  | none => rfl
  | some t => cases t <;> rfl
def setKidO (o : Option (Option Sv)) (e : Env) (i j : Nat) (t : OT) : Env := match o with
  | some (some (.tr b (.lst ts))) => e.set i (some (.tr b (.lst (ts.set j t))))
  | _ => e
@[simp] theorem setKidO_T : setKidO (some (some (.tr z (.lst ts)))) e i j t = e.set i (some (.tr z (.lst (ts.set j t)))) := rfl
@[simp] theorem setKid_O : setKid e i j t = setKidO e[i]? e i j t := rfl
def okIA (o : Option (Option Sv)) (r : Rv) (e : Env) (Q : Po Nat) : Prop := match calmR r, kids o with
  | .fz (.int k), some ts => okO (ixN ts.length k) e Q
  | _, _ => False
@[simp] theorem okIA_T {Q : Po Nat} : okIA (some (some (.tr z (.lst ts)))) (.fz (.int k)) e Q = okO (ixN ts.length k) e Q := rfl
def kIA (i : Nat) (Q : Po Nat) : Po Rv := fun r e => okIA e[i]? r e Q
@[simp] theorem kIA_eq {Q : Po Nat} : kIA i Q r e = okIA e[i]? r e Q := rfl
@[simp] theorem ok_ixAt {Q : Po Nat} : Ok (ixAt i a e) Q = (isLT e[i]? = true ∧ Ok (a e) (kIA i Q)) := by
  unfold ixAt
  rw [ok_ifd, ok_bind, ok_opd]
  congr 2
  funext r e1
  show Ok (match calmR r, kids e1[i]? with | .fz (.int k), some ts => ofO (ixN ts.length k) e1 | _, _ => (.no : Rs Nat)) Q = okIA e1[i]? r e1 Q
  unfold okIA
  split
  · rw [ok_ofO]
  · rfl
def kMA (f : FM) (i : Nat) (ds : List D) (Q : Po Rv) : Po Nat := fun j e => okO (kidL e[i]? j) e fun xs e => okO (f xs ds) e fun q e => Q (.fz q.1) (setKid e i j (.lst (q.2.map OT.fz)))
@[simp] theorem kMA_eq {Q : Po Rv} : kMA f i ds Q j e = okO (kidL e[i]? j) e fun xs e => okO (f xs ds) e fun q e => Q (.fz q.1) (setKid e i j (.lst (q.2.map OT.fz))) := rfl
@[simp] theorem ok_MAt {Q : Po Rv} : Ok (eMAt f i a ds e) Q = Ok (ixAt i a e) (kMA f i ds Q) := by
  unfold eMAt
  rw [ok_bind]
  congr 1
  funext j e1
  show Ok (match kidL e1[i]? j with | none => (.no : Rs Rv) | some xs => match f xs ds with | none => .no | some (z, xs') => .ok (.fz z) (setKid e1 i j (.lst (xs'.map OT.fz)))) Q = okO (kidL e1[i]? j) e1 _
  cases kidL e1[i]? j with
  | none => rfl
  | some xs =>
    show Ok (match f xs ds with | none => (.no : Rs Rv) | some (z, xs') => .ok (.fz z) (setKid e1 i j (.lst (xs'.map OT.fz)))) Q = okO (f xs ds) e1 fun q e => Q (.fz q.1) (setKid e i j (.lst (q.2.map OT.fz)))
    cases f xs ds with
    | none => rfl
    | some q => rfl
def okCat (o : Option (Option Sv)) (i : Nat) (us : List OT) (e : Env) (Q : Po Fl) : Prop := match o with
  | some (some (.tr false (.lst ts))) => (ts.length + us.length ≤ sizeLine ∧ us.length ≤ sizeLine) ∧ Q .nx (e.set i (some (.tr false (.lst (ts ++ us)))))
  | _ => False
@[simp] theorem okCat_T {Q : Po Fl} : okCat (some (some (.tr false (.lst ts)))) i us e Q = ((ts.length + us.length ≤ sizeLine ∧ us.length ≤ sizeLine) ∧ Q .nx (e.set i (some (.tr false (.lst (ts ++ us)))))) := rfl
def kCat (i : Nat) (Q : Po Fl) : Po (List OT) := fun us e => okCat e[i]? i us e Q
@[simp] theorem kCat_eq {Q : Po Fl} : kCat i Q us e = okCat e[i]? i us e Q := rfl
@[simp] theorem ok_cat {q : Sem1 (List OT)} {Q : Po Fl} : Ok (catS i q e) Q = (isLT e[i]? = true ∧ Ok (q e) (kCat i Q)) := by
  unfold catS
  rw [ok_ifd, ok_bind]
  congr 2
  funext us e1
  show Ok (match e1[i]? with | some (some (.tr false (.lst ts))) => if ts.length + us.length ≤ sizeLine ∧ us.length ≤ sizeLine then .ok .nx (e1.set i (some (.tr false (.lst (ts ++ us))))) else .no | _ => (.no : Rs Fl)) Q = okCat e1[i]? i us e1 Q
  unfold okCat
  split
  · rename_i ts ht
    by_cases hl : ts.length + us.length ≤ sizeLine ∧ us.length ≤ sizeLine
    · rw [if_pos hl]; simp [hl, -szE]
    · rw [if_neg hl]; simp [hl, -szE]
  · rfl
end
end VI
namespace VI
open PySem PySem.Spec PyProof.Rows L2
theorem u1 {k : Nat} {A : Around} (hr : Room k A) : A.units + 1 < cLine := Nat.lt_of_le_of_lt (by omega) (u65 hr)
end VI
set_option Elab.async false
set_option linter.all false
set_option maxRecDepth 100000
set_option maxHeartbeats 8000000
namespace G
open PySem PySem.Spec PyProof.Rows L2 VI
def b_law_folded : St1 := (block [(asgS 2 (orL (eB (on1 lstD) (opds [(slE (eV 0) none (some (eV 1)))])) (eLst (toDs [(eC (.int 0))])))), (forS (enumE (slE (eV 0) (some (eV 1)) (some (eC (.int 63))))) (tgT [(tgV 3), (tgV 4)]) (block [(setS 2 (bin2 modD (eV 3) (eV 1)) (bin2 addD (bin2 ixD (eV 2) (bin2 modD (eV 3) (eV 1))) (bin2 mulD (eV 4) (bin2 addD (eV 3) (eC (.int 2))))))])), (retS (eV 2))])
def m_law_folded : List D → Option Ret := fnF b_law_folded 5
def b_law_stream : St1 := (block [(asgS 2 (eC (.int 0))), (ifS (tst (bin2 ltD (eV 1) (eB (on1 lenD) (opds [(eV 0)])))) (block [(asgS 2 (bin2 ixD (eV 0) (eV 1)))]) (block [])), (retS (eLst (toDs [(bin2 mulD (eB (on1 absD) (opds [(eV 2)])) (eB (on1 intD) (opds [(bin2 geD (eB (on1 absD) (opds [(eV 2)])) (bin2 powD (eC (.int 10)) (eC (.int 18))))]))), (bin2 addD (bin2 addD (bin2 modD (eV 2) (eC (.int 2305843009213693951))) (bin2 mulD (eC (.int 39373)) (eV 1))) (eC (.int 29))), (eC (.int 0))])))])
def m_law_stream : List D → Option Ret := fnF b_law_stream 3
def b_law_draw_v2 (self_law_draw_v2 : List D → List D → Option (Ret × List D)) : St1 := (block [(ifS (tst (bin2 gtD (bin2 ixD (eV 0) (eC (.int 0))) (eC (.int 0)))) (block [(asgS 4 (bin2 modD (bin2 ixD (eV 0) (eC (.int 0))) (eV 1))), (setS 0 (eC (.int 0)) (bin2 divD (bin2 ixD (eV 0) (eC (.int 0))) (eV 1))), (retS (eV 4))]) (block [])), (ifS (tst (bin2 gtD (eV 1) (bin2 powD (eC (.int 10)) (eC (.int 7))))) (block [(retS (bin2 modD (bin2 addD (eI self_law_draw_v2 0 (toDs [(bin2 powD (eC (.int 10)) (eC (.int 7)))])) (bin2 mulD (bin2 powD (eC (.int 10)) (eC (.int 7))) (eI self_law_draw_v2 0 (toDs [(bin2 addD (bin2 divD (bin2 subD (eV 1) (eC (.int 1))) (bin2 powD (eC (.int 10)) (eC (.int 7)))) (eC (.int 1)))])))) (eV 1)))]) (block [])), (setS 0 (eC (.int 2)) (bin2 addD (bin2 ixD (eV 0) (eC (.int 2))) (eC (.int 1)))), (asgS 2 (bin2 modD (bin2 mulD (bin2 addD (bin2 ixD (eV 0) (eC (.int 1))) (bin2 mulD (eC (.int 48271)) (bin2 ixD (eV 0) (eC (.int 2))))) (bin2 addD (eC (.int 39373)) (bin2 ixD (eV 0) (eC (.int 2))))) (eC (.int 2147483647)))), (asgS 3 (bin2 modD (bin2 mulD (bin2 addD (bin2 addD (eV 2) (bin2 ixD (eV 0) (eC (.int 2)))) (bin2 divD (bin2 ixD (eV 0) (eC (.int 1))) (eC (.int 1000003)))) (bin2 addD (bin2 modD (eV 2) (eC (.int 40009))) (eC (.int 7)))) (eC (.int 2147483629)))), (retS (bin2 modD (bin2 divD (bin2 modD (bin2 addD (bin2 mulD (eV 3) (eC (.int 48271))) (eV 2)) (eC (.int 2147483587))) (eC (.int 64))) (eV 1)))])
def r_law_draw_v2 : Nat → List D → List D → Option (Ret × List D)
  | 0 => fun _ _ => none
  | d + 1 => fnI (b_law_draw_v2 (r_law_draw_v2 d)) 5
def m_law_draw_v2 : List D → List D → Option (Ret × List D) := r_law_draw_v2 60
def b_law_pick_v3 : St1 := (block [(retS (bin2 ixD (eV 1) (eI m_law_draw_v2 0 (toDs [(eB (on1 lenD) (opds [(eV 1)]))]))))])
def m_law_pick_v3 : List D → List D → Option (Ret × List D) := fnI b_law_pick_v3 2
def b_law_same_v3 (self_law_same_v3 : List D → Option Ret) : St1 := (block [(ifS (tst (un1 (isD [isLstB, isTupB]) (eV 1))) (block [(ifS (orT (tst (bin2 neD (un1 (isD [isLstB]) (eV 0)) (un1 (isD [isLstB]) (eV 1)))) (tst (bin2 neD (un1 (isD [isTupB]) (eV 0)) (un1 (isD [isTupB]) (eV 1))))) (block [(retS (eC (.bool false)))]) (block [])), (retS (andV (bin2 eqD (eB (on1 lenD) (opds [(eV 0)])) (eB (on1 lenD) (opds [(eV 1)]))) (eB (on1 allD) (opds [(lcS (zipE (eV 0) (eV 1)) (tgT [(tgV 2), (tgV 3)]) yesT (eF self_law_same_v3 (toDs [(eV 2), (eV 3)])) [2, 3])]))))]) (block [])), (ifS (orT (tst (bin2 isND (eV 1) (eC .none))) (tst (un1 (isD [isBoolB, isStrB]) (eV 1)))) (block [(retS (andV (bin2 eqD (eV 0) (eV 1)) (andV (bin2 eqD (un1 (isD [isBoolB]) (eV 0)) (un1 (isD [isBoolB]) (eV 1))) (bin2 eqD (bin2 isND (eV 0) (eC .none)) (bin2 isND (eV 1) (eC .none))))))]) (block [])), (retS (andV (un1 (isD [isIntB]) (eV 0)) (andV (notV (un1 (isD [isBoolB]) (eV 0))) (bin2 eqD (eV 0) (eV 1)))))])
def r_law_same_v3 : Nat → List D → Option Ret
  | 0 => fun _ => none
  | d + 1 => fnF (b_law_same_v3 (r_law_same_v3 d)) 4
def m_law_same_v3 : List D → Option Ret := r_law_same_v3 60
def b_law_joined_v3 : St1 := (block [(retS (iteV (tst (bin2 neD (eV 0) (eLst (toDs [])))) (eS1 joinD (eC (.str " ")) (eV 0)) (eC (.str "-"))))])
def m_law_joined_v3 : List D → Option Ret := fnF b_law_joined_v3 1
def b_joined_text : St1 := (block [(retS (iteV (tst (bin2 gtD (eB (on1 lenD) (opds [(eV 0)])) (eC (.int 0)))) (eS1 joinD (eC (.str " ")) (eV 0)) (eC (.str "-"))))])
def m_joined_text : List D → Option Ret := fnF b_joined_text 1
def b_row_text : St1 := (block [(retS (eF m_joined_text (toDs [(lcS (srcE (eV 0)) (tgV 1) yesT (eB (on1 strD) (opds [(eV 1)])) [1])])))])
def m_row_text : List D → Option Ret := fnF b_row_text 2
def b_steps_text : St1 := (block [(retS (eF m_joined_text (toDs [(lcS (srcE (eV 0)) (tgT [(tgV 1), (tgV 2)]) yesT (bin2 addD (un1 (ixTb [("join", "j"), ("split", "s")]) (eV 1)) (eB (on1 strD) (opds [(eV 2)]))) [1, 2])])))])
def m_steps_text : List D → Option Ret := fnF b_steps_text 3
def b_blocks_text : St1 := (block [(retS (eF m_joined_text (toDs [(lcS (srcE (eV 0)) (tgT [(tgV 1), (tgV 2)]) yesT (bin2 addD (bin2 addD (eB (on1 strD) (opds [(eV 1)])) (eC (.str "x"))) (eB (on1 strD) (opds [(eV 2)]))) [1, 2])])))])
def m_blocks_text : List D → Option Ret := fnF b_blocks_text 3
def b_number_in : St1 := (block [(ifS (orT (notT (tst (chain2 leD leD (eC (.int 1)) (eB (on1 lenD) (opds [(eV 0)])) (eC (.int (50)))))) (notT (tst (eB (on1 allD) (opds [(lcS (srcSt (eV 0)) (tgV 1) yesT (bin2 inSg (eV 1) (eC (.str "0123456789"))) [1])]))))) (block [(retS (eC .none))]) (block [])), (retS (iteV (orT (tst (bin2 eqD (eV 0) (eC (.str "0")))) (tst (bin2 neD (bin2 ixD (eV 0) (eC (.int 0))) (eC (.str "0"))))) (eB (on1 intSD) (opds [(eV 0)])) (eC .none)))])
def m_number_in : List D → Option Ret := fnF b_number_in 2
def b_numbers_in : St1 := (block [(asgS 1 (lcS (srcE (eV 0)) (tgV 2) yesT (eF m_number_in (toDs [(eV 2)])) [2])), (retS (iteV (tst (bin2 inD (eC .none) (eV 1))) (eC .none) (eV 1)))])
def m_numbers_in : List D → Option Ret := fnF b_numbers_in 3
def b_words_of : St1 := (block [(retS (iteV (tst (bin2 eqD (eV 0) (eC (.str "-")))) (eLst (toDs [])) (eS1 splD (eV 0) (eC (.str " ")))))])
def m_words_of : List D → Option Ret := fnF b_words_of 1
def b_is_integer : St1 := (block [(retS (andV (un1 (isD [isIntB]) (eV 0)) (notV (un1 (isD [isBoolB]) (eV 0)))))])
def m_is_integer : List D → Option Ret := fnF b_is_integer 1
def b_is_row : St1 := (block [(retS (andV (un1 (isD [isTupB]) (eV 0)) (eB (on1 allD) (opds [(lcS (srcE (eV 0)) (tgV 1) yesT (andV (eF m_is_integer (toDs [(eV 1)])) (bin2 geD (eV 1) (eC (.int 1)))) [1])]))))])
def m_is_row : List D → Option Ret := fnF b_is_row 2
def b_row_or_none_v2 : St1 := (block [(asgS 1 (eF m_numbers_in (toDs [(eF m_words_of (toDs [(eV 0)]))]))), (retS (iteV (andT (tst (bin2 notND (eV 1) (eC .none))) (tst (eF m_is_row (toDs [(eB (on1 tupD) (opds [(eV 1)]))])))) (eB (on1 tupD) (opds [(eV 1)])) (eC .none)))])
def m_row_or_none_v2 : List D → Option Ret := fnF b_row_or_none_v2 2
def b_row_in_v5 : St1 := (block [(retS (eThr (eF m_row_or_none_v2 (toDs [(eV 0)])) 0))])
def m_row_in_v5 : List D → Option Ret := fnF b_row_in_v5 1
def b_step_in_v2 : St1 := (block [(parS [1, 2] [(un1 (getTs [("j", "join"), ("s", "split")]) (slE (eV 0) none (some (eC (.int 1))))), (eF m_number_in (toDs [(slE (eV 0) (some (eC (.int 1))) none)]))]), (retS (iteV (orT (tst (bin2 isND (eV 1) (eC .none))) (tst (bin2 isND (eV 2) (eC .none)))) (eC .none) (eTup (toDs [(eV 1), (eV 2)]))))])
def m_step_in_v2 : List D → Option Ret := fnF b_step_in_v2 3
def b_steps_or_none_v2 : St1 := (block [(asgS 1 (lcS (srcE (eF m_words_of (toDs [(eV 0)]))) (tgV 2) yesT (eF m_step_in_v2 (toDs [(eV 2)])) [2])), (retS (iteV (tst (bin2 inD (eC .none) (eV 1))) (eC .none) (eV 1)))])
def m_steps_or_none_v2 : List D → Option Ret := fnF b_steps_or_none_v2 3
def b_steps_in_v5 : St1 := (block [(retS (eThr (eF m_steps_or_none_v2 (toDs [(eV 0)])) 0))])
def m_steps_in_v5 : List D → Option Ret := fnF b_steps_in_v5 1
def b_block_in_v2 : St1 := (block [(asgS 1 (eF m_numbers_in (toDs [(eS1 splD (eV 0) (eC (.str "x")))]))), (retS (iteV (andT (tst (bin2 notND (eV 1) (eC .none))) (andT (tst (bin2 eqD (eB (on1 lenD) (opds [(eV 1)])) (eC (.int (2))))) (tst (bin2 notInD (eC (.int 0)) (eV 1))))) (eB (on1 tupD) (opds [(eV 1)])) (eC .none)))])
def m_block_in_v2 : List D → Option Ret := fnF b_block_in_v2 2
def b_blocks_or_none_v2 : St1 := (block [(asgS 1 (lcS (srcE (eF m_words_of (toDs [(eV 0)]))) (tgV 2) yesT (eF m_block_in_v2 (toDs [(eV 2)])) [2])), (ifS (orT (tst (bin2 inD (eC .none) (eV 1))) (tst (eB (on1 anyD) (opds [(lcS (zipE (eV 1) (slE (eV 1) (some (eC (.int 1))) none)) (tgT [(tgV 3), (tgV 4)]) yesT (bin2 eqD (bin2 ixD (eV 3) (eC (.int 0))) (bin2 ixD (eV 4) (eC (.int 0)))) [3, 4])])))) (block [(retS (eC .none))]) (block [])), (retS (eV 1))])
def m_blocks_or_none_v2 : List D → Option Ret := fnF b_blocks_or_none_v2 5
def b_blocks_in_v5 : St1 := (block [(retS (eThr (eF m_blocks_or_none_v2 (toDs [(eV 0)])) 0))])
def m_blocks_in_v5 : List D → Option Ret := fnF b_blocks_in_v5 1
def b_law_lists (self_law_lists : List D → Option Ret) : St1 := (block [(retS (iteV (tst (un1 (isD [isLstB, isTupB]) (eV 0))) (lcS (srcE (eV 0)) (tgV 1) yesT (eF self_law_lists (toDs [(eV 1)])) [1]) (eV 0)))])
def r_law_lists : Nat → List D → Option Ret
  | 0 => fun _ => none
  | d + 1 => fnF (b_law_lists (r_law_lists d)) 2
def m_law_lists : List D → Option Ret := r_law_lists 60
def b_law_right_v96 : St1 := (block [(asgS 1 (eI m_law_pick_v3 0 (toDs [(eLst (toDs [(eC (.int 9)), (bin2 powD (eC (.int 10)) (eC (.int 6))), (bin2 powD (eC (.int 10)) (eC (.int 40)))]))]))), (asgS 2 (eB (on1 tupD) (opds [(lcS (rng1 (eI m_law_draw_v2 0 (toDs [(eC (.int 13))]))) (tgV 3) yesT (bin2 addD (eC (.int 1)) (eI m_law_draw_v2 0 (toDs [(eV 1)]))) [3])]))), (parS [8, 9] [(eLst (toDs [])), (eLst (toDs []))]), (forS (rng1 (eI m_law_draw_v2 0 (toDs [(eC (.int 20))]))) (tgV 3) (block [(exprS (eM fmApp 8 (toDs [(eTup (toDs [(eI m_law_pick_v3 0 (toDs [(eLst (toDs [(eC (.str "join")), (eC (.str "split"))]))])), (eI m_law_draw_v2 0 (toDs [(eI m_law_pick_v3 0 (toDs [(eLst (toDs [(eC (.int 12)), (bin2 powD (eC (.int 10)) (eC (.int 9)))]))]))]))]))])))])), (forS (rng1 (eI m_law_draw_v2 0 (toDs [(eC (.int 6))]))) (tgV 3) (block [(asgS 10 (bin2 addD (eC (.int 1)) (eI m_law_draw_v2 0 (toDs [(eV 1)])))), (ifS (orT (tst (bin2 eqD (eV 9) (eLst (toDs [])))) (tst (bin2 neD (bin2 ixD (bin2 ixD (eV 9) (un1 negD (eC (.int 1)))) (eC (.int 0))) (eV 10)))) (block [(exprS (eM fmApp 9 (toDs [(eTup (toDs [(eV 10), (bin2 addD (eC (.int 1)) (eI m_law_draw_v2 0 (toDs [(eI m_law_pick_v3 0 (toDs [(eLst (toDs [(eC (.int 3)), (bin2 powD (eC (.int 10)) (eC (.int 30)))]))]))])))]))])))]) (block []))])), (asgS 4 (eLst (toDs [(eF m_law_joined_v3 (toDs [(lcS (srcE (eV 2)) (tgV 10) yesT (eB (on1 strD) (opds [(eV 10)])) [10])])), (eF m_law_joined_v3 (toDs [(lcS (srcE (eV 8)) (tgT [(tgV 11), (tgV 12)]) yesT (bin2 addD (bin2 ixD (eV 11) (eC (.int 0))) (eB (on1 strD) (opds [(eV 12)]))) [11, 12])]))]))), (exprS (eM fmApp 4 (toDs [(eF m_law_joined_v3 (toDs [(lcS (srcE (eV 9)) (tgT [(tgV 10), (tgV 13)]) yesT (bin2 addD (bin2 addD (eB (on1 strD) (opds [(eV 10)])) (eC (.str "x"))) (eB (on1 strD) (opds [(eV 13)]))) [10, 13])]))]))), (asgN 5 (nLst (news [(nv (eF m_row_text (toDs [(eV 2)]))), (nv (eF m_steps_text (toDs [(eV 8)]))), (nv (eF m_blocks_text (toDs [(eV 9)])))]))), (asgN 5 (nv (bin2 addD (eVL 5) (eLst (toDs [(eFK m_row_text [0] 1 (toDs [(eB (on1 lstD) (opds [(eV 2)]))])), (eFK m_steps_text [0] 1 (toDs [(eB (on1 tupD) (opds [(eV 8)]))]))]))))), (exprS (eM fmApp 5 (toDs [(eFK m_blocks_text [0] 1 (toDs [(eF m_law_lists (toDs [(eV 9)]))]))]))), (ifS (notT (lentT (tst (eF m_law_same_v3 (toDs [(eV 5), (bin2 addD (eV 4) (eV 4))]))))) (block [(retS (eC (.bool false)))]) (block [])), (asgN 5 (nLst (news [(nv (eF m_row_in_v5 (toDs [(bin2 ixD (eV 4) (eC (.int 0)))]))), (nv (eF m_steps_in_v5 (toDs [(bin2 ixD (eV 4) (eC (.int 1)))]))), (nv (eF m_blocks_in_v5 (toDs [(bin2 ixD (eV 4) (eC (.int 2)))])))]))), (ifS (notT (lentT (tst (eF m_law_same_v3 (toDs [(eV 5), (eLst (toDs [(eV 2), (eV 8), (eV 9)]))]))))) (block [(retS (eC (.bool false)))]) (block [])), (exprS (eMAt fmApp 5 (eC (.int 1)) [.str "more"])), (exprS (eMAt fmRev 5 (eC (.int 2)) [])), (ifS (notT (tst (eF m_law_same_v3 (toDs [(eLst (toDs [(eFK m_row_in_v5 [0] 1 (toDs [(bin2 ixD (eV 4) (eC (.int 0)))])), (eFK m_steps_in_v5 [0] 1 (toDs [(bin2 ixD (eV 4) (eC (.int 1)))])), (eFK m_blocks_in_v5 [0] 1 (toDs [(bin2 ixD (eV 4) (eC (.int 2)))]))])), (eLst (toDs [(eV 2), (eV 8), (eV 9)]))])))) (block [(retS (eC (.bool false)))]) (block [])), (asgS 6 (eB (on1 tupD) (opds [(lcS (rng1 (bin2 addD (eC (.int 17)) (eI m_law_draw_v2 0 (toDs [(eC (.int 44))])))) (tgV 3) yesT (bin2 addD (eC (.int 1)) (eI m_law_draw_v2 0 (toDs [(eC (.int 99))]))) [3])]))), (asgS 7 (lcS (srcE (eV 6)) (tgV 10) yesT (eB (on1 strD) (opds [(eV 10)])) [10])), (asgN 5 (nLst (news [(nv (eF m_row_in_v5 (toDs [(eS1 joinD (eC (.str " ")) (eV 7))]))), (nv (eF m_steps_in_v5 (toDs [(bin2 addD (eC (.str "s")) (eS1 joinD (eC (.str " s")) (eV 7)))]))), (nv (eF m_row_text (toDs [(eTup (toDs []))]))), (nv (eF m_row_in_v5 (toDs [(eC (.str "-"))]))), (nv (eF m_blocks_in_v5 (toDs [(eC (.str "-"))])))]))), (retS (lentE (eF m_law_same_v3 (toDs [(eV 5), (eLst (toDs [(eV 6), (lcS (srcE (eV 6)) (tgV 10) yesT (eTup (toDs [(eC (.str "split")), (eV 10)])) [10]), (eC (.str "-")), (eTup (toDs [])), (eLst (toDs []))]))]))))])
def m_law_right_v96 : List D → List D → Option (Ret × List D) := fnI b_law_right_v96 14
def b_law_v97 : St1 := (block [(asgS 1 (eF m_law_folded (toDs [(eV 0), (eC (.int 3))]))), (forS (rng1 (eB (on1 lenD) (opds [(eV 1)]))) (tgV 2) (block [(asgS 3 (eF m_law_stream (toDs [(eV 1), (eV 2)]))), (ifS (notT (tst (eB (on1 allD) (opds [(lcS (rng1 (eC (.int 2))) (tgV 4) yesT (eI m_law_right_v96 3 (toDs [])) [4])])))) (block [(retS (eC (.bool false)))]) (block []))])), (retS (eC (.bool true)))])
def m_law_v97 : List D → Option Ret := fnF b_law_v97 5
end G
set_option Elab.async false
set_option linter.all false
set_option maxRecDepth 100000
set_option maxHeartbeats 8000000
namespace G
open PySem PySem.Spec PyProof.Rows L2 VI
end G
set_option Elab.async false
set_option linter.all false
set_option maxRecDepth 100000
set_option maxHeartbeats 4000000
namespace VI
open PySem PySem.Spec PyProof.Rows L2
def kCut (J : Env → Prop) (Q : Po Fl) : Po Fl := fun w e => match w with
  | .nx => J e
  | .ret r => Q (.ret r) e
  | .bk => Q .bk e
  | .ct => Q .ct e
@[simp] theorem kCut_nx {J : Env → Prop} {Q : Po Fl} {e : Env} : kCut J Q .nx e = J e := rfl
@[simp] theorem kCut_ret {J : Env → Prop} {Q : Po Fl} {e : Env} {r : Rv} : kCut J Q (.ret r) e = Q (.ret r) e := rfl
@[simp] theorem kCut_bk {J : Env → Prop} {Q : Po Fl} {e : Env} : kCut J Q .bk e = Q .bk e := rfl
@[simp] theorem kCut_ct {J : Env → Prop} {Q : Po Fl} {e : Env} : kCut J Q .ct e = Q .ct e := rfl
theorem block_app {l2 : List St1} {Q : Po Fl} : ∀ {l1 : List St1} {e : Env}, Ok (block l1 e) (kSeq (block l2) Q) → Ok (block (l1 ++ l2) e) Q
  | [], e, h => by simpa using h
  | [p], e, h => by
    cases l2 with
    | nil =>
      simp only [List.append_nil, ok_blk1] at *
      refine h.mono fun w e' q => ?_
      cases w <;> simpa using q
    | cons q l2 => simpa using h
  | p :: q :: l1, e, h => by
    show Ok (block (p :: q :: (l1 ++ l2)) e) Q
    rw [ok_blk] at *
    refine h.mono fun w e' k => ?_
    cases w with
    | nx => simpa using block_app (l1 := q :: l1) (by simpa using k)
    | bk => simpa using k
    | ct => simpa using k
    | ret r => simpa using k
theorem block_cut (k : Nat) (J : Env → Prop) {l : List St1} {e : Env} {Q : Po Fl} (h1 : Ok (block (l.take k) e) (kCut J Q)) (h2 : ∀ e', J e' → Ok (block (l.drop k) e') Q) : Ok (block l e) Q := by
  rw [← List.take_append_drop k l]
  refine block_app (h1.mono fun w e' q => ?_)
  cases w with
  | nx => simpa using h2 e' q
  | bk => simpa using q
  | ct => simpa using q
  | ret r => simpa using q
end VI
set_option Elab.async false
set_option linter.all false
set_option maxRecDepth 100000
set_option maxHeartbeats 4000000
namespace VI
open PySem PySem.Spec PyProof.Rows L2
theorem block_cutB (k : Nat) (J : Env → Prop) {l : List St1} {body : St1} (hB : block l = body) {e : Env} {Q : Po Fl} (h1 : ∀ b1, block (l.take k) = b1 → Ok (b1 e) (kCut J Q)) (h2 : ∀ b2, block (l.drop k) = b2 → ∀ e', J e' → Ok (b2 e') Q) : Ok (body e) Q := by
  subst hB
  exact block_cut k J (h1 _ rfl) (h2 _ rfl)
end VI
set_option Elab.async false
set_option linter.all false
set_option maxRecDepth 100000
set_option maxHeartbeats 4000000
namespace G
open PySem PySem.Spec PyProof.Rows L2 VI Builtin.Int
def isDg (l : List Nat) : Bool := l.all fun c => decide (48 ≤ c) && decide (c ≤ 57)
def numS (z : Str) : Option Nat := if 1 ≤ z.length ∧ z.length ≤ 50 ∧ isDg (TL.tl z) = true ∧ (z = "0" ∨ (TL.tl z).head? ≠ some 48) then some (NumText.digitsVal (TL.tl z)) else none
def numD (z : Str) : D := match numS z with
  | some n => .int (n : Int)
  | none => .none
theorem tl_dig : TL.tl ("0123456789" : Str) = [48, 49, 50, 51, 52, 53, 54, 55, 56, 57] := by decide +kernel
theorem tl_zero : TL.tl ("0" : Str) = [48] := by decide +kernel
theorem sg_dig (c : Nat) : inSg (.str (mkS [c])) (.str "0123456789") = some (.fz (.bool (decide (48 ≤ c) && decide (c ≤ 57)))) := by
  unfold inSg
  simp only [tl_mkS]
  rw [tl_dig]
  congr 3
  rw [Bool.eq_iff_iff]
  simp only [decide_eq_true_eq, Bool.and_eq_true, List.mem_cons, List.not_mem_nil, or_false]
  omega
theorem ix_zero {z : Str} {c : Nat} {r : List Nat} (h : TL.tl z = c :: r) (hz : z.length ≤ 16777216) : ixD (.str z) (.int 0) = some (.fz (.str (mkS [c]))) := by
  show (if z.length ≤ sizeLine then (atI z.cps.toList 0).map fun c => Rv.fz (PyData.str ⟨#[c]⟩) else none) = _
  rw [sizeLine_eq, if_pos hz]
  have : z.cps.toList = c :: r := h
  have h0 : atI (c :: r) 0 = some c := by unfold atI ixN; simp
  rw [this, h0]
  rfl
theorem mk1_eq (c : Nat) : (mkS [c] == ("0" : Str)) = decide (c = 48) := by
  by_cases h : c = 48
  · subst h; decide +kernel
  · rw [decide_eq_false h]
    refine beq_eq_false_iff_ne.mpr fun q => h ?_
    have := congrArg TL.tl q
    rw [tl_mkS, tl_zero] at this
    simpa using this
theorem int_digits {z : Str} (h : isDg (TL.tl z) = true) (h1 : 1 ≤ z.length) (h2 : z.length ≤ 640) : intSD (.str z) = some (.fz (.int ((NumText.digitsVal (TL.tl z) : Nat) : Int))) := by
  have ha : NumText.AllDigits z.cps.toList := fun c hc => by
    have := List.all_eq_true.mp h c hc
    simpa using this
  have hn : z.cps.toList ≠ [] := fun q => by
    have : z.length = 0 := by rw [TL.len_tl]; show z.cps.toList.length = 0; rw [q]; rfl
    omega
  have := intText_digits ha hn (by omega)
  show (if z.length ≤ 640 then (PySem.intText? z).map fun n => Rv.fz (PyData.int n) else none) = _
  rw [if_pos h2, this]
  rfl
abbrev digB : Ev := (eB (on1 allD) (opds [(lcS (srcSt (eV 0)) (tgV 1) yesT (bin2 inSg (eV 1) (eC (.str "0123456789"))) [1])]))
theorem digB_ok {z : Str} (hz : z.length ≤ 16777216) {Q : Po Rv} (h : Q (.fz (.bool (isDg (TL.tl z)))) [some (.fz (.str z)), none]) : Ok (digB [some (.fz (.str z)), none]) Q := by
  simp -implicitDefEqProofs
  refine lcM_ok (fun d => match d with | .str s => .bool (isDg (TL.tl s)) | _ => .none) (by show (signsD z).length ≤ sizeLine; unfold signsD; rw [List.length_map, ← TL.len_tl, sizeLine_eq]; exact hz) (by simp [tgV]) ?_ ?_
  · intro d hd
    obtain ⟨c, hc, rfl⟩ := List.mem_map.mp (show d ∈ signsD z from hd)
    refine ⟨_, rfl, ?_⟩
    simp -implicitDefEqProofs [sg_dig, isDg, wipeE]
  · have e : ((signsD z).map fun d => match d with | .str s => PyData.bool (isDg (TL.tl s)) | _ => .none) = ((TL.tl z).map fun c => decide (48 ≤ c) && decide (c ≤ 57)).map PyData.bool := by
      unfold signsD
      rw [List.map_map, List.map_map]
      refine List.map_congr_left fun c _ => ?_
      show PyData.bool (isDg (TL.tl (mkS [c]))) = _
      rw [tl_mkS]
      simp [isDg]
    show kOpd _ (.fresh ((signsD z).map _)) _
    rw [e]
    have ha := allD_map (bs := (TL.tl z).map fun c => decide (48 ≤ c) && decide (c ≤ 57))
    have e2 : ((TL.tl z).map fun c => decide (48 ≤ c) && decide (c ≤ 57)).all id = isDg (TL.tl z) := by unfold isDg; rw [List.all_map]; rfl
    rw [e2, List.map_map] at ha
    simp -implicitDefEqProofs [ha]
    exact h
theorem number_ok {z : Str} (hz : z.length ≤ 16777216) : m_number_in [.str z] = some (.ok (.fz (numD z))) := by
  refine fnF_is ?_
  have key := @digB_ok z hz
  generalize hB : digB = B at key
  have e1 : (eB (on1 allD) (opds [(lcS (srcSt (eV 0)) (tgV 1) yesT (bin2 inSg (eV 1) (eC (.str "0123456789"))) [1])])) = B := hB
  have hL : lenD (.str z) = some (.fz (.int z.length)) := by show (if z.length ≤ sizeLine then some (Rv.fz (PyData.int z.length)) else none) = _; rw [sizeLine_eq, if_pos hz]
  unfold b_number_in
  rw [e1]
  unfold numD numS
  by_cases h1 : 1 ≤ z.length
  · by_cases h2 : z.length ≤ 50
    · have g1 : (1 : Int) ≤ (z.length : Int) := by omega
      have g2 : (z.length : Int) ≤ 50 := by omega
      obtain ⟨c, r, hcr⟩ : ∃ c r, TL.tl z = c :: r := by
        cases h : TL.tl z with
        | nil => rw [TL.len_tl, h] at h1; simp at h1
        | cons c r => exact ⟨c, r, rfl⟩
      have hx := ix_zero hcr hz
      have hm := mk1_eq c
      simp -implicitDefEqProofs [hL, g1, g2, h1, h2]
      refine key ?_
      cases hd : isDg (TL.tl z) with
      | false => simp -implicitDefEqProofs
      | true =>
        have hi := int_digits hd h1 (by omega)
        by_cases h0 : z = "0"
        · subst h0
          simp -implicitDefEqProofs [hi]
        · have hb0 : (z == ("0" : Str)) = false := beq_eq_false_iff_ne.mpr h0
          have hh : (TL.tl z).head? = some c := by rw [hcr]; rfl
          by_cases hc : c = 48
          · subst hc
            simp -implicitDefEqProofs [hb0, hx, hm, hi, hh, h0]
          · simp -implicitDefEqProofs [hb0, hx, hm, hi, hh, hc, h0]
    · have g2 : ¬ (z.length : Int) ≤ 50 := by omega
      simp -implicitDefEqProofs [hL, h1, h2, g2]
  · have g1 : ¬ (1 : Int) ≤ (z.length : Int) := by omega
    simp -implicitDefEqProofs [hL, h1, g1]
end G
set_option Elab.async false
set_option linter.all false
set_option maxRecDepth 100000
set_option maxHeartbeats 4000000
namespace G
open PySem PySem.Spec PyProof.Rows L2 VI Builtin.Int
theorem spl_le (S : List Nat) : ∀ (l : List Nat) (k : Nat) (acc : List Nat), (TL.spl S k acc l).length ≤ l.length + 1 ∧ ∀ p ∈ TL.spl S k acc l, p.length ≤ acc.length + l.length ∧ ∀ c ∈ p, c ∈ acc ∨ c ∈ l
  | [], k, acc => by
    rw [TL.spl_nil]
    exact ⟨Nat.le_refl _, fun p hp => by rw [List.mem_singleton.mp hp]; exact ⟨by simp, fun c hc => .inl hc⟩⟩
  | c :: r, 0, acc => by
    cases h : TL.pre S (c :: r) with
    | true =>
      rw [TL.spl_hit h]
      obtain ⟨h1, h2⟩ := spl_le S r (S.length - 1) []
      refine ⟨by simp only [List.length_cons]; omega, fun p hp => ?_⟩
      rcases List.mem_cons.mp hp with rfl | hp
      · exact ⟨by omega, fun c hc => .inl hc⟩
      · have := h2 p hp
        refine ⟨by have := this.1; simp only [List.length_cons, List.length_nil] at *; omega, fun c hc => ?_⟩
        rcases this.2 c hc with h | h
        · exact absurd h List.not_mem_nil
        · exact .inr (List.mem_cons_of_mem _ h)
    | false =>
      rw [TL.spl_miss h]
      obtain ⟨h1, h2⟩ := spl_le S r 0 (acc ++ [c])
      refine ⟨by simp only [List.length_cons]; omega, fun p hp => ?_⟩
      have := h2 p hp
      refine ⟨by have := this.1; simp only [List.length_append, List.length_cons, List.length_nil] at *; omega, fun x hx => ?_⟩
      rcases this.2 x hx with h | h
      · rcases List.mem_append.mp h with h | h
        · exact .inl h
        · rw [List.mem_singleton.mp h]; exact .inr List.mem_cons_self
      · exact .inr (List.mem_cons_of_mem _ h)
  | c :: r, k + 1, acc => by
    show (TL.spl S k acc r).length ≤ _ ∧ _
    obtain ⟨h1, h2⟩ := spl_le S r k acc
    refine ⟨by simp only [List.length_cons]; omega, fun p hp => ?_⟩
    have := h2 p hp
    refine ⟨by have := this.1; simp only [List.length_cons]; omega, fun x hx => ?_⟩
    rcases this.2 x hx with h | h
    · exact .inl h
    · exact .inr (List.mem_cons_of_mem _ h)
/-- cut at a sign -/
def cutAt (s : Nat) (z : Str) : List Str := (TL.spl [s] 0 [] (TL.tl z)).map mkS
theorem cutAt_len (s : Nat) (z : Str) : (cutAt s z).length ≤ z.length + 1 := by
  unfold cutAt
  rw [List.length_map, TL.len_tl]
  exact (spl_le [s] (TL.tl z) 0 []).1
theorem cutAt_word {s : Nat} {z w : Str} (h : w ∈ cutAt s z) : w.length ≤ z.length ∧ ∀ c ∈ TL.tl w, c ∈ TL.tl z := by
  unfold cutAt at h
  obtain ⟨l, hl, rfl⟩ := List.mem_map.mp h
  have := (spl_le [s] (TL.tl z) 0 []).2 l hl
  refine ⟨by rw [mkS_len, TL.len_tl z]; simpa using this.1, fun c hc => ?_⟩
  rw [tl_mkS] at hc
  rcases this.2 c hc with h | h
  · exact absurd h List.not_mem_nil
  · exact h
theorem spl_at {y : Str} {s : Nat} (hy : TL.tl y = [s]) (hs : s < 256) {z : Str} (hz : z.length ≤ 16777000) : splD (.str z) (.str y) = some (.fresh ((cutAt s z).map .str)) := by
  unfold splD
  have h1 : y.length ≠ 0 ∧ z.length + 2 ≤ sizeLine ∧ y.cps.all (· < 256) = true := by
    refine ⟨by rw [TL.len_tl, hy]; simp, by rw [sizeLine_eq]; omega, ?_⟩
    have : y = mkS [s] := TL.ext_tl (by rw [hy, tl_mkS])
    rw [this]
    show (#[s] : Array Nat).all (· < 256) = true
    simp [hs]
  show (if y.length ≠ 0 ∧ z.length + 2 ≤ sizeLine ∧ y.cps.all (· < 256) = true then some (Rv.fresh ((TL.spl (TL.tl y) 0 [] (TL.tl z)).map fun l => PyData.str (mkS l))) else none) = _
  rw [if_pos h1, hy]
  unfold cutAt
  rw [List.map_map]
  rfl
theorem tl_blank : TL.tl (" " : Str) = [32] := by decide +kernel
theorem tl_x : TL.tl ("x" : Str) = [120] := by decide +kernel
theorem tl_min : TL.tl ("-" : Str) = [45] := by decide +kernel
theorem spl_blank {z : Str} (hz : z.length ≤ 16777000) : splD (.str z) (.str " ") = some (.fresh ((cutAt 32 z).map .str)) := spl_at tl_blank (by omega) hz
theorem spl_x {z : Str} (hz : z.length ≤ 16777000) : splD (.str z) (.str "x") = some (.fresh ((cutAt 120 z).map .str)) := spl_at tl_x (by omega) hz
/-- words -/
def wsp (z : Str) : List Str := if z = "-" then [] else cutAt 32 z
theorem wsp_len (z : Str) : (wsp z).length ≤ z.length + 1 := by
  unfold wsp
  split
  · simp
  · exact cutAt_len 32 z
theorem wsp_word {z w : Str} (h : w ∈ wsp z) : w.length ≤ z.length ∧ ∀ c ∈ TL.tl w, c ∈ TL.tl z := by
  unfold wsp at h
  split at h
  · cases h
  · exact cutAt_word h
theorem words_ok {z : Str} (hz : z.length ≤ 16777000) : m_words_of [.str z] = some (.ok (.fresh ((wsp z).map .str))) := by
  refine fnF_is ?_
  have hs := spl_blank hz
  unfold wsp
  by_cases h : z = "-"
  · have hb : (z == ("-" : Str)) = true := beq_iff_eq.mpr h
    simp -implicitDefEqProofs [b_words_of, hb, h]
  · have hb : (z == ("-" : Str)) = false := beq_eq_false_iff_ne.mpr h
    simp -implicitDefEqProofs [b_words_of, hb, h, hs]
def oD : Option D → D := fun o => o.getD .none
def allSome {α β : Type} (f : α → Option β) : List α → Option (List β)
  | [] => some []
  | a :: as => match f a, allSome f as with
    | some b, some bs => some (b :: bs)
    | _, _ => none
theorem allSome_cons {α β : Type} {f : α → Option β} {a : α} {l : List α} : allSome f (a :: l) = match f a, allSome f l with
    | some b, some bs => some (b :: bs)
    | _, _ => none := rfl
theorem allSome_map {α β : Type} {f : α → Option β} : ∀ {l : List α} {bs : List β}, allSome f l = some bs → l.map f = bs.map some
  | [], bs, h => by cases h; rfl
  | a :: l, bs, h => by
    unfold allSome at h
    split at h
    · rename_i b bs' h1 h2
      cases h
      rw [List.map_cons, h1, allSome_map h2]; rfl
    · cases h
theorem allSome_oD {f : Str → Option D} {l : List Str} {ds : List D} (h : allSome f l = some ds) : l.map (fun w => oD (f w)) = ds := by
  have h1 := congrArg (List.map oD) (allSome_map h)
  rw [List.map_map, List.map_map] at h1
  exact h1.trans (List.map_id _)
theorem allSome_none {α β : Type} {f : α → Option β} : ∀ {l : List α}, allSome f l = none → ∃ a ∈ l, f a = none
  | [], h => by cases h
  | a :: l, h => by
    cases h1 : f a with
    | none => exact ⟨a, List.mem_cons_self, h1⟩
    | some b =>
      cases h2 : allSome f l with
      | none =>
        obtain ⟨x, hx, e⟩ := allSome_none h2
        exact ⟨x, List.mem_cons_of_mem _ hx, e⟩
      | some bs =>
        unfold allSome at h
        rw [h1, h2] at h
        cases h
/-- flat -/
structure Fl1 (d : D) : Prop where
  nn : isNone d = false
  lay : d.canLay0 = true
  dp : d.depth ≤ 3
theorem shaped_all {ds : List D} (h : ∀ d ∈ ds, d.canLay0 = true ∧ d.depth ≤ 3) : SeqAt.shaped (.list ds) = true := by
  have h1 : ∀ ds : List D, (∀ d ∈ ds, d.canLay0 = true ∧ d.depth ≤ 3) → PyData.canLayAll0 ds = true ∧ PyData.depthAll ds ≤ 3 := by
    intro ds
    induction ds with
    | nil => intro _; exact ⟨by simp only [PyData.canLayAll0], by simp only [PyData.depthAll]; omega⟩
    | cons d ds ih =>
      intro h
      obtain ⟨a, b⟩ := ih fun x hx => h x (List.mem_cons_of_mem _ hx)
      have := h d List.mem_cons_self
      refine ⟨by simp only [PyData.canLayAll0, this.1, a, Bool.and_self], ?_⟩
      simp only [PyData.depthAll]
      exact Nat.max_le.mpr ⟨by have := this.2; omega, b⟩
  obtain ⟨a, b⟩ := h1 ds h
  have h2 : (PyData.list ds).depth ≤ 64 := by simp only [PyData.depth]; omega
  have h3 : (PyData.list ds).canLay0 = true := by simp only [PyData.canLay0]; exact a
  unfold SeqAt.shaped
  rw [h3, Bool.true_and]
  exact decide_eq_true h2
/-- of a text -/
def onStr (g : Str → D) : D → D
  | .str w => g w
  | _ => .none
@[simp] theorem onStr_str {g : Str → D} {w : Str} : onStr g (.str w) = g w := rfl
theorem map_onStr {g : Str → D} {ws : List Str} : (ws.map PyData.str).map (onStr g) = ws.map g := by rw [List.map_map]; rfl
theorem eqv_none (d : D) : PyData.eqv d .none = isNone d := by cases d <;> simp only [PyData.eqv] <;> rfl
theorem in_none {ds : List D} (h : ∀ d ∈ ds, d.canLay0 = true ∧ d.depth ≤ 3) : inD .none (.list ds) = some (.fz (.bool (ds.any isNone))) := by
  unfold inD
  have h1 : SeqAt.shaped (.none : D) = true := by decide +kernel
  simp only [h1, shaped_all h, Bool.and_self, if_true]
  congr 3
  congr 1
  funext d
  exact eqv_none d
theorem any_none {f : Str → Option D} (hf : ∀ w d, f w = some d → Fl1 d) (l : List Str) : (l.map fun w => oD (f w)).any isNone = (allSome f l).isNone := by
  induction l with
  | nil => rfl
  | cons a l ih =>
    rw [List.map_cons, List.any_cons, ih, allSome_cons]
    cases h : f a with
    | none => rfl
    | some d =>
      show (isNone d || _) = _
      rw [(hf a d h).nn, Bool.false_or]
      cases allSome f l <;> rfl
theorem lay_oD {f : Str → Option D} (hf : ∀ w d, f w = some d → Fl1 d) (l : List Str) : ∀ d ∈ l.map (fun w => oD (f w)), d.canLay0 = true ∧ d.depth ≤ 3 := by
  intro d hd
  obtain ⟨w, _, rfl⟩ := List.mem_map.mp hd
  cases h : f w with
  | none => exact ⟨rfl, by decide⟩
  | some d => exact ⟨(hf w d h).lay, (hf w d h).dp⟩
theorem in_oD {f : Str → Option D} (hf : ∀ w d, f w = some d → Fl1 d) (l : List Str) : inD .none (.list (l.map fun w => oD (f w))) = some (.fz (.bool (allSome f l).isNone)) := by
  rw [in_none (lay_oD hf l), any_none hf]
def nmD (w : Str) : Option D := (numS w).map fun n : Nat => PyData.int (n : Int)
theorem fl_int (i : Int) : Fl1 (.int i) := ⟨rfl, by simp only [PyData.canLay0], by simp only [PyData.depth]; omega⟩
theorem nmD_fl : ∀ w d, nmD w = some d → Fl1 d := fun w d h => by
  obtain ⟨n, _, rfl⟩ := Option.map_eq_some_iff.mp h
  exact fl_int _
theorem numD_oD (w : Str) : numD w = oD (nmD w) := by
  unfold numD nmD
  cases numS w <;> rfl
def lstR (o : Option (List D)) : Rv := match o with
  | some ds => .fresh ds
  | none => .fz .none
theorem numbers_ok {ws : List Str} (hl : ws.length ≤ 16777000) (hw : ∀ w ∈ ws, w.length ≤ 16777000) : m_numbers_in [.list (ws.map .str)] = some (.ok (lstR (allSome nmD ws))) := by
  refine fnF_is ?_
  have hin := in_oD nmD_fl ws
  simp -implicitDefEqProofs [b_numbers_in]
  refine lcM_ok (onStr fun w => oD (nmD w)) (by show (ws.map PyData.str).length ≤ sizeLine; rw [List.length_map, sizeLine_eq]; omega) (by simp [tgV]) ?_ ?_
  · intro d hd
    obtain ⟨w, hw2, rfl⟩ := List.mem_map.mp (show d ∈ ws.map PyData.str from hd)
    have h1 := number_ok (z := w) (by have := hw w hw2; omega)
    rw [numD_oD] at h1
    refine ⟨_, rfl, ?_⟩
    simp -implicitDefEqProofs [h1, wipeE]
  · show kSt 1 _ (.fresh ((ws.map PyData.str).map _)) _
    rw [map_onStr]
    cases h : allSome nmD ws with
    | none =>
      rw [h] at hin
      simp -implicitDefEqProofs [hin, lstR]
    | some ds =>
      rw [h, allSome_oD h] at hin
      rw [allSome_oD h]
      simp -implicitDefEqProofs [hin, lstR]
def pileB2 : D → Bool
  | .int i => decide (1 ≤ i)
  | _ => false
theorem is_integer2 (d : D) : m_is_integer [d] = some (.ok (.fz (.bool (isIntB d && !isBoolB d)))) := by
  refine fnF_is ?_
  cases d <;> simp -implicitDefEqProofs [b_is_integer, isIntB, isBoolB]
theorem all_piles2 (ds : List D) : allD (.list (ds.map fun d => PyData.bool (pileB2 d))) = some (.fz (.bool (ds.all pileB2))) := by
  have : ds.map (fun d => PyData.bool (pileB2 d)) = (ds.map pileB2).map PyData.bool := by rw [List.map_map]; rfl
  rw [this, allD_map, List.all_map]; rfl
theorem is_row2 {ds : List D} (h1 : ds.length ≤ 16777000) : m_is_row [.tuple ds] = some (.ok (.fz (.bool (ds.all pileB2)))) := by
  refine fnF_is ?_
  have hm : lcTurns (tgV 1) yesT (andV (eF m_is_integer (toDs [(eV 1)])) (bin2 geD (eV 1) (eC (.int 1)))) [1] ds [some (.fz (.tuple ds)), none] = some (ds.map fun d => PyData.bool (pileB2 d), [some (.fz (.tuple ds)), none]) := by
    refine lc_map _ fun d hd => ⟨[some (.fz (.tuple ds)), some (.fz d)], rfl, ?_⟩
    cases d <;> simp -implicitDefEqProofs [is_integer2, isIntB, isBoolB, pileB2, wipeE]
  simp -implicitDefEqProofs [b_is_row, isTupB]
  refine ⟨⟨by show ds.length ≤ sizeLine; rw [sizeLine_eq]; omega, by simp [tgV]⟩, _, _, hm, ?_⟩
  simp -implicitDefEqProofs [all_piles2, unlend]
/-- the row with a text -/
def rowT (z : Str) : Option (List D) := (allSome nmD (wsp z)).bind fun ds => if ds.all pileB2 then some ds else none
def tupR (o : Option (List D)) : D := match o with
  | some ds => .tuple ds
  | none => .none
@[simp] theorem isNoneT {ds : List D} : isNone (.tuple ds) = false := rfl
@[simp] theorem isNoneI {i : Int} : isNone (.int i) = false := rfl
@[simp] theorem isNoneS {z : Str} : isNone (.str z) = false := rfl
@[simp] theorem isNoneL {ds : List D} : isNone (.list ds) = false := rfl
@[simp] theorem isNoneN : isNone (.none : D) = true := rfl
theorem row_none_ok {z : Str} (hz : z.length ≤ 16000000) : m_row_or_none_v2 [.str z] = some (.ok (.fz (tupR (rowT z)))) := by
  refine fnF_is ?_
  have h1 := words_ok (z := z) (by omega)
  have hl := wsp_len z
  have h2 := numbers_ok (ws := wsp z) (by omega) fun w hw => by have := (wsp_word hw).1; omega
  cases h : allSome nmD (wsp z) with
  | none =>
    have hr : rowT z = none := by unfold rowT; rw [h]; rfl
    rw [hr]
    rw [h] at h2
    simp -implicitDefEqProofs [b_row_or_none_v2, h1, h2, lstR, tupR]
  | some ds =>
    rw [h] at h2
    have hdl : ds.length ≤ 16777000 := by
      have := congrArg List.length (allSome_map h)
      simp only [List.length_map] at this
      omega
    have h3 := is_row2 hdl
    have hr : rowT z = if ds.all pileB2 = true then some ds else none := by unfold rowT; rw [h]; rfl
    rw [hr]
    cases hp : ds.all pileB2 with
    | true =>
      rw [hp] at h3
      rw [if_pos rfl]
      simp -implicitDefEqProofs [b_row_or_none_v2, h1, h2, h3, lstR, tupR]
    | false =>
      rw [hp] at h3
      rw [if_neg Bool.false_ne_true]
      simp -implicitDefEqProofs [b_row_or_none_v2, h1, h2, h3, lstR, tupR]
end G
set_option Elab.async false
set_option linter.all false
set_option maxRecDepth 100000
set_option maxHeartbeats 4000000
namespace G
open PySem PySem.Spec PyProof.Rows L2 VI Builtin.Int
def hd1 (z : Str) : Str := mkS ((TL.tl z).take 1)
def tl1 (z : Str) : Str := mkS ((TL.tl z).drop 1)
theorem tl_cutS (z : Str) (lo hi : Option Int) : TL.tl (cutS z lo hi) = ((TL.tl z).drop (HT.sIx z.length 0 lo)).take (HT.sIx z.length z.length hi - HT.sIx z.length 0 lo) := TL.tl_mk _
theorem sIx_z (n d : Nat) : HT.sIx n d none = d := rfl
theorem sIx_1 (n d : Nat) : HT.sIx n d (some 1) = min 1 n := HT.sIx_nat n d 1
theorem cut_hd (z : Str) : cutS z none (some 1) = hd1 z := TL.ext_tl (by
  rw [tl_cutS, sIx_z, sIx_1]
  unfold hd1
  rw [tl_mkS, List.drop_zero, Nat.sub_zero, TL.len_tl]
  rcases Nat.eq_zero_or_pos (TL.tl z).length with h | h
  · rw [List.length_eq_zero_iff.mp h]; simp
  · rw [Nat.min_eq_left h])
theorem cut_tl (z : Str) : cutS z (some 1) none = tl1 z := TL.ext_tl (by
  rw [tl_cutS, sIx_z, sIx_1]
  unfold tl1
  rw [tl_mkS, TL.len_tl]
  rcases Nat.eq_zero_or_pos (TL.tl z).length with h | h
  · rw [List.length_eq_zero_iff.mp h]; simp
  · rw [Nat.min_eq_left h]
    exact List.take_of_length_le (by rw [List.length_drop]; omega))
theorem tl1_len (z : Str) : (tl1 z).length ≤ z.length := by unfold tl1; rw [mkS_len, List.length_drop, TL.len_tl z]; omega
theorem sl_hd {z : Str} (hz : z.length ≤ 16777216) : slD (.str z) none (some 1) = some (.fz (.str (hd1 z))) := by
  show (if z.length ≤ sizeLine then some (Rv.fz (PyData.str (cutS z none (some 1)))) else none) = _
  rw [sizeLine_eq, if_pos hz, cut_hd]
theorem sl_tl {z : Str} (hz : z.length ≤ 16777216) : slD (.str z) (some 1) none = some (.fz (.str (tl1 z))) := by
  show (if z.length ≤ sizeLine then some (Rv.fz (PyData.str (cutS z (some 1) none))) else none) = _
  rw [sizeLine_eq, if_pos hz, cut_tl]
def wdT : List (Str × Str) := [("j", "join"), ("s", "split")]
def stS (w : Str) : Option (Str × Nat) := (wdT.lookup (hd1 w)).bind fun s => (numS (tl1 w)).map fun n => (s, n)
def stpD (q : Str × Nat) : D := .tuple [.str q.1, .int (q.2 : Int)]
def rd1 (w : Str) : Option D := (stS w).map stpD
theorem fl_pair (a b : D) (ha : a.canLay0 = true ∧ a.depth = 0) (hb : b.canLay0 = true ∧ b.depth = 0) : Fl1 (.tuple [a, b]) := ⟨rfl, by simp only [PyData.canLay0, PyData.canLayAll0, ha.1, hb.1, Bool.and_self], by simp only [PyData.depth, PyData.depthAll, ha.2, hb.2]; decide⟩
theorem lay_int (i : Int) : (PyData.int i).canLay0 = true ∧ (PyData.int i).depth = 0 := ⟨by simp only [PyData.canLay0], by simp only [PyData.depth]⟩
theorem lay_str {z : Str} (h : PyData.strOk z = true) : (PyData.str z).canLay0 = true ∧ (PyData.str z).depth = 0 := ⟨by simp only [PyData.canLay0]; exact h, by simp only [PyData.depth]⟩
theorem wdT_mem {x s : Str} (h : wdT.lookup x = some s) : s = "join" ∨ s = "split" := by
  unfold wdT at h
  rw [List.lookup] at h
  split at h
  · cases h; exact .inl rfl
  · rw [List.lookup] at h
    split at h
    · cases h; exact .inr rfl
    · cases h
theorem stS_word {w : Str} {q : Str × Nat} (h : stS w = some q) : q.1 = "join" ∨ q.1 = "split" := by
  obtain ⟨s, h1, h2⟩ := Option.bind_eq_some_iff.mp h
  obtain ⟨n, _, rfl⟩ := Option.map_eq_some_iff.mp h2
  exact wdT_mem h1
theorem rd1_fl : ∀ w d, rd1 w = some d → Fl1 d := fun w d h => by
  obtain ⟨q, hq, rfl⟩ := Option.map_eq_some_iff.mp h
  refine fl_pair _ _ (lay_str ?_) (lay_int _)
  rcases stS_word hq with e | e <;> (rw [e]; decide +kernel)
theorem step_in_ok {w : Str} (hz : w.length ≤ 16777000) : m_step_in_v2 [.str w] = some (.ok (.fz (oD (rd1 w)))) := by
  refine fnF_is ?_
  have h1 := sl_hd (z := w) (by omega)
  have h2 := sl_tl (z := w) (by omega)
  have h3 := number_ok (z := tl1 w) (by have := tl1_len w; omega)
  have h4 : getTs [("j", "join"), ("s", "split")] (.str (hd1 w)) = some (.fz (match wdT.lookup (hd1 w) with | some s => .str s | none => .none)) := rfl
  unfold rd1 stS
  unfold numD at h3
  cases hl : wdT.lookup (hd1 w) with
  | none =>
    rw [hl] at h4
    cases hn : numS (tl1 w) with
    | none => rw [hn] at h3; simp -implicitDefEqProofs [b_step_in_v2, h1, h2, h3, h4, oD]
    | some n => rw [hn] at h3; simp -implicitDefEqProofs [b_step_in_v2, h1, h2, h3, h4, oD]
  | some s =>
    rw [hl] at h4
    cases hn : numS (tl1 w) with
    | none => rw [hn] at h3; simp -implicitDefEqProofs [b_step_in_v2, h1, h2, h3, h4, oD]
    | some n => rw [hn] at h3; simp -implicitDefEqProofs [b_step_in_v2, h1, h2, h3, h4, oD, stpD]
theorem steps_none_ok {z : Str} (hz : z.length ≤ 16000000) : m_steps_or_none_v2 [.str z] = some (.ok (lstR (allSome rd1 (wsp z)))) := by
  refine fnF_is ?_
  have h1 := words_ok (z := z) (by omega)
  have hl := wsp_len z
  have hin := in_oD rd1_fl (wsp z)
  simp -implicitDefEqProofs [b_steps_or_none_v2, h1]
  refine lcM_ok (onStr fun w => oD (rd1 w)) (by show ((wsp z).map PyData.str).length ≤ sizeLine; rw [List.length_map, sizeLine_eq]; omega) (by simp [tgV]) ?_ ?_
  · intro d hd
    obtain ⟨w, hw2, rfl⟩ := List.mem_map.mp (show d ∈ (wsp z).map PyData.str from hd)
    have h1 := step_in_ok (w := w) (by have := (wsp_word hw2).1; omega)
    refine ⟨_, rfl, ?_⟩
    simp -implicitDefEqProofs [h1, wipeE]
  · show kSt 1 _ (.fresh (((wsp z).map PyData.str).map _)) _
    rw [map_onStr]
    cases h : allSome rd1 (wsp z) with
    | none =>
      rw [h] at hin
      simp -implicitDefEqProofs [hin, lstR]
    | some ds =>
      rw [h, allSome_oD h] at hin
      rw [allSome_oD h]
      simp -implicitDefEqProofs [hin, lstR]
def bkS (w : Str) : Option (Nat × Nat) := match cutAt 120 w with
  | [a, b] => (numS a).bind fun m => (numS b).bind fun n => if m ≠ 0 ∧ n ≠ 0 then some (m, n) else none
  | _ => none
def blkD (q : Nat × Nat) : D := .tuple [.int (q.1 : Int), .int (q.2 : Int)]
def rd2 (w : Str) : Option D := (bkS w).map blkD
theorem rd2_fl : ∀ w d, rd2 w = some d → Fl1 d := fun w d h => by
  obtain ⟨q, _, rfl⟩ := Option.map_eq_some_iff.mp h
  exact fl_pair _ _ (lay_int _) (lay_int _)
theorem notIn0 (ns : List Nat) : notInD (.int 0) (.list (ns.map fun n : Nat => PyData.int (n : Int))) = some (.fz (.bool (ns.all (· ≠ 0)))) := by
  unfold notInD
  have h1 : SeqAt.shaped (.int 0 : D) = true := by decide +kernel
  have h2 : SeqAt.shaped (.list (ns.map fun n : Nat => PyData.int (n : Int))) = true := shaped_all fun d hd => by
    obtain ⟨n, _, rfl⟩ := List.mem_map.mp hd
    exact ⟨(lay_int _).1, by rw [(lay_int _).2]; omega⟩
  simp only [h1, h2, Bool.and_self, if_true]
  congr 3
  rw [List.any_map, List.not_any_eq_all_not]
  congr 1
  funext n
  show (!PyData.eqv (.int (n : Int)) (.int 0)) = _
  have : PyData.eqv (.int (n : Int)) (.int 0) = decide ((n : Int) = 0) := by simp only [PyData.eqv]; rw [Bool.eq_iff_iff]; simp
  rw [this]
  by_cases h : n = 0
  · subst h; rfl
  · simp [h]
theorem allSome_nm {ws : List Str} {ds : List D} (h : allSome nmD ws = some ds) : ∃ ns : List Nat, ds = ns.map (fun n : Nat => PyData.int (n : Int)) ∧ allSome numS ws = some ns := by
  induction ws generalizing ds with
  | nil => cases h; exact ⟨[], rfl, rfl⟩
  | cons w ws ih =>
    rw [allSome_cons] at h
    split at h
    · rename_i b bs h1 h2
      cases h
      obtain ⟨ns, rfl, h3⟩ := ih h2
      obtain ⟨n, h4, rfl⟩ := Option.map_eq_some_iff.mp h1
      exact ⟨n :: ns, rfl, by rw [allSome_cons, h4, h3]⟩
    · cases h
theorem allSome_nmN {ws : List Str} (h : allSome nmD ws = none) : allSome numS ws = none := by
  obtain ⟨w, hw, e⟩ := allSome_none h
  cases h2 : allSome numS ws with
  | none => rfl
  | some ns =>
    have h3 : numS w = none := by
      unfold nmD at e
      exact Option.map_eq_none_iff.mp e
    have h4 := allSome_map h2
    have h5 : numS w ∈ ns.map some := by rw [← h4]; exact List.mem_map_of_mem hw
    rw [h3] at h5
    obtain ⟨_, _, z⟩ := List.mem_map.mp h5
    cases z
/-- blocks by numbers -/
theorem bkS_eq (w : Str) : bkS w = (allSome numS (cutAt 120 w)).bind fun ns => match ns with
    | [m, n] => if m ≠ 0 ∧ n ≠ 0 then some (m, n) else none
    | _ => none := by
  unfold bkS
  generalize cutAt 120 w = ws
  match ws with
  | [] => rfl
  | [a] => cases h : numS a <;> simp [allSome, h]
  | [a, b] => cases h : numS a <;> cases h2 : numS b <;> simp [allSome, h, h2]
  | a :: b :: c :: r =>
    cases h : numS a <;> cases h2 : numS b <;> cases h3 : numS c <;> cases h4 : allSome numS r <;> simp [allSome, h, h2, h3, h4]
theorem block_in_ok {w : Str} (hz : w.length ≤ 16000000) : m_block_in_v2 [.str w] = some (.ok (.fz (oD (rd2 w)))) := by
  refine fnF_is ?_
  have h1 := spl_x (z := w) (by omega)
  have hl := cutAt_len 120 w
  have h2 := numbers_ok (ws := cutAt 120 w) (by omega) fun x hx => by have := (cutAt_word hx).1; omega
  have hb := bkS_eq w
  unfold rd2
  cases h : allSome nmD (cutAt 120 w) with
  | none =>
    rw [h] at h2
    rw [allSome_nmN h] at hb
    rw [hb]
    simp -implicitDefEqProofs [b_block_in_v2, h1, h2, lstR, oD]
  | some ds =>
    rw [h] at h2
    obtain ⟨ns, rfl, h3⟩ := allSome_nm h
    rw [h3] at hb
    have h4 := notIn0 ns
    match ns with
    | [m, n] =>
      have hb : bkS w = if m ≠ 0 ∧ n ≠ 0 then some (m, n) else none := hb
      rw [hb]
      by_cases hm : m = 0
      · subst hm; simp -implicitDefEqProofs [b_block_in_v2, h1, h2, h4, lstR, oD]
        simp at h4
        simp -implicitDefEqProofs [h4]
      · by_cases hn : n = 0
        · subst hn; simp -implicitDefEqProofs [b_block_in_v2, h1, h2, h4, lstR, oD]
          simp at h4
          simp -implicitDefEqProofs [h4]
        · simp -implicitDefEqProofs [b_block_in_v2, h1, h2, h4, lstR, oD, hm, hn, blkD]
          simp [hm, hn] at h4
          simp -implicitDefEqProofs [h4]
    | [] =>
      have hb : bkS w = none := hb
      rw [hb]
      simp -implicitDefEqProofs [b_block_in_v2, h1, h2, lstR, oD]
    | [m] =>
      have hb : bkS w = none := hb
      rw [hb]
      simp -implicitDefEqProofs [b_block_in_v2, h1, h2, lstR, oD]
    | m :: n :: k :: r =>
      have hb : bkS w = none := hb
      rw [hb]
      have : ¬ ((r.length : Int) + 1 + 1 + 1 = 2) := by omega
      simp -implicitDefEqProofs [b_block_in_v2, h1, h2, lstR, oD, this]
end G
set_option Elab.async false
set_option linter.all false
set_option maxRecDepth 100000
set_option maxHeartbeats 4000000
namespace G
open PySem PySem.Spec PyProof.Rows L2 VI Builtin.Int
/-- neighbours of one size -/
def adjE : List (Nat × Nat) → Bool
  | a :: b :: r => decide (a.1 = b.1) || adjE (b :: r)
  | _ => false
theorem allSome_rd2 {ws : List Str} : allSome rd2 ws = (allSome bkS ws).map (·.map blkD) := by
  induction ws with
  | nil => rfl
  | cons w ws ih =>
    rw [allSome_cons, allSome_cons, ih]
    unfold rd2
    cases bkS w <;> cases allSome bkS ws <;> rfl
def pairE : D → D
  | .tuple [.tuple (.int a :: _), .tuple (.int b :: _)] => .bool (decide (a = b))
  | _ => .none
theorem adj_zip : ∀ qs : List (Nat × Nat), ((zipD (qs.map blkD) ((qs.map blkD).drop 1)).map pairE) = ((qs.zip (qs.drop 1)).map fun p => decide (p.1.1 = p.2.1)).map PyData.bool
  | [] => rfl
  | q :: qs => by
    unfold zipD
    rw [List.map_map, List.map_map, ← List.map_drop, List.zip_map, List.map_map]
    refine List.map_congr_left fun p _ => ?_
    show PyData.bool (decide ((p.1.1 : Int) = (p.2.1 : Int))) = PyData.bool (decide (p.1.1 = p.2.1))
    congr 1
    rw [Bool.eq_iff_iff, decide_eq_true_eq, decide_eq_true_eq]
    omega
theorem adj_any : ∀ qs : List (Nat × Nat), ((qs.zip (qs.drop 1)).map fun p => decide (p.1.1 = p.2.1)).any id = adjE qs
  | [] => rfl
  | [q] => rfl
  | a :: b :: r => by
    have ih := adj_any (b :: r)
    show (decide (a.1 = b.1) || _) = (decide (a.1 = b.1) || _)
    rw [← ih]
    rfl
theorem blocks_none_ok {z : Str} (hz : z.length ≤ 16000000) : m_blocks_or_none_v2 [.str z] = some (.ok (lstR ((allSome bkS (wsp z)).bind fun qs => if adjE qs then none else some (qs.map blkD)))) := by
  refine fnF_is ?_
  have h1 := words_ok (z := z) (by omega)
  have hl := wsp_len z
  have hin := in_oD rd2_fl (wsp z)
  simp -implicitDefEqProofs [b_blocks_or_none_v2, h1]
  refine lcM_ok (onStr fun w => oD (rd2 w)) (by show ((wsp z).map PyData.str).length ≤ sizeLine; rw [List.length_map, sizeLine_eq]; omega) (by simp [tgV]) ?_ ?_
  · intro d hd
    obtain ⟨w, hw2, rfl⟩ := List.mem_map.mp (show d ∈ (wsp z).map PyData.str from hd)
    have h1 := block_in_ok (w := w) (by have := (wsp_word hw2).1; omega)
    refine ⟨_, rfl, ?_⟩
    simp -implicitDefEqProofs [h1, wipeE]
  · show kSt 1 _ (.fresh (((wsp z).map PyData.str).map _)) _
    rw [map_onStr]
    have hr := allSome_rd2 (ws := wsp z)
    cases h : allSome bkS (wsp z) with
    | none =>
      rw [h] at hr
      rw [show allSome rd2 (wsp z) = none from hr] at hin
      simp -implicitDefEqProofs [hin, lstR]
    | some qs =>
      rw [h] at hr
      have hr : allSome rd2 (wsp z) = some (qs.map blkD) := hr
      rw [hr, allSome_oD hr] at hin
      rw [allSome_oD hr]
      have hlen : qs.length ≤ z.length + 1 := by
        have := congrArg List.length (allSome_map h)
        simp only [List.length_map] at this
        omega
      have hcut : VI.cutD (qs.map blkD) (some 1) none = (qs.map blkD).drop 1 := by
        unfold VI.cutD
        rw [sIx_z, sIx_1]
        rcases Nat.eq_zero_or_pos (qs.map blkD).length with h0 | h0
        · rw [List.length_eq_zero_iff.mp h0]; simp
        · rw [Nat.min_eq_left h0]
          exact List.take_of_length_le (by rw [List.length_drop]; omega)
      simp -implicitDefEqProofs [hin, hcut, -List.map_drop, -List.drop_one]
      refine lcM_ok pairE (by show (zipD _ _).length ≤ sizeLine; rw [zipD_len, sizeLine_eq]; simp; omega) (by simp [tgT, tgV]) ?_ ?_
      · intro d hd
        have hd : d ∈ zipD (qs.map blkD) ((qs.map blkD).drop 1) := hd
        unfold zipD at hd
        obtain ⟨p, hp, rfl⟩ := List.mem_map.mp hd
        have hp1 := (List.of_mem_zip hp).1
        have hp2 := List.mem_of_mem_drop (List.of_mem_zip hp).2
        obtain ⟨a, _, e1⟩ := List.mem_map.mp hp1
        obtain ⟨b, _, e2⟩ := List.mem_map.mp hp2
        rw [← e1, ← e2]
        refine ⟨_, rfl, ?_⟩
        simp -implicitDefEqProofs [wipeE, blkD, pairE]
      · show kOpd _ (.fresh ((zipD (qs.map blkD) ((qs.map blkD).drop 1)).map pairE)) _
        rw [adj_zip]
        have ha := anyD_map (bs := (qs.zip (qs.drop 1)).map fun p => decide (p.1.1 = p.2.1))
        rw [adj_any] at ha
        generalize ((qs.zip (qs.drop 1)).map fun p => decide (p.1.1 = p.2.1)).map PyData.bool = B at *
        cases hadj : adjE qs <;> rw [hadj] at ha <;> simp -implicitDefEqProofs [ha, lstR, hadj]
end G
set_option Elab.async false
set_option linter.all false
set_option maxRecDepth 100000
set_option maxHeartbeats 4000000
set_option exponentiation.threshold 2000
namespace G
open PySem PySem.Spec PyProof.Rows L2 VI Builtin.Int
def nT (n : Nat) : Str := Str.ofString (toString ((n : Nat) : Int))
theorem tl_nT (n : Nat) : TL.tl (nT n) = TL.numL n := TL.tl_num n
theorem str_nT {n : Nat} (h : n < 2 ^ 1000) : strD (.int (n : Int)) = some (.fz (.str (nT n))) := by
  show (if ((n : Int)).natAbs.log2 < 1920 then _ else _) = _
  rw [if_pos]
  · rfl
  show n.log2 < 1920
  by_cases h0 : n = 0
  · subst h0; decide
  · exact (Nat.log2_lt h0).mpr (Nat.lt_of_lt_of_le h (Nat.pow_le_pow_right (by omega) (by omega)))
theorem len_nT {n : Nat} (h : n < 10 ^ 50) : (nT n).length ≤ 50 := by
  rw [TL.len_tl, tl_nT]
  exact TL.numL_len (by omega) h
theorem numL_head : ∀ n : Nat, 0 < n → (TL.numL n).head? ≠ some 48 := by
  intro n
  induction n using Nat.strongRecOn with
  | ind n ih =>
    intro h
    by_cases h10 : n < 10
    · rw [TL.numL_lt h10]
      intro q
      have : 48 + n = 48 := Option.some.inj q
      omega
    · rw [TL.numL_step (by omega)]
      have h1 := ih (n / 10) (by omega) (by omega)
      have h2 := TL.numL_ne (n / 10)
      rw [List.head?_append]
      cases e : TL.numL (n / 10) with
      | nil => exact absurd e h2
      | cons c r => rw [e] at h1; exact h1
theorem isDg_numL (n : Nat) : isDg (TL.numL n) = true := by
  unfold isDg
  rw [List.all_eq_true]
  intro c hc
  have := TL.numL_digits n c hc
  rw [Bool.and_eq_true]
  exact ⟨decide_eq_true this.1, decide_eq_true this.2⟩
theorem nT_0 : nT 0 = "0" := by decide +kernel
theorem numS_nT {n : Nat} (h : n < 10 ^ 50) : numS (nT n) = some n := by
  unfold numS
  have h1 : 1 ≤ (nT n).length := by
    rw [TL.len_tl, tl_nT]
    have := TL.numL_ne n
    exact List.length_pos_iff.mpr this
  rw [if_pos]
  · rw [tl_nT, TL.numL_val]
  · refine ⟨h1, len_nT h, by rw [tl_nT]; exact isDg_numL n, ?_⟩
    by_cases h0 : n = 0
    · left; rw [h0]; exact nT_0
    · right; rw [tl_nT]; exact numL_head n (by omega)
def jn (ws : List Str) : Str := if ws = [] then "-" else mkS (TL.joinL [32] (ws.map TL.tl))
theorem wsp_jn {ws : List Str} (hb : ∀ w ∈ ws, 32 ∉ TL.tl w) (hh : ∀ w ∈ ws, ∃ c r, TL.tl w = c :: r ∧ c ≠ 45) : wsp (jn ws) = ws := by
  unfold wsp jn
  by_cases h0 : ws = []
  · subst h0
    rw [if_pos rfl, if_pos rfl]
  · rw [if_neg h0, if_neg]
    · unfold cutAt
      rw [tl_mkS, TL.spl_join (by simpa using h0) (by
        intro p hp
        obtain ⟨w, hw, rfl⟩ := List.mem_map.mp hp
        exact hb w hw), List.map_map]
      conv => rhs; rw [← List.map_id ws]
      exact List.map_congr_left fun w _ => mkS_tl w
    · intro q
      have q := congrArg TL.tl q
      rw [tl_mkS, tl_min] at q
      match ws, h0 with
      | w :: rest, _ =>
        obtain ⟨c, r, e, hc⟩ := hh w List.mem_cons_self
        cases rest with
        | nil =>
          have q : TL.tl w = [45] := q
          rw [e] at q
          cases q
          exact hc rfl
        | cons x rest =>
          have q : TL.tl w ++ _ = [45] := q
          rw [e] at q
          have q2 := congrArg List.head? q
          rw [List.cons_append] at q2
          exact hc (Option.some.inj q2)
theorem joinW_jn {ws : List Str} (h0 : ws ≠ []) (hl : ws.length ≤ 1000) (hw : ∀ w ∈ ws, w.length ≤ 1000) : joinD (.str " ") (.list (ws.map .str)) = some (.fz (.str (jn ws))) := by
  show (strsOf (ws.map .str)).bind (joinW " ") = _
  rw [strsOf_strs]
  show joinW " " ws = _
  unfold joinW
  have h1 : (ws.map (·.length)).sum ≤ ws.length * 1000 := by
    have : ∀ l : List Str, (∀ w ∈ l, w.length ≤ 1000) → (l.map (·.length)).sum ≤ l.length * 1000 := by
      intro l
      induction l with
      | nil => simp
      | cons x l ih =>
        intro h
        rw [List.map_cons, List.sum_cons, List.length_cons, Nat.succ_mul]
        have := h x List.mem_cons_self
        have := ih fun y hy => h y (List.mem_cons_of_mem _ hy)
        omega
    exact this ws hw
  have h3 : (" " : Str).length = 1 := by decide +kernel
  rw [if_pos (by rw [h3]; omega), tl_blank]
  unfold jn
  rw [if_neg h0]
theorem joined_ok {ws : List Str} (hl : ws.length ≤ 1000) (hw : ∀ w ∈ ws, w.length ≤ 1000) : m_joined_text [.list (ws.map .str)] = some (.ok (.fz (.str (jn ws)))) := by
  refine fnF_is ?_
  by_cases h0 : ws = []
  · subst h0
    have e : jn [] = "-" := if_pos rfl
    rw [e]
    simp -implicitDefEqProofs [b_joined_text]
  · have h1 := joinW_jn h0 hl hw
    have h2 : (0 : Int) < (ws.length : Int) := by have := List.length_pos_iff.mpr h0; omega
    simp -implicitDefEqProofs [b_joined_text, h1, h2]
    exact fun h => absurd h h0
theorem neStr (ws : List Str) (hs : ∀ w ∈ ws, PyData.strOk w = true) : neD (.list (ws.map .str)) (.list []) = some (.fz (.bool (!decide (ws = [])))) := by
  have h1 : SeqAt.shaped (.list (ws.map PyData.str)) = true := shaped_all fun d hd => by
    obtain ⟨w, hw, rfl⟩ := List.mem_map.mp hd
    have := lay_str (hs w hw)
    exact ⟨this.1, by rw [this.2]; omega⟩
  have h2 : SeqAt.shaped (.list []) = true := shaped_all fun d hd => (by cases hd)
  unfold neD
  rw [h1, h2, Bool.and_self, Bool.or_true, if_pos rfl]
  cases ws <;> simp [PyData.eqv, PyData.eqvAll]
theorem law_joined_ok {ws : List Str} (hl : ws.length ≤ 1000) (hw : ∀ w ∈ ws, w.length ≤ 1000) (hs : ∀ w ∈ ws, PyData.strOk w = true) : m_law_joined_v3 [.list (ws.map .str)] = some (.ok (.fz (.str (jn ws)))) := by
  refine fnF_is ?_
  have hn := neStr ws hs
  by_cases h0 : ws = []
  · subst h0
    have e : jn [] = "-" := if_pos rfl
    rw [e]
    have hn : neD (.list []) (.list []) = some (.fz (.bool false)) := hn
    simp -implicitDefEqProofs [b_law_joined_v3, hn]
  · have h1 := joinW_jn h0 hl hw
    rw [decide_eq_false h0] at hn
    simp -implicitDefEqProofs [b_law_joined_v3, h1, hn]
end G
set_option Elab.async false
set_option linter.all false
set_option maxRecDepth 100000
set_option maxHeartbeats 4000000
namespace VI
open PySem PySem.Spec PyProof.Rows L2
variable {e : Env}
/-- a comprehension over the data of a plain list -/
theorem lcN_ok {α : Type} {t : Tg} {elt : Ev} {own : List Nat} {Q : Po Rv} {z : Src} (l : List α) (f g : α → D) (hz : z.items = l.map f) (hl : l.length ≤ 1000000) (hi : ∀ i ∈ t.ix, i ∈ own)
    (hs : ∀ a ∈ l, ∃ e1, t.run (f a) (wipeE e own) = some e1 ∧ Ok (elt e1) (kFrz fun y e2 => y = g a ∧ wipeE e2 own = wipeE e own))
    (hq : Q (.fresh (l.map g)) (unlend z.lend (backE e own (wipeE e own)))) : kLc t yesT elt own Q z e := by
  refine lcG_ok (fun i ys e2 => ys = (l.take i).map g ∧ e2 = wipeE e own) (by rw [hz, List.length_map, sizeLine_eq]; omega) hi ⟨by simp, rfl⟩ ?_ ?_
  · rintro i d ys e2 hd ⟨rfl, rfl⟩
    rw [hz, List.getElem?_map] at hd
    cases ha : l[i]? with
    | none => rw [ha] at hd; cases hd
    | some a =>
      rw [ha] at hd
      obtain rfl := Option.some.inj hd
      obtain ⟨e1, h1, h2⟩ := hs a (List.mem_of_getElem? ha)
      refine ⟨e1, h1, ?_⟩
      rw [ok_yes']
      rw [← ok_toD] at h2 ⊢
      refine Ok.mono h2 ?_
      rintro y e3 ⟨rfl, h4⟩
      refine ⟨?_, h4⟩
      rw [List.take_succ, ha]; simp
  · rintro ys e2 ⟨rfl, rfl⟩
    rw [hz, List.length_map, List.take_length]
    exact hq
end VI
set_option Elab.async false
set_option linter.all false
set_option maxRecDepth 100000
set_option maxHeartbeats 4000000
set_option exponentiation.threshold 2000
namespace G
open PySem PySem.Spec PyProof.Rows L2 VI Builtin.Int
abbrev dN (n : Nat) : D := .int (n : Int)
def wdB (b : Bool) : Str := if b then "join" else "split"
def ltB (b : Bool) : Str := if b then "j" else "s"
abbrev dS (q : Bool × Nat) : D := .tuple [.str (wdB q.1), .int (q.2 : Int)]
def tS (q : Bool × Nat) : Str := ltB q.1 ++ nT q.2
def tB (q : Nat × Nat) : Str := nT q.1 ++ "x" ++ nT q.2
theorem big50 {n : Nat} (h : n < 10 ^ 50) : n < 2 ^ 1000 := Nat.lt_of_lt_of_le h (by decide)
theorem ltB_len (b : Bool) : (ltB b).length = 1 := by cases b <;> decide +kernel
theorem tS_len {q : Bool × Nat} (h : q.2 < 10 ^ 50) : (tS q).length ≤ 51 := by
  unfold tS
  rw [TL.len_tl, TL.tl_append, List.length_append, ← TL.len_tl, ← TL.len_tl, ltB_len]
  have := len_nT h
  omega
theorem addS {x y : Str} (h : x.length + y.length ≤ 16777216) : addD (.str x) (.str y) = some (.fz (.str (x ++ y))) := by
  show (if x.length + y.length ≤ sizeLine then _ else _) = _
  rw [sizeLine_eq, if_pos h]
theorem x_len : ("x" : Str).length = 1 := by decide +kernel
theorem app_len (x y : Str) : (x ++ y).length = x.length + y.length := by rw [TL.len_tl, TL.tl_append, List.length_append, ← TL.len_tl, ← TL.len_tl]
theorem tB_len {q : Nat × Nat} (h : q.1 < 10 ^ 50 ∧ q.2 < 10 ^ 50) : (tB q).length ≤ 101 := by
  unfold tB
  rw [app_len, app_len, x_len]
  have := len_nT h.1
  have := len_nT h.2
  omega
theorem map_str {α : Type} (l : List α) (f : α → Str) : (l.map fun a => PyData.str (f a)) = (l.map f).map PyData.str := by rw [List.map_map]; rfl
theorem row_text_ok {ns : List Nat} (h : ∀ n ∈ ns, n < 10 ^ 50) (hl : ns.length ≤ 1000) {R : D} (hR : R = .tuple (ns.map dN) ∨ R = .list (ns.map dN)) : m_row_text [R] = some (.ok (.fz (.str (jn (ns.map nT))))) := by
  refine fnF_is ?_
  have hj := joined_ok (ws := ns.map nT) (by rw [List.length_map]; exact hl) fun w hw => by
    obtain ⟨n, hn, rfl⟩ := List.mem_map.mp hw
    have := len_nT (h n hn); omega
  rw [← map_str] at hj
  rcases hR with rfl | rfl
  all_goals
    simp -implicitDefEqProofs [b_row_text]
    refine lcN_ok ns dN (fun n => .str (nT n)) rfl (by omega) (by simp [tgV]) ?_ ?_
    · intro n hn
      have h1 := str_nT (big50 (h n hn))
      refine ⟨_, rfl, ?_⟩
      simp -implicitDefEqProofs [h1]
    · generalize (ns.map fun n => PyData.str (nT n)) = LL at *
      simp -implicitDefEqProofs [hj]
theorem ixT_b (b : Bool) : ixTb [("join", "j"), ("split", "s")] (.str (wdB b)) = some (.fz (.str (ltB b))) := by cases b <;> kernel_rfl
theorem steps_text_ok {qs : List (Bool × Nat)} (h : ∀ q ∈ qs, q.2 < 10 ^ 50) (hl : qs.length ≤ 1000) {R : D} (hR : R = .tuple (qs.map dS) ∨ R = .list (qs.map dS)) : m_steps_text [R] = some (.ok (.fz (.str (jn (qs.map tS))))) := by
  refine fnF_is ?_
  have hj := joined_ok (ws := qs.map tS) (by rw [List.length_map]; exact hl) fun w hw => by
    obtain ⟨n, hn, rfl⟩ := List.mem_map.mp hw
    have := tS_len (h n hn); omega
  rw [← map_str] at hj
  rcases hR with rfl | rfl
  all_goals
    simp -implicitDefEqProofs [b_steps_text]
    refine lcN_ok qs dS (fun q => .str (tS q)) rfl (by omega) (by simp [tgV, tgT]) ?_ ?_
    · intro q hq
      have h1 := str_nT (big50 (h q hq))
      have h2 := ixT_b q.1
      have h3 := addS (x := ltB q.1) (y := nT q.2) (by rw [ltB_len]; have := len_nT (h q hq); omega)
      have h4 : tS q = ltB q.1 ++ nT q.2 := rfl
      refine ⟨_, rfl, ?_⟩
      rw [h4]
      generalize ltB q.1 ++ nT q.2 = o at *
      generalize nT q.2 = t at *
      generalize ltB q.1 = l at *
      simp -implicitDefEqProofs [h1, h2, h3]
    · generalize (qs.map fun n => PyData.str (tS n)) = LL at *
      simp -implicitDefEqProofs [hj]
theorem blocks_text_ok {qs : List (Nat × Nat)} (h : ∀ q ∈ qs, q.1 < 10 ^ 50 ∧ q.2 < 10 ^ 50) (hl : qs.length ≤ 1000) {R : D} (hR : R = .tuple (qs.map blkD) ∨ R = .list (qs.map blkD) ∨ R = .list (qs.map fun q => .list [.int (q.1 : Int), .int (q.2 : Int)])) : m_blocks_text [R] = some (.ok (.fz (.str (jn (qs.map tB))))) := by
  refine fnF_is ?_
  have hj := joined_ok (ws := qs.map tB) (by rw [List.length_map]; exact hl) fun w hw => by
    obtain ⟨n, hn, rfl⟩ := List.mem_map.mp hw
    have := tB_len (h n hn); omega
  rw [← map_str] at hj
  have turn : ∀ q ∈ qs, ∃ (a b : Str), strD (.int (q.1 : Int)) = some (.fz (.str a)) ∧ strD (.int (q.2 : Int)) = some (.fz (.str b)) ∧ addD (.str a) (.str "x") = some (.fz (.str (a ++ "x"))) ∧ addD (.str (a ++ "x")) (.str b) = some (.fz (.str (tB q))) := by
    intro q hq
    have l1 := len_nT (h q hq).1
    have l2 := len_nT (h q hq).2
    exact ⟨_, _, str_nT (big50 (h q hq).1), str_nT (big50 (h q hq).2), addS (by rw [x_len]; omega), addS (by rw [app_len, x_len]; omega)⟩
  rcases hR with rfl | rfl | rfl
  · simp -implicitDefEqProofs [b_blocks_text]
    refine lcN_ok qs blkD (fun q => .str (tB q)) rfl (by omega) (by simp [tgV, tgT]) ?_ ?_
    · intro q hq
      obtain ⟨a, b, h1, h2, h3, h4⟩ := turn q hq
      refine ⟨_, rfl, ?_⟩
      generalize tB q = o at *
      simp -implicitDefEqProofs [h1, h2, h3, h4]
    · generalize (qs.map fun n => PyData.str (tB n)) = LL at *
      simp -implicitDefEqProofs [hj]
  · simp -implicitDefEqProofs [b_blocks_text]
    refine lcN_ok qs blkD (fun q => .str (tB q)) rfl (by omega) (by simp [tgV, tgT]) ?_ ?_
    · intro q hq
      obtain ⟨a, b, h1, h2, h3, h4⟩ := turn q hq
      refine ⟨_, rfl, ?_⟩
      generalize tB q = o at *
      simp -implicitDefEqProofs [h1, h2, h3, h4]
    · generalize (qs.map fun n => PyData.str (tB n)) = LL at *
      simp -implicitDefEqProofs [hj]
  · simp -implicitDefEqProofs [b_blocks_text]
    refine lcN_ok qs (fun q => .list [.int (q.1 : Int), .int (q.2 : Int)]) (fun q => .str (tB q)) rfl (by omega) (by simp [tgV, tgT]) ?_ ?_
    · intro q hq
      obtain ⟨a, b, h1, h2, h3, h4⟩ := turn q hq
      refine ⟨_, rfl, ?_⟩
      generalize tB q = o at *
      simp -implicitDefEqProofs [h1, h2, h3, h4]
    · generalize (qs.map fun n => PyData.str (tB n)) = LL at *
      simp -implicitDefEqProofs [hj]
end G
set_option Elab.async false
set_option linter.all false
set_option maxRecDepth 100000
set_option maxHeartbeats 4000000
set_option exponentiation.threshold 2000
namespace G
open PySem PySem.Spec PyProof.Rows L2 VI Builtin.Int
theorem joinL_len2 {S : List Nat} : ∀ ls : List (List Nat), (TL.joinL S ls).length ≤ (ls.map fun l => l.length + S.length).sum
  | [] => by simp [TL.joinL]
  | [p] => by simp [TL.joinL]
  | p :: q :: r => by
    have h1 := joinL_len2 (S := S) (q :: r)
    show (p ++ (S ++ TL.joinL S (q :: r))).length ≤ _
    rw [List.length_append, List.length_append, List.map_cons, List.sum_cons]
    omega
theorem sum_le2 {α : Type} {f : α → Nat} {b : Nat} : ∀ {l : List α}, (∀ x ∈ l, f x ≤ b) → (l.map f).sum ≤ l.length * b
  | [], _ => by simp
  | x :: l, h => by
    rw [List.map_cons, List.sum_cons, List.length_cons, Nat.succ_mul]
    have := h x List.mem_cons_self
    have := sum_le2 (l := l) fun y hy => h y (List.mem_cons_of_mem _ hy)
    omega
theorem jn_len {ws : List Str} (hl : ws.length ≤ 1000) (hw : ∀ w ∈ ws, w.length ≤ 1000) : (jn ws).length ≤ 2000000 := by
  unfold jn
  split
  · have : ("-" : Str).length = 1 := by decide +kernel
    rw [this]; omega
  · rw [mkS_len]
    refine Nat.le_trans (joinL_len2 _) ?_
    rw [List.map_map]
    refine Nat.le_trans (sum_le2 (b := 1001) fun w h => ?_) ?_
    · have := hw w h
      rw [TL.len_tl] at this
      show (TL.tl w).length + 1 ≤ _
      omega
    · exact Nat.le_trans (Nat.mul_le_mul hl (Nat.le_refl 1001)) (by omega)
theorem numL_dg {n c : Nat} (h : c ∈ TL.numL n) : 48 ≤ c ∧ c ≤ 57 := TL.numL_digits n c h
theorem numL_cons (n : Nat) : ∃ c r, TL.numL n = c :: r ∧ 48 ≤ c := by
  cases e : TL.numL n with
  | nil => exact absurd e (TL.numL_ne n)
  | cons c r => exact ⟨c, r, rfl, (numL_dg (n := n) (by rw [e]; exact List.mem_cons_self)).1⟩
theorem tl_ltB (b : Bool) : TL.tl (ltB b) = [if b then 106 else 115] := by cases b <;> decide +kernel
theorem tl_tS (q : Bool × Nat) : TL.tl (tS q) = (if q.1 then 106 else 115) :: TL.numL q.2 := by
  unfold tS; rw [TL.tl_append, tl_ltB, tl_nT]; rfl
theorem tl_tB (q : Nat × Nat) : TL.tl (tB q) = TL.numL q.1 ++ ([120] ++ TL.numL q.2) := by
  unfold tB; rw [TL.tl_append, TL.tl_append, tl_nT, tl_nT, tl_x, List.append_assoc]
theorem wsp_row (ns : List Nat) : wsp (jn (ns.map nT)) = ns.map nT := by
  refine wsp_jn ?_ ?_
  · intro w hw hm
    obtain ⟨n, _, rfl⟩ := List.mem_map.mp hw
    rw [tl_nT] at hm
    have := numL_dg hm; omega
  · intro w hw
    obtain ⟨n, _, rfl⟩ := List.mem_map.mp hw
    obtain ⟨c, r, e, h⟩ := numL_cons n
    exact ⟨c, r, by rw [tl_nT, e], by omega⟩
theorem wsp_steps (qs : List (Bool × Nat)) : wsp (jn (qs.map tS)) = qs.map tS := by
  refine wsp_jn ?_ ?_
  · intro w hw hm
    obtain ⟨q, _, rfl⟩ := List.mem_map.mp hw
    rw [tl_tS] at hm
    rcases List.mem_cons.mp hm with h | h
    · split at h <;> omega
    · have := numL_dg h; omega
  · intro w hw
    obtain ⟨q, _, rfl⟩ := List.mem_map.mp hw
    exact ⟨_, _, tl_tS q, by split <;> omega⟩
theorem wsp_blocks (qs : List (Nat × Nat)) : wsp (jn (qs.map tB)) = qs.map tB := by
  refine wsp_jn ?_ ?_
  · intro w hw hm
    obtain ⟨q, _, rfl⟩ := List.mem_map.mp hw
    rw [tl_tB] at hm
    rcases List.mem_append.mp hm with h | h
    · have := numL_dg h; omega
    · rcases List.mem_append.mp h with h | h
      · rw [List.mem_singleton] at h; omega
      · have := numL_dg h; omega
  · intro w hw
    obtain ⟨q, _, rfl⟩ := List.mem_map.mp hw
    obtain ⟨c, r, e, h⟩ := numL_cons q.1
    exact ⟨c, r ++ ([120] ++ TL.numL q.2), by rw [tl_tB, e]; rfl, by omega⟩
theorem allSome_at {α β γ : Type} {f : β → Option γ} {g : α → β} {h : α → γ} : ∀ {l : List α}, (∀ a ∈ l, f (g a) = some (h a)) → allSome f (l.map g) = some (l.map h)
  | [], _ => rfl
  | a :: l, k => by
    rw [List.map_cons, allSome_cons, k a List.mem_cons_self, allSome_at fun x hx => k x (List.mem_cons_of_mem _ hx)]
    rfl
theorem rowT_jn {ns : List Nat} (h : ∀ n ∈ ns, 1 ≤ n ∧ n < 10 ^ 50) : rowT (jn (ns.map nT)) = some (ns.map dN) := by
  unfold rowT
  rw [wsp_row, allSome_at (h := dN) fun n hn => by unfold nmD; rw [numS_nT (h n hn).2]; rfl]
  show (if (ns.map dN).all pileB2 then some (ns.map dN) else none) = _
  rw [if_pos]
  rw [List.all_eq_true]
  intro d hd
  obtain ⟨n, hn, rfl⟩ := List.mem_map.mp hd
  have := (h n hn).1
  exact decide_eq_true (by omega)
theorem stS_tS {q : Bool × Nat} (h : q.2 < 10 ^ 50) : stS (tS q) = some (wdB q.1, q.2) := by
  unfold stS
  have h1 : hd1 (tS q) = ltB q.1 := TL.ext_tl (by unfold hd1; rw [tl_mkS, tl_tS, tl_ltB]; rfl)
  have h2 : tl1 (tS q) = nT q.2 := TL.ext_tl (by unfold tl1; rw [tl_mkS, tl_tS, tl_nT]; rfl)
  have h3 : wdT.lookup (ltB q.1) = some (wdB q.1) := by cases q.1 <;> decide +kernel
  rw [h1, h2, h3, numS_nT h]
  rfl
theorem steps_jn {qs : List (Bool × Nat)} (h : ∀ q ∈ qs, q.2 < 10 ^ 50) : allSome rd1 (wsp (jn (qs.map tS))) = some (qs.map dS) := by
  rw [wsp_steps]
  refine allSome_at fun q hq => ?_
  unfold rd1
  rw [stS_tS (h q hq)]
  rfl
theorem bkS_tB {q : Nat × Nat} (h : 1 ≤ q.1 ∧ q.1 < 10 ^ 50 ∧ 1 ≤ q.2 ∧ q.2 < 10 ^ 50) : bkS (tB q) = some q := by
  have hc : cutAt 120 (tB q) = [nT q.1, nT q.2] := by
    unfold cutAt
    rw [tl_tB, TL.spl_part1 (S := []) (TL.numL_free (by omega)), TL.spl_last1 (S := []) (TL.numL_free (by omega))]
    show [mkS _, mkS _] = _
    rw [List.nil_append, List.nil_append, ← tl_nT, ← tl_nT, mkS_tl, mkS_tl]
  unfold bkS
  rw [hc]
  show ((numS (nT q.1)).bind fun m => (numS (nT q.2)).bind fun n => if m ≠ 0 ∧ n ≠ 0 then some (m, n) else none) = _
  rw [numS_nT h.2.1, numS_nT h.2.2.2]
  show (if q.1 ≠ 0 ∧ q.2 ≠ 0 then some (q.1, q.2) else none) = _
  rw [if_pos ⟨by omega, by omega⟩]
theorem blocks_jn {qs : List (Nat × Nat)} (h : ∀ q ∈ qs, 1 ≤ q.1 ∧ q.1 < 10 ^ 50 ∧ 1 ≤ q.2 ∧ q.2 < 10 ^ 50) (ha : adjE qs = false) : ((allSome bkS (wsp (jn (qs.map tB)))).bind fun qs => if adjE qs then none else some (qs.map blkD)) = some (qs.map blkD) := by
  have e : allSome bkS (qs.map tB) = some (qs.map id) := allSome_at fun q hq => bkS_tB (h q hq)
  rw [wsp_blocks, e, List.map_id]
  show (if adjE qs then none else some (qs.map blkD)) = _
  rw [ha]; rfl
theorem nT_1000 {ns : List Nat} (h : ∀ n ∈ ns, n < 10 ^ 50) : ∀ w ∈ ns.map nT, w.length ≤ 1000 := fun w hw => by
  obtain ⟨n, hn, rfl⟩ := List.mem_map.mp hw
  have := len_nT (h n hn); omega
theorem tS_1000 {qs : List (Bool × Nat)} (h : ∀ q ∈ qs, q.2 < 10 ^ 50) : ∀ w ∈ qs.map tS, w.length ≤ 1000 := fun w hw => by
  obtain ⟨n, hn, rfl⟩ := List.mem_map.mp hw
  have := tS_len (h n hn); omega
theorem tB_1000 {qs : List (Nat × Nat)} (h : ∀ q ∈ qs, q.1 < 10 ^ 50 ∧ q.2 < 10 ^ 50) : ∀ w ∈ qs.map tB, w.length ≤ 1000 := fun w hw => by
  obtain ⟨n, hn, rfl⟩ := List.mem_map.mp hw
  have := tB_len (h n hn); omega
theorem row_in5 {ns : List Nat} (h : ∀ n ∈ ns, 1 ≤ n ∧ n < 10 ^ 50) (hl : ns.length ≤ 1000) : m_row_in_v5 [.str (jn (ns.map nT))] = some (.ok (.fz (.tuple (ns.map dN)))) := by
  refine fnF_is ?_
  have hz := jn_len (ws := ns.map nT) (by rw [List.length_map]; exact hl) (nT_1000 fun n hn => (h n hn).2)
  have h1 := row_none_ok (z := jn (ns.map nT)) (by omega)
  rw [rowT_jn h] at h1
  generalize jn (ns.map nT) = z at *
  generalize ns.map dN = L at *
  have h1 : m_row_or_none_v2 [.str z] = some (.ok (.fz (.tuple L))) := h1
  simp -implicitDefEqProofs [b_row_in_v5, h1, kThr]
theorem steps_in5 {qs : List (Bool × Nat)} (h : ∀ q ∈ qs, q.2 < 10 ^ 50) (hl : qs.length ≤ 1000) : m_steps_in_v5 [.str (jn (qs.map tS))] = some (.ok (.fresh (qs.map dS))) := by
  refine fnF_is ?_
  have hz := jn_len (ws := qs.map tS) (by rw [List.length_map]; exact hl) (tS_1000 h)
  have h1 := steps_none_ok (z := jn (qs.map tS)) (by omega)
  rw [steps_jn h] at h1
  generalize jn (qs.map tS) = z at *
  generalize qs.map dS = L at *
  have h1 : m_steps_or_none_v2 [.str z] = some (.ok (.fresh L)) := h1
  simp -implicitDefEqProofs [b_steps_in_v5, h1, kThr]
theorem blocks_in5 {qs : List (Nat × Nat)} (h : ∀ q ∈ qs, 1 ≤ q.1 ∧ q.1 < 10 ^ 50 ∧ 1 ≤ q.2 ∧ q.2 < 10 ^ 50) (ha : adjE qs = false) (hl : qs.length ≤ 1000) : m_blocks_in_v5 [.str (jn (qs.map tB))] = some (.ok (.fresh (qs.map blkD))) := by
  refine fnF_is ?_
  have hz := jn_len (ws := qs.map tB) (by rw [List.length_map]; exact hl) (tB_1000 fun q hq => ⟨(h q hq).2.1, (h q hq).2.2.2⟩)
  have h1 := blocks_none_ok (z := jn (qs.map tB)) (by omega)
  rw [blocks_jn h ha] at h1
  generalize jn (qs.map tB) = z at *
  generalize qs.map blkD = L at *
  have h1 : m_blocks_or_none_v2 [.str z] = some (.ok (.fresh L)) := h1
  simp -implicitDefEqProofs [b_blocks_in_v5, h1, kThr]
end G
set_option Elab.async false
set_option linter.all false
set_option maxRecDepth 100000
set_option maxHeartbeats 4000000
namespace G
open PySem PySem.Spec PyProof.Rows L2 VI Builtin.Int
theorem mulOk_of {i j : Int} {m n : Nat} (h : intBits i ≤ m) (h' : intBits j ≤ n) (hmn : m + n ≤ 134217728) : mulOk i j = true := decide_eq_true (by omega)
theorem bits_lt {i : Int} {m : Nat} (h : i.natAbs < 2 ^ m) : intBits i ≤ m := intBits_le_iff.mpr h
theorem mulOk_64 {i j : Int} (h : i.natAbs < 2 ^ 64) (h' : j.natAbs < 2 ^ 64) : mulOk i j = true := mulOk_of (bits_lt h) (bits_lt h') (by omega)
theorem divOk_of {j : Int} (h0 : 0 < j) (h : j.natAbs < 2 ^ 9000) : divOk j = true := by
  unfold divOk
  rw [decide_eq_true h0, Bool.true_and]
  refine decide_eq_true ((Nat.log2_lt (by omega)).mpr h)
theorem divOk_64 {j : Int} (h0 : 0 < j) (h : j.natAbs < 2 ^ 64) : divOk j = true := divOk_of h0 (Nat.lt_of_lt_of_le h (Nat.pow_le_pow_right (by omega) (by omega)))
/-- a source of draws; at most n were made -/
def Bx (n : Nat) (b : List D) : Prop := ∃ a s c : Int, b = [.int a, .int s, .int c] ∧ 0 ≤ a ∧ 0 ≤ s ∧ s ≤ 2 ^ 62 ∧ 0 ≤ c ∧ c ≤ n
theorem Bx.mono {n m : Nat} {b : List D} (h : Bx n b) (k : n ≤ m) : Bx m b := by
  obtain ⟨a, s, c, h1, h2, h3, h4, h5, h6⟩ := h
  exact ⟨a, s, c, h1, h2, h3, h4, h5, by omega⟩
/-- a draw: within its span -/
def Drawn (n : Nat) (span : Int) (r : Rv) (b : List D) : Prop := ∃ v : Int, r = .fz (.int v) ∧ 0 ≤ v ∧ v < span ∧ Bx n b
theorem divOk_lt {j : Int} (h : divOk j = true) : 0 < j ∧ j.natAbs.log2 < 9000 := by
  unfold divOk at h
  rw [Bool.and_eq_true] at h
  exact ⟨of_decide_eq_true h.1, of_decide_eq_true h.2⟩
theorem log2_le {i j : Nat} (h0 : i ≠ 0) (h : i ≤ j) : i.log2 ≤ j.log2 := (Nat.le_log2 (by omega)).mpr (Nat.le_trans (Nat.log2_self_le h0) h)
theorem divOk_le {i j : Int} (h0 : 0 < i) (h : i ≤ j) (hj : divOk j = true) : divOk i = true := by
  have h1 := divOk_lt hj
  have h2 := log2_le (i := i.natAbs) (j := j.natAbs) (by omega) (by omega)
  unfold divOk
  rw [decide_eq_true h0, Bool.true_and]
  exact decide_eq_true (by omega)
theorem bits_log {j : Int} {m : Nat} (h : j.natAbs.log2 < m) : intBits j ≤ m := by
  unfold intBits
  split <;> omega
theorem mulOk_div {i j : Int} (hi : i.natAbs < 2 ^ 64) (h0 : 0 ≤ j) {k : Int} (h : j < k) (hk : divOk k = true) : mulOk i j = true := by
  have h1 := divOk_lt hk
  have hj : intBits j ≤ 9000 := by
    by_cases hz : j = 0
    · subst hz; show (0 : Nat) ≤ 9000; omega
    · exact bits_log (Nat.lt_of_le_of_lt (log2_le (i := j.natAbs) (j := k.natAbs) (by omega) (by omega)) h1.2)
  have hi2 : intBits i ≤ 64 := bits_lt hi
  unfold mulOk
  exact decide_eq_true (by omega)
end G
set_option Elab.async false
set_option linter.all false
set_option maxRecDepth 100000
set_option maxHeartbeats 4000000
namespace G
open PySem PySem.Spec PyProof.Rows L2 VI Builtin.Int
theorem take3 (d n : Nat) {b : List D} {span : Int} (hb : Bx n b) (hn : n ≤ 2 ^ 30) (h0 : 0 < span) (h1 : span ≤ 10 ^ 7) : OkI (r_law_draw_v2 (d + 1) b [.int span]) (Drawn (n + 1) span) := by
  obtain ⟨a, s, c, rfl, ha, hs, hs2, hc, hc2⟩ := hb
  have hd : divOk span = true := divOk_64 h0 (by omega)
  refine fnI_of ?_
  by_cases hz : 0 < a
  · simp [b_law_draw_v2, atI, ixN, hz, h0, hd]
    exact ⟨_, rfl, Int.emod_nonneg _ (by omega), Int.emod_lt_of_pos _ h0, _, _, _, rfl, Int.ediv_nonneg ha (by omega), hs, hs2, hc, by omega⟩
  · have e10 : (10 : Int) ^ 7 = 10000000 := by decide
    rw [e10] at h1
    have hn1 : ¬ (10000000 < span) := by omega
    have p1 : powOk 10 7 = true := by decide
    have m1 : mulOk 48271 (c + 1) = true := mulOk_64 (by decide) (by omega)
    have m2 : mulOk (s + 48271 * (c + 1)) (39373 + (c + 1)) = true := mulOk_64 (by omega) (by omega)
    have o1 := Int.emod_nonneg ((s + 48271 * (c + 1)) * (39373 + (c + 1))) (show (2147483647 : Int) ≠ 0 by decide)
    have o2 := Int.emod_lt_of_pos ((s + 48271 * (c + 1)) * (39373 + (c + 1))) (show (0 : Int) < 2147483647 by decide)
    generalize ho : (s + 48271 * (c + 1)) * (39373 + (c + 1)) % 2147483647 = once at o1 o2
    have q1 := Int.emod_nonneg once (show (40009 : Int) ≠ 0 by decide)
    have q2 := Int.emod_lt_of_pos once (show (0 : Int) < 40009 by decide)
    have v1 := Int.ediv_nonneg hs (show (0 : Int) ≤ 1000003 by decide)
    have v2 : s / 1000003 ≤ s := Int.ediv_le_self _ hs
    have m3 : mulOk (once + (c + 1) + s / 1000003) (once % 40009 + 7) = true := mulOk_64 (by omega) (by omega)
    have w1 := Int.emod_nonneg ((once + (c + 1) + s / 1000003) * (once % 40009 + 7)) (show (2147483629 : Int) ≠ 0 by decide)
    have w2 := Int.emod_lt_of_pos ((once + (c + 1) + s / 1000003) * (once % 40009 + 7)) (show (0 : Int) < 2147483629 by decide)
    generalize ht : (once + (c + 1) + s / 1000003) * (once % 40009 + 7) % 2147483629 = twice at w1 w2
    have m4 : mulOk twice 48271 = true := mulOk_64 (by omega) (by decide)
    have d1 : divOk 64 = true := by decide
    have d2 : divOk 1000003 = true := by decide
    simp -implicitDefEqProofs [b_law_draw_v2, atI, ixN, hz, h0, hd, p1, e10, hn1, m1, ho, m2, m3, ht, m4, d1, d2]
    exact ⟨_, rfl, Int.emod_nonneg _ (by omega), Int.emod_lt_of_pos _ h0, _, _, _, rfl, ha, hs, hs2, by omega, by omega⟩
theorem drawV (n : Nat) {b : List D} {span : Int} (hb : Bx n b) (hn : n ≤ 2 ^ 30) (h0 : 0 < span) (h1 : span ≤ 10 ^ 7) : OkI (m_law_draw_v2 b [.int span]) (Drawn (n + 1) span) := take3 59 n hb hn h0 h1
theorem pick3_ok (n : Nat) {b ds : List D} (hb : Bx n b) (hn : n ≤ 2 ^ 30) (h0 : ds ≠ []) (h1 : ds.length ≤ 10 ^ 7) : OkI (m_law_pick_v3 b [.list ds]) (fun r b' => ∃ d ∈ ds, r = .fz d ∧ Bx (n + 1) b') := by
  have hl : 0 < ds.length := List.length_pos_iff.mpr h0
  refine fnI_of ?_
  simp -implicitDefEqProofs [b_law_pick_v3]
  refine okIo_of (drawV n hb hn (by omega) (by omega)) fun r b' ⟨v, hr, hv0, hv1, hb'⟩ => ?_
  subst hr
  obtain ⟨i, rfl⟩ := Int.eq_ofNat_of_zero_le hv0
  have hi : i < ds.length := by omega
  have h2 : ds[i]? = some ds[i] := List.getElem?_eq_getElem hi
  simp -implicitDefEqProofs [atN h2]
  exact ⟨_, List.getElem_mem hi, rfl, hb'⟩
theorem stream_ok (cs : List Int) (k : Nat) (hk : k < cs.length) (hk2 : k ≤ 1000) (hb : ∀ c ∈ cs, intBits c ≤ 1048700) : OkF (m_law_stream [.list (cs.map .int), .int k]) (fun r => ∃ b, r = .fresh b ∧ Bx 0 b) := by
  refine fnF_of ?_
  have hx : (cs.map PyData.int)[k]? = some (.int cs[k]) := by rw [List.getElem?_map, List.getElem?_eq_getElem hk]; rfl
  have hb1 := hb _ (List.getElem_mem hk)
  generalize cs[k] = c at hx hb1
  have p1 : powOk 10 18 = true := by decide
  have m1 : ∀ z : Int, (z = 0 ∨ z = 1) → mulOk (if c < 0 then -c else c) z = true := fun z hz => by
    refine mulOk_of (m := 1048700) (n := 1) ?_ ?_ (by decide)
    · split
      · exact intBits_neg_le hb1
      · exact hb1
    · rcases hz with rfl | rfl <;> decide
  have m2 : mulOk 39373 (k : Int) = true := mulOk_64 (by decide) (by omega)
  simp -implicitDefEqProofs [b_law_stream, hk, atN hx, p1, m2]
  have z1 : ∀ y : Int, (if (1000000000000000000 : Int) ≤ y then (1 : Int) else 0) = 0 ∨ (if (1000000000000000000 : Int) ≤ y then (1 : Int) else 0) = 1 := fun y => by by_cases h : (1000000000000000000 : Int) ≤ y <;> simp [h]
  refine ⟨m1 _ (z1 _), _, _, _, rfl, ?_, ?_, ?_, by omega, by omega⟩
  · refine Int.mul_nonneg (by split <;> omega) (by rcases z1 (if c < 0 then -c else c) with h | h <;> rw [h] <;> omega)
  · omega
  · omega
end G
set_option Elab.async false
set_option linter.all false
set_option maxRecDepth 100000
set_option maxHeartbeats 4000000
namespace G
open PySem PySem.Spec PyProof.Rows L2 VI Builtin.Int
theorem take3w (d n : Nat) {b : List D} {span : Int} (hb : Bx n b) (hn : n + d ≤ 2 ^ 30) (h0 : 0 < span) (h1 : span ≤ 10000000 ^ (d + 1)) (hd : divOk span = true) : OkI (r_law_draw_v2 (d + 1) b [.int span]) (Drawn (n + d + 1) span) := by
  induction d generalizing n b span with
  | zero => exact take3 0 n hb (by omega) h0 (by rw [show (10 : Int) ^ 7 = 10000000 by decide]; rw [Nat.zero_add, Int.pow_succ, Int.pow_zero, Int.one_mul] at h1; exact h1)
  | succ d ih =>
    have e10 : (10 : Int) ^ 7 = 10000000 := by decide
    by_cases hsm : span ≤ 10000000
    · obtain ⟨r, b', k1, v, k2, k3, k4, k5⟩ := take3 (d + 1) n hb (by omega) h0 (by rw [e10]; exact hsm)
      exact ⟨r, b', k1, v, k2, k3, k4, k5.mono (by omega)⟩
    · obtain ⟨a, s, c, rfl, ha, hs, hs2, hc, hc2⟩ := id hb
      refine fnI_of ?_
      by_cases hz : 0 < a
      · simp -implicitDefEqProofs [b_law_draw_v2, atI, ixN, hz, h0, hd]
        exact ⟨_, rfl, Int.emod_nonneg _ (by omega), Int.emod_lt_of_pos _ h0, _, _, _, rfl, Int.ediv_nonneg ha (by omega), hs, hs2, hc, by omega⟩
      · have hn1 : 10000000 < span := by omega
        have p1 : powOk 10 7 = true := by decide
        have d1 : divOk 10000000 = true := by decide
        simp -implicitDefEqProofs [b_law_draw_v2, atI, ixN, hz, h0, hd, p1, e10, hn1, d1]
        refine okIo_of (take3 d n hb (by omega) (by decide) (by decide)) fun r b' ⟨v, hr, hv0, hv1, hb'⟩ => ?_
        subst hr
        simp -implicitDefEqProofs [p1, e10, d1]
        have hM : span ≤ 10000000 ^ (d + 1) * 10000000 := by rw [← Int.pow_succ]; exact h1
        refine okIo_of (ih (n + 1) hb' (by omega) (by omega) (by omega) (divOk_le (by omega) (by omega) hd)) fun r2 b2 ⟨v2, hr2, hw0, hw1, hb2⟩ => ?_
        subst hr2
        have m1 : mulOk 10000000 v2 = true := mulOk_div (by decide) hw0 (k := span) (by omega) hd
        simp -implicitDefEqProofs [m1, h0]
        exact ⟨_, rfl, Int.emod_nonneg _ (by omega), Int.emod_lt_of_pos _ h0, hb2.mono (by omega)⟩
theorem drawW (n : Nat) {b : List D} {span : Int} (hb : Bx n b) (hn : n + 59 ≤ 2 ^ 30) (h0 : 0 < span) (h1 : span ≤ 10000000 ^ 60) (hd : divOk span = true) : OkI (m_law_draw_v2 b [.int span]) (Drawn (n + 60) span) := take3w 59 n hb hn h0 h1 hd
end G
set_option Elab.async false
set_option linter.all false
set_option maxRecDepth 100000
set_option maxHeartbeats 4000000
set_option exponentiation.threshold 10000
namespace G
open PySem PySem.Spec PyProof.Rows L2 VI Builtin.Int
theorem drawBig (n : Nat) {b : List D} {t : Nat} (hb : Bx n b) (hn : n ≤ 2 ^ 28) (h0 : 0 < t) (h1 : t ≤ 10 ^ 40) : OkI (m_law_draw_v2 b [.int (t : Int)]) (fun r b' => ∃ v : Nat, r = .fz (.int (v : Int)) ∧ v < t ∧ Bx (n + 60) b') := by
  have hd : divOk (t : Int) = true := divOk_of (by omega) (by rw [Int.natAbs_natCast]; exact Nat.lt_of_le_of_lt h1 (Nat.lt_of_lt_of_le (by decide : (10 : Nat) ^ 40 < 2 ^ 133) (Nat.pow_le_pow_right (by omega) (by omega))))
  have h2 : (t : Int) ≤ 10000000 ^ 60 := by
    have : t ≤ 10000000 ^ 60 := Nat.le_trans h1 (by decide)
    have := Int.ofNat_le.mpr this
    simpa using this
  obtain ⟨r, b', e, v, hr, hv0, hv1, hb'⟩ := drawW n hb (by omega) (by omega) h2 hd
  obtain ⟨v, rfl⟩ := Int.eq_ofNat_of_zero_le hv0
  exact ⟨r, b', e, v, hr, by omega, hb'⟩
theorem pickNat (n : Nat) {b : List D} {l : List Nat} {m : Nat} (hb : Bx n b) (hn : n ≤ 2 ^ 28) (h0 : l ≠ []) (h1 : l.length ≤ 100) (hm : ∀ k ∈ l, 0 < k ∧ k ≤ m) : OkI (m_law_pick_v3 b [.list (l.map dN)]) (fun r b' => ∃ t : Nat, r = .fz (.int (t : Int)) ∧ 0 < t ∧ t ≤ m ∧ Bx (n + 1) b') := by
  obtain ⟨r, b', e, d, hd, hr, hb'⟩ := pick3_ok n (ds := l.map dN) hb (by omega) (by simpa using h0) (by rw [List.length_map]; omega)
  obtain ⟨k, hk, rfl⟩ := List.mem_map.mp hd
  exact ⟨r, b', e, k, hr, (hm k hk).1, (hm k hk).2, hb'⟩
abbrev raA : List St1 := [(asgS 1 (eI m_law_pick_v3 0 (toDs [(eLst (toDs [(eC (.int 9)), (bin2 powD (eC (.int 10)) (eC (.int 6))), (bin2 powD (eC (.int 10)) (eC (.int 40)))]))]))), (asgS 2 (eB (on1 tupD) (opds [(lcS (rng1 (eI m_law_draw_v2 0 (toDs [(eC (.int 13))]))) (tgV 3) yesT (bin2 addD (eC (.int 1)) (eI m_law_draw_v2 0 (toDs [(eV 1)]))) [3])])))]
theorem raA_ok (n : Nat) {b : List D} (hb : Bx n b) (hn : n ≤ 2 ^ 27) {Q : Po Fl}
    (q : ∀ (t : Nat) (ns : List Nat) (b' : List D), 0 < t → t ≤ 10 ^ 40 → ns.length ≤ 12 → (∀ i ∈ ns, 1 ≤ i ∧ i < 10 ^ 50) → Bx (n + 1000) b' →
      Q .nx [some (.io b'), some (.fz (.int (t : Int))), some (.fz (.tuple (ns.map dN))), none, none, none, none, none, none, none, none, none, none, none]) :
    Ok (block raA [some (.io b), none, none, none, none, none, none, none, none, none, none, none, none, none]) Q := by
  unfold raA
  have p1 : powOk 10 6 = true := by decide
  have p2 : powOk 10 40 = true := by decide
  have hp := pickNat n (l := [9, 1000000, 10000000000000000000000000000000000000000]) (m := 10 ^ 40) hb (by omega) (by simp) (by simp) (by decide)
  simp -implicitDefEqProofs [p1, p2]
  have e9 : ([9, 1000000, 10000000000000000000000000000000000000000] : List Nat).map dN = [.int 9, .int 1000000, .int 10000000000000000000000000000000000000000] := rfl
  rw [e9] at hp
  refine okIo_of hp fun r b1 ⟨t, hr, ht0, ht1, hb1⟩ => ?_
  subst hr
  simp -implicitDefEqProofs
  refine okIo_of (drawV (n + 1) (span := 13) hb1 (by omega) (by omega) (by omega)) fun r b2 ⟨v, hr, hv0, hv1, hb2⟩ => ?_
  subst hr
  obtain ⟨m, rfl⟩ := Int.eq_ofNat_of_zero_le hv0
  have hR := inR_nat (n := m) (by omega)
  simp -implicitDefEqProofs [hR]
  refine lcG_ok (fun j ys e => ∃ (b' : List D) (ns : List Nat), e = [some (.io b'), some (.fz (.int (t : Int))), none, none, none, none, none, none, none, none, none, none, none, none] ∧ ys = ns.map dN ∧ ns.length = j ∧ (∀ i ∈ ns, 1 ≤ i ∧ i < 10 ^ 50) ∧ Bx (n + 2 + 60 * j) b') (by rw [intsOf_len, sizeLine_eq]; omega) (by simp [tgV]) ⟨b2, [], by rfl, rfl, rfl, by simp, hb2⟩ ?_ ?_
  · rintro j d ys e hd ⟨b', ns, rfl, rfl, rfl, hns, hb'⟩
    obtain ⟨hj, rfl⟩ := intsOf_get hd
    refine ⟨_, rfl, ?_⟩
    simp -implicitDefEqProofs
    refine okIo_of (drawBig _ hb' (by omega) ht0 ht1) fun r b3 ⟨w, hr, hw, hb3⟩ => ?_
    subst hr
    simp -implicitDefEqProofs [wipeE]
    have e1 : ns.map dN ++ [.int (1 + (w : Int))] = (ns ++ [1 + w]).map dN := by
      rw [List.map_append, List.map_cons, List.map_nil]
      show _ = _ ++ [PyData.int ((1 + w : Nat) : Int)]
      rw [Int.natCast_add]; rfl
    refine ⟨ns ++ [1 + w], e1, by simp, ?_, hb3.mono (by omega)⟩
    intro i hi
    rcases List.mem_append.mp hi with h | h
    · exact hns i h
    · rw [List.mem_singleton.mp h]
      have h40 : (10 : Nat) ^ 40 + 1 < 10 ^ 50 := by decide
      omega
  · rintro ys e ⟨b', ns, rfl, rfl, hl, hns, hb'⟩
    have hl : ns.length = (intsOf 0 m).length := hl
    have hb' : Bx (n + 2 + 60 * (intsOf 0 m).length) b' := hb'
    rw [intsOf_len] at hl hb'
    simp -implicitDefEqProofs [unlend]
    exact q t ns b' ht0 ht1 (by omega) hns (hb'.mono (by omega))
end G
set_option Elab.async false
set_option linter.all false
set_option maxRecDepth 100000
set_option maxHeartbeats 4000000
set_option exponentiation.threshold 10000
namespace G
open PySem PySem.Spec PyProof.Rows L2 VI Builtin.Int
theorem pickWord (n : Nat) {b : List D} (hb : Bx n b) (hn : n ≤ 2 ^ 30) : OkI (m_law_pick_v3 b [.list [.str "join", .str "split"]]) (fun r b' => (∃ v : Bool, r = .fz (.str (wdB v))) ∧ Bx (n + 1) b') := by
  obtain ⟨r, b', h1, d, hd, h2, h3⟩ := pick3_ok n (ds := [.str "join", .str "split"]) hb hn (by simp) (by simp)
  refine ⟨r, b', h1, ?_, h3⟩
  simp only [List.mem_cons, List.not_mem_nil, or_false] at hd
  rcases hd with rfl | rfl
  · exact ⟨true, h2⟩
  · exact ⟨false, h2⟩
def TapeOk (qs : List (Bool × Nat)) : Prop := ∀ i ∈ qs, i.2 < 10 ^ 50
theorem tapeOk_nil : TapeOk [] := fun i h => by cases h
theorem TapeOk.add {qs : List (Bool × Nat)} (h : TapeOk qs) {w : Bool} {u : Nat} (hu : u < 10 ^ 50) : TapeOk (qs ++ [(w, u)]) := fun x hx => by
  rcases List.mem_append.mp hx with k | k
  · exact h x k
  · rw [List.mem_singleton.mp k]; exact hu
abbrev raB : List St1 := [(parS [8, 9] [(eLst (toDs [])), (eLst (toDs []))]), (forS (rng1 (eI m_law_draw_v2 0 (toDs [(eC (.int 20))]))) (tgV 3) (block [(exprS (eM fmApp 8 (toDs [(eTup (toDs [(eI m_law_pick_v3 0 (toDs [(eLst (toDs [(eC (.str "join")), (eC (.str "split"))]))])), (eI m_law_draw_v2 0 (toDs [(eI m_law_pick_v3 0 (toDs [(eLst (toDs [(eC (.int 12)), (bin2 powD (eC (.int 10)) (eC (.int 9)))]))]))]))]))])))]))]
theorem raB_ok (n : Nat) {b : List D} (hb : Bx n b) (hn : n ≤ 2 ^ 27) {s1 s2 : Sv} {Q : Po Fl}
    (q : ∀ (qs : List (Bool × Nat)) (b' : List D) (w3 : Option Sv), qs.length ≤ 20 → TapeOk qs → Fr w3 → Bx (n + 2000) b' →
      Q .nx [some (.io b'), some s1, some s2, w3, none, none, none, none, some (.own (qs.map dS)), some (.own []), none, none, none, none]) :
    Ok (block raB [some (.io b), some s1, some s2, none, none, none, none, none, none, none, none, none, none, none]) Q := by
  unfold raB
  simp -implicitDefEqProofs
  refine okIo_of (drawV n (span := 20) hb (by omega) (by omega) (by omega)) fun r b2 ⟨v, hr, hv0, hv1, hb2⟩ => ?_
  subst hr
  obtain ⟨m, rfl⟩ := Int.eq_ofNat_of_zero_le hv0
  have hR := inR_nat (n := m) (by omega)
  have p1 : powOk 10 9 = true := by decide
  simp -implicitDefEqProofs [hR]
  refine for_okN (fun i e => ∃ (qs : List (Bool × Nat)) (b' : List D) (w3 : Option Sv), qs.length = i ∧ TapeOk qs ∧ Fr w3 ∧ Bx (n + 1 + 70 * i) b' ∧ e = [some (.io b'), some s1, some s2, w3, none, none, none, none, some (.own (qs.map dS)), some (.own []), none, none, none, none]) ⟨[], b2, none, rfl, tapeOk_nil, by simp, hb2, rfl⟩ ?_ ?_
  · rintro i d e hd ⟨qs, b', w3, hl, hq, h3, hb', rfl⟩
    obtain ⟨hi, rfl⟩ := intsOf_get hd
    have hi : i < m := hi
    refine ⟨_, tgV_fr rfl h3, ?_⟩
    simp -implicitDefEqProofs [p1]
    refine okIo_of (pickWord _ hb' (by omega)) fun r b3 ⟨⟨w, hr⟩, hb3⟩ => ?_
    subst hr
    simp -implicitDefEqProofs [p1]
    have hp := pickNat _ (l := [12, 1000000000]) (m := 10 ^ 40) hb3 (by omega) (by simp) (by simp) (by decide)
    have e9 : ([12, 1000000000] : List Nat).map dN = [.int 12, .int 1000000000] := rfl
    rw [e9] at hp
    refine okIo_of hp fun r b4 ⟨t, hr, ht0, ht1, hb4⟩ => ?_
    subst hr
    simp -implicitDefEqProofs
    refine okIo_of (drawBig _ hb4 (by omega) ht0 ht1) fun r b5 ⟨u, hr, hu, hb5⟩ => ?_
    subst hr
    have hlt : qs.length < 16777216 := by omega
    simp -implicitDefEqProofs [hlt]
    have h40 : (10 : Nat) ^ 40 < 10 ^ 50 := by decide
    refine ⟨qs ++ [(w, u)], by simp [hl], hq.add (by omega), b5, some (.fz (.int (i : Int))), by simp, hb5.mono (by omega), rfl, rfl, ?_⟩
    rw [List.map_append]; rfl
  · rintro e ⟨qs, b', w3, hl, hq, h3, hb', rfl⟩
    have hl : qs.length = (intsOf 0 m).length := hl
    have hb' : Bx (n + 1 + 70 * (intsOf 0 m).length) b' := hb'
    rw [intsOf_len] at hl hb'
    exact q qs b' w3 (by omega) hq h3 (hb'.mono (by omega))
def BlkOk (bs : List (Nat × Nat)) : Prop := ∀ q ∈ bs, 1 ≤ q.1 ∧ q.1 < 10 ^ 50 ∧ 1 ≤ q.2 ∧ q.2 < 10 ^ 50
theorem blkOk_nil : BlkOk [] := fun i h => by cases h
theorem BlkOk.add {qs : List (Nat × Nat)} (h : BlkOk qs) {w u : Nat} (hu : 1 ≤ w ∧ w < 10 ^ 50 ∧ 1 ≤ u ∧ u < 10 ^ 50) : BlkOk (qs ++ [(w, u)]) := fun x hx => by
  rcases List.mem_append.mp hx with k | k
  · exact h x k
  · rw [List.mem_singleton.mp k]; exact hu
theorem adjE_add : ∀ {l : List (Nat × Nat)} {q : Nat × Nat}, adjE l = false → (∀ p, l.getLast? = some p → p.1 ≠ q.1) → adjE (l ++ [q]) = false
  | [], _, _, _ => rfl
  | [a], q, _, h => by
    show (decide (a.1 = q.1) || false) = false
    rw [decide_eq_false (h a rfl)]; rfl
  | a :: b :: r, q, h1, h2 => by
    have h3 : (decide (a.1 = b.1) || adjE (b :: r)) = false := h1
    rw [Bool.or_eq_false_iff] at h3
    show (decide (a.1 = b.1) || adjE ((b :: r) ++ [q])) = false
    rw [h3.1, adjE_add h3.2 fun p hp => h2 p (by rw [List.getLast?_cons_cons]; exact hp)]
    rfl
def O2 (x : Option Sv) : Prop := x = none ∨ ∃ d, x = some (.fz d)
theorem O2.fr {x : Option Sv} (h : O2 x) : Fr x := by rcases h with rfl | ⟨d, rfl⟩ <;> simp
theorem O2.bk {x : Option Sv} (h : O2 x) : bkO x = x := by rcases h with rfl | ⟨d, rfl⟩ <;> rfl
theorem o2_none : O2 none := .inl rfl
theorem o2_fz (d : D) : O2 (some (.fz d)) := .inr ⟨d, rfl⟩
abbrev raC : List St1 := [(forS (rng1 (eI m_law_draw_v2 0 (toDs [(eC (.int 6))]))) (tgV 3) (block [(asgS 10 (bin2 addD (eC (.int 1)) (eI m_law_draw_v2 0 (toDs [(eV 1)])))), (ifS (orT (tst (bin2 eqD (eV 9) (eLst (toDs [])))) (tst (bin2 neD (bin2 ixD (bin2 ixD (eV 9) (un1 negD (eC (.int 1)))) (eC (.int 0))) (eV 10)))) (block [(exprS (eM fmApp 9 (toDs [(eTup (toDs [(eV 10), (bin2 addD (eC (.int 1)) (eI m_law_draw_v2 0 (toDs [(eI m_law_pick_v3 0 (toDs [(eLst (toDs [(eC (.int 3)), (bin2 powD (eC (.int 10)) (eC (.int 30)))]))]))])))]))])))]) (block []))]))]
theorem eqB_nil (r : List (Nat × Nat)) (p : Nat × Nat) : eqD (.list (r.map blkD ++ [blkD p])) (.list []) = some (.fz (.bool false)) := by
  have e : r.map blkD ++ [blkD p] = (r ++ [p]).map blkD := by rw [List.map_append]; rfl
  have h1 : SeqAt.shaped (.list ((r ++ [p]).map blkD)) = true := shaped_all fun d hd => by
    obtain ⟨q, _, rfl⟩ := List.mem_map.mp hd
    have h := fl_pair (.int (q.1 : Int)) (.int (q.2 : Int)) (lay_int _) (lay_int _)
    exact ⟨h.lay, h.dp⟩
  have h2 : SeqAt.shaped (.list []) = true := shaped_all fun d hd => (by cases hd)
  rw [e]
  unfold eqD
  rw [h1, h2, Bool.and_self, Bool.or_true, if_pos rfl]
  cases r <;> simp [PyData.eqv, PyData.eqvAll]
theorem ixL2 (ds : List D) (d : D) : ixD (.list (ds ++ [d])) (.int (-1)) = some (.fz d) := by
  show (atI (ds ++ [d]) (-1)).map Rv.fz = _
  rw [atLast]; rfl
theorem ixB2 (q : Nat × Nat) : ixD (blkD q) (.int 0) = some (.fz (.int (q.1 : Int))) := rfl
theorem raC_ok (n : Nat) {b : List D} (hb : Bx n b) (hn : n ≤ 2 ^ 27) {t : Nat} (ht0 : 0 < t) (ht1 : t ≤ 10 ^ 40) {s2 s8 : Sv} {w3 : Option Sv} (h3 : Fr w3) {Q : Po Fl}
    (q : ∀ (bs : List (Nat × Nat)) (b' : List D) (w3 w10 : Option Sv), bs.length ≤ 6 → BlkOk bs → adjE bs = false → Fr w3 → O2 w10 → Bx (n + 2000) b' →
      Q .nx [some (.io b'), some (.fz (.int (t : Int))), some s2, w3, none, none, none, none, some s8, some (.own (bs.map blkD)), w10, none, none, none]) :
    Ok (block raC [some (.io b), some (.fz (.int (t : Int))), some s2, w3, none, none, none, none, some s8, some (.own []), none, none, none, none]) Q := by
  unfold raC
  simp -implicitDefEqProofs
  refine okIo_of (drawV n (span := 6) hb (by omega) (by omega) (by omega)) fun r b2 ⟨v, hr, hv0, hv1, hb2⟩ => ?_
  subst hr
  obtain ⟨m, rfl⟩ := Int.eq_ofNat_of_zero_le hv0
  have hR := inR_nat (n := m) (by omega)
  have p1 : powOk 10 30 = true := by decide
  have h40 : (10 : Nat) ^ 40 + 1 < 10 ^ 50 := by decide
  simp -implicitDefEqProofs [hR]
  refine for_okN (fun i e => ∃ (bs : List (Nat × Nat)) (b' : List D) (w3 w10 : Option Sv), bs.length ≤ i ∧ BlkOk bs ∧ adjE bs = false ∧ Fr w3 ∧ O2 w10 ∧ Bx (n + 1 + 200 * i) b' ∧ e = [some (.io b'), some (.fz (.int (t : Int))), some s2, w3, none, none, none, none, some s8, some (.own (bs.map blkD)), w10, none, none, none]) ⟨[], b2, w3, none, by simp, blkOk_nil, rfl, h3, o2_none, hb2, rfl⟩ ?_ ?_
  · rintro i d e hd ⟨bs, b', w3, w10, hl, hq, ha, h3, h10, hb', rfl⟩
    obtain ⟨hi, rfl⟩ := intsOf_get hd
    have hi : i < m := hi
    refine ⟨_, tgV_fr rfl h3, ?_⟩
    simp -implicitDefEqProofs
    refine okIo_of (drawBig _ hb' (by omega) ht0 ht1) fun r b3 ⟨w, hr, hw, hb3⟩ => ?_
    subst hr
    have hp := pickNat _ (l := [3, 1000000000000000000000000000000]) (m := 10 ^ 40) hb3 (by omega) (by simp) (by simp) (by decide)
    have e9 : ([3, 1000000000000000000000000000000] : List Nat).map dN = [.int 3, .int 1000000000000000000000000000000] := rfl
    rw [e9] at hp
    have hlt : bs.length < 16777216 := by omega
    have e1 : (1 : Int) + (w : Int) = ((1 + w : Nat) : Int) := by omega
    have nxt : ∀ (b5 : List D) (u : Nat), Bx (n + 1 + 200 * i + 60 + 1 + 60) b5 → u < 10 ^ 40 → (∀ p, bs.getLast? = some p → p.1 ≠ 1 + w) → ∃ bs' : List (Nat × Nat), bs'.length ≤ i + 1 ∧ BlkOk bs' ∧ adjE bs' = false ∧ ∃ (x : List D) (y : Option Sv), Fr y ∧ ∃ z : Option Sv, O2 z ∧ Bx (n + 1 + 200 * (i + 1)) x ∧ b5 = x ∧ some (.fz (.int (i : Int))) = y ∧ bs.map blkD ++ [.tuple [.int (1 + (w : Int)), .int (1 + (u : Int))]] = bs'.map blkD ∧ some (.fz (.int (1 + (w : Int)))) = z := by
      intro b5 u hb5 hu hl2
      refine ⟨bs ++ [(1 + w, 1 + u)], by simp; omega, hq.add ⟨by omega, by omega, by omega, by omega⟩, adjE_add ha hl2, b5, some (.fz (.int (i : Int))), by simp, some (.fz (.int (1 + (w : Int)))), o2_fz _, hb5.mono (by omega), rfl, rfl, ?_, rfl⟩
      rw [List.map_append]
      show _ = _ ++ [PyData.tuple [.int ((1 + w : Nat) : Int), .int ((1 + u : Nat) : Int)]]
      rw [Int.natCast_add, Int.natCast_add]; rfl
    rcases List.eq_nil_or_concat bs with e | ⟨r, p, e⟩
    · subst e
      have hn : eqD (.list []) (.list []) = some (.fz (.bool true)) := by kernel_rfl
      simp -implicitDefEqProofs [okP_fr h10.fr, hn, p1]
      refine okIo_of hp fun r b4 ⟨k, hr, hk0, hk1, hb4⟩ => ?_
      subst hr
      simp -implicitDefEqProofs
      refine okIo_of (drawBig _ hb4 (by omega) hk0 hk1) fun r b5 ⟨u, hr, hu, hb5⟩ => ?_
      subst hr
      simp -implicitDefEqProofs
      exact nxt b5 u hb5 (by omega) (fun p hp => by cases hp)
    · rw [List.concat_eq_append] at e
      subst e
      have hn := eqB_nil r p
      have hL := ixL2 (r.map blkD) (blkD p)
      have hB := ixB2 p
      simp -implicitDefEqProofs [okP_fr h10.fr, hn, hL, hB, p1]
      by_cases hpw : p.1 = 1 + w
      · have hpw2 : (p.1 : Int) = 1 + (w : Int) := by omega
        rw [if_pos hpw2]
        exact ⟨r ++ [p], by omega, hq, ha, b3, some (.fz (.int (i : Int))), by simp, some (.fz (.int (1 + (w : Int)))), o2_fz _, hb3.mono (by omega), rfl, rfl, by rw [List.map_append]; rfl, rfl⟩
      · have hpw2 : ¬ (p.1 : Int) = 1 + (w : Int) := by omega
        rw [if_neg hpw2]
        refine okIo_of hp fun r' b4 ⟨k, hr, hk0, hk1, hb4⟩ => ?_
        subst hr
        simp -implicitDefEqProofs
        refine okIo_of (drawBig _ hb4 (by omega) hk0 hk1) fun r' b5 ⟨u, hr, hu, hb5⟩ => ?_
        subst hr
        have hlr : r.length + 1 < 16777216 := by rw [List.length_append] at hlt; exact hlt
        simp -implicitDefEqProofs [hlr]
        have := nxt b5 u hb5 (by omega) (fun p' hp' => by
          rw [List.getLast?_append] at hp'
          cases hp'
          exact hpw)
        rw [List.map_append, List.append_assoc] at this
        exact this
  · rintro e ⟨bs, b', w3, w10, hl, hq, ha, h3, h10, hb', rfl⟩
    have hl : bs.length ≤ (intsOf 0 m).length := hl
    have hb' : Bx (n + 1 + 200 * (intsOf 0 m).length) b' := hb'
    rw [intsOf_len] at hl hb'
    exact q bs b' w3 w10 (by omega) hq ha h3 h10 (hb'.mono (by omega))
end G
set_option Elab.async false
set_option linter.all false
set_option maxRecDepth 100000
set_option maxHeartbeats 4000000
set_option exponentiation.threshold 10000
namespace G
open PySem PySem.Spec PyProof.Rows L2 VI Builtin.Int
abbrev raD : List St1 := [(asgS 4 (eLst (toDs [(eF m_law_joined_v3 (toDs [(lcS (srcE (eV 2)) (tgV 10) yesT (eB (on1 strD) (opds [(eV 10)])) [10])])), (eF m_law_joined_v3 (toDs [(lcS (srcE (eV 8)) (tgT [(tgV 11), (tgV 12)]) yesT (bin2 addD (bin2 ixD (eV 11) (eC (.int 0))) (eB (on1 strD) (opds [(eV 12)]))) [11, 12])]))]))), (exprS (eM fmApp 4 (toDs [(eF m_law_joined_v3 (toDs [(lcS (srcE (eV 9)) (tgT [(tgV 10), (tgV 13)]) yesT (bin2 addD (bin2 addD (eB (on1 strD) (opds [(eV 10)])) (eC (.str "x"))) (eB (on1 strD) (opds [(eV 13)]))) [10, 13])]))])))]
theorem strOk_tl {z : Str} (h : ∀ c ∈ TL.tl z, c < 1000) : PyData.strOk z = true := by
  unfold PyData.strOk
  rw [← Array.all_toList, List.all_eq_true]
  intro c hc
  have := h c hc
  exact decide_eq_true (by omega)
theorem strOk_nT (n : Nat) : PyData.strOk (nT n) = true := strOk_tl fun c hc => by
  rw [tl_nT] at hc
  have := numL_dg hc; omega
theorem strOk_tS (q : Bool × Nat) : PyData.strOk (tS q) = true := strOk_tl fun c hc => by
  rw [tl_tS] at hc
  rcases List.mem_cons.mp hc with h | h
  · split at h <;> omega
  · have := numL_dg h; omega
theorem strOk_tB (q : Nat × Nat) : PyData.strOk (tB q) = true := strOk_tl fun c hc => by
  rw [tl_tB] at hc
  rcases List.mem_append.mp hc with h | h
  · have := numL_dg h; omega
  · rcases List.mem_append.mp h with h | h
    · rw [List.mem_singleton] at h; omega
    · have := numL_dg h; omega
theorem joinRow {ns : List Nat} (h : ∀ n ∈ ns, n < 10 ^ 50) (hl : ns.length ≤ 1000) : m_law_joined_v3 [.list (ns.map fun n => .str (nT n))] = some (.ok (.fz (.str (jn (ns.map nT))))) := by
  rw [map_str]
  exact law_joined_ok (by rw [List.length_map]; exact hl) (nT_1000 h) fun w hw => by
    obtain ⟨n, _, rfl⟩ := List.mem_map.mp hw
    exact strOk_nT n
theorem joinSteps {qs : List (Bool × Nat)} (h : TapeOk qs) (hl : qs.length ≤ 1000) : m_law_joined_v3 [.list (qs.map fun n => .str (tS n))] = some (.ok (.fz (.str (jn (qs.map tS))))) := by
  rw [map_str]
  exact law_joined_ok (by rw [List.length_map]; exact hl) (tS_1000 h) fun w hw => by
    obtain ⟨n, _, rfl⟩ := List.mem_map.mp hw
    exact strOk_tS n
theorem joinBlocks {qs : List (Nat × Nat)} (h : BlkOk qs) (hl : qs.length ≤ 1000) : m_law_joined_v3 [.list (qs.map fun n => .str (tB n))] = some (.ok (.fz (.str (jn (qs.map tB))))) := by
  rw [map_str]
  exact law_joined_ok (by rw [List.length_map]; exact hl) (tB_1000 fun q hq => ⟨(h q hq).2.1, (h q hq).2.2.2⟩) fun w hw => by
    obtain ⟨n, _, rfl⟩ := List.mem_map.mp hw
    exact strOk_tB n
theorem ixW (b : Bool) : ixD (.str (wdB b)) (.int 0) = some (.fz (.str (ltB b))) := by cases b <;> kernel_rfl
theorem raD_ok {b : List D} {t : Nat} {ns : List Nat} (hl : ns.length ≤ 12) (hns : ∀ i ∈ ns, 1 ≤ i ∧ i < 10 ^ 50) {qs : List (Bool × Nat)} (hq : TapeOk qs) (hql : qs.length ≤ 20) {bs : List (Nat × Nat)} (hbs : BlkOk bs) (hbl : bs.length ≤ 6) {w3 w10 : Option Sv} (h10 : O2 w10) {Q : Po Fl}
    (q : Q .nx [some (.io b), some (.fz (.int (t : Int))), some (.fz (.tuple (ns.map dN))), w3, some (.own [.str (jn (ns.map nT)), .str (jn (qs.map tS)), .str (jn (bs.map tB))]), none, none, none, some (.own (qs.map dS)), some (.own (bs.map blkD)), w10, none, none, none]) :
    Ok (block raD [some (.io b), some (.fz (.int (t : Int))), some (.fz (.tuple (ns.map dN))), w3, none, none, none, none, some (.own (qs.map dS)), some (.own (bs.map blkD)), w10, none, none, none]) Q := by
  unfold raD
  have j1 := joinRow (fun n hn => (hns n hn).2) (by omega : ns.length ≤ 1000)
  have j2 := joinSteps hq (by omega)
  have j3 := joinBlocks hbs (by omega)
  generalize jn (ns.map nT) = R at *
  generalize jn (qs.map tS) = S at *
  generalize jn (bs.map tB) = B at *
  simp -implicitDefEqProofs
  refine lcN_ok ns dN (fun n => .str (nT n)) rfl (by omega) (by simp [tgV]) ?_ ?_
  · intro n hn
    have h1 := str_nT (big50 (hns n hn).2)
    refine ⟨_, rfl, ?_⟩
    simp -implicitDefEqProofs [h1, wipeE]
  · generalize (ns.map fun n => PyData.str (nT n)) = L1 at *
    simp -implicitDefEqProofs [j1, unlend, h10.bk]
    refine lcN_ok qs dS (fun q => .str (tS q)) rfl (by omega) (by simp [tgV, tgT]) ?_ ?_
    · intro q hqm
      have h1 := str_nT (big50 (hq q hqm))
      have h2 := ixW q.1
      have h3 := addS (x := ltB q.1) (y := nT q.2) (by rw [ltB_len]; have := len_nT (hq q hqm); omega)
      have h4 : tS q = ltB q.1 ++ nT q.2 := rfl
      refine ⟨_, rfl, ?_⟩
      rw [h4]
      generalize ltB q.1 ++ nT q.2 = o at *
      generalize nT q.2 = t2 at *
      generalize ltB q.1 = l at *
      simp -implicitDefEqProofs [h1, h2, h3, wipeE]
    · generalize (qs.map fun n => PyData.str (tS n)) = L2 at *
      simp -implicitDefEqProofs [j2, unlend]
      refine lcN_ok bs blkD (fun q => .str (tB q)) rfl (by omega) (by simp [tgV, tgT]) ?_ ?_
      · intro q hqm
        have hb := hbs q hqm
        have l1 := len_nT hb.2.1
        have l2 := len_nT hb.2.2.2
        have h1 := str_nT (big50 hb.2.1)
        have h2 := str_nT (big50 hb.2.2.2)
        have h3 := addS (x := nT q.1) (y := "x") (by rw [x_len]; omega)
        have h4 := addS (x := nT q.1 ++ "x") (y := nT q.2) (by rw [app_len, x_len]; omega)
        have h5 : tB q = nT q.1 ++ "x" ++ nT q.2 := rfl
        refine ⟨_, rfl, ?_⟩
        rw [h5]
        generalize nT q.1 ++ "x" ++ nT q.2 = o at *
        generalize nT q.1 ++ "x" = o1 at *
        simp -implicitDefEqProofs [h1, h2, h3, h4, wipeE]
      · generalize (bs.map fun n => PyData.str (tB n)) = L3 at *
        simp -implicitDefEqProofs [j3, unlend, h10.bk]
        exact q
end G
set_option Elab.async false
set_option linter.all false
set_option maxRecDepth 100000
set_option maxHeartbeats 4000000
namespace G
open PySem PySem.Spec PyProof.Rows L2 VI Builtin.Int
theorem zip_same3 {α : Type} : ∀ l : List α, l.zip l = l.map fun x => (x, x)
  | [] => rfl
  | x :: l => by rw [List.zip_cons_cons, zip_same3 l]; rfl
theorem zipD_self_mem3 {ds : List D} {x : D} (h : x ∈ zipD ds ds) : ∃ y ∈ ds, x = .tuple [y, y] := by
  unfold zipD at h
  obtain ⟨p, hp, rfl⟩ := List.mem_map.mp h
  rw [zip_same3] at hp
  obtain ⟨y, hy, rfl⟩ := List.mem_map.mp hp
  exact ⟨y, hy, rfl⟩
theorem all_true3 (ds : List D) : allD (.list (ds.map fun _ => PyData.bool true)) = some (.fz (.bool true)) := by
  have h := allD_map (bs := ds.map fun _ => true)
  rw [List.map_map] at h
  rw [show (fun (_ : D) => PyData.bool true) = PyData.bool ∘ (fun _ => true) from rfl, h]
  congr 3
  rw [List.all_map, List.all_eq_true]
  intro x _; rfl
theorem same_refl3 : ∀ (k : Nat) {d : D} {B W N : Nat}, Sz B W N d → N < k → W ≤ 16000000 → r_law_same_v3 k [d, d] = some (.ok (.fz (.bool true))) := by
  intro k
  induction k with
  | zero => intro d B W N h hN; omega
  | succ k ih =>
    intro d B W N h hN hW
    have sub : ∀ {ds : List D}, SzAll B W (N - 1) ds → 0 < N → ∀ y ∈ ds, r_law_same_v3 k [y, y] = some (.ok (.fz (.bool true))) := by
      intro ds ha h0 y hy
      obtain ⟨i, hi, rfl⟩ := List.getElem_of_mem hy
      have h1 := ha.at (List.getElem?_eq_getElem hi)
      exact ih h1.1 (by omega) (by omega)
    have lc : ∀ {ds : List D} (x : D), SzAll B W (N - 1) ds → 0 < N → ∀ Q : Po Rv, Q (.fresh ((zipD ds ds).map fun _ => .bool true)) [some (.fz x), some (.fz x), none, none] → kLc (tgT [(tgV 2), (tgV 3)]) yesT (eF (r_law_same_v3 k) (toDs [(eV 2), (eV 3)])) [2, 3] Q ⟨zipD ds ds, []⟩ [some (.fz x), some (.fz x), none, none] := by
      intro ds x ha h0 Q hq
      have hl : ds.length ≤ W := Nat.le_trans (len_le_weight ds) ha.wt
      refine lcM_ok (fun _ => .bool true) (by rw [zipD_len]; simp; omega) (by simp [tgT, tgV]) ?_ ?_
      · intro y hy
        obtain ⟨z, hz, rfl⟩ := zipD_self_mem3 hy
        have hs := sub ha h0 z hz
        simp -implicitDefEqProofs [hs]
      · simpa using hq
    show fnF (b_law_same_v3 (r_law_same_v3 k)) 4 [d, d] = _
    refine fnF_is ?_
    cases d with
    | none => simp -implicitDefEqProofs [b_law_same_v3, isLstB, isTupB, isStrB, isBoolB, isIntB, isNone, show eqD .none .none = some (.fz (.bool true)) from rfl]
    | bool z => simp -implicitDefEqProofs [b_law_same_v3, isLstB, isTupB, isStrB, isBoolB, isIntB, isNone]
    | int z => simp -implicitDefEqProofs [b_law_same_v3, isLstB, isTupB, isStrB, isBoolB, isIntB, isNone]
    | str z => simp -implicitDefEqProofs [b_law_same_v3, isLstB, isTupB, isStrB, isBoolB, isIntB, isNone]
    | dict z => have := h.good; simp [VI.good] at this
    | list ds =>
      obtain ⟨ha, h0⟩ := h.of_list
      simp -implicitDefEqProofs [b_law_same_v3, isLstB, isTupB]
      exact lc _ ha h0 _ (by simp -implicitDefEqProofs [all_true3])
    | tuple ds =>
      obtain ⟨ha, h0⟩ := h.of_tuple
      simp -implicitDefEqProofs [b_law_same_v3, isLstB, isTupB]
      exact lc _ ha h0 _ (by simp -implicitDefEqProofs [all_true3])
theorem law_same3_refl {d : D} {B W N : Nat} (h : Sz B W N d) (hN : N < 60) (hW : W ≤ 16000000) : m_law_same_v3 [d, d] = some (.ok (.fz (.bool true))) := same_refl3 60 h hN hW
end G
set_option Elab.async false
set_option linter.all false
set_option maxRecDepth 100000
set_option maxHeartbeats 4000000
set_option exponentiation.threshold 10000
namespace G
open PySem PySem.Spec PyProof.Rows L2 VI Builtin.Int
theorem joinL_mem {S : List Nat} : ∀ {ls : List (List Nat)} {c : Nat}, c ∈ TL.joinL S ls → c ∈ S ∨ ∃ l ∈ ls, c ∈ l
  | [], _, h => by cases h
  | [p], c, h => .inr ⟨p, List.mem_cons_self, h⟩
  | p :: q :: r, c, h => by
    have hc : c ∈ p ++ (S ++ TL.joinL S (q :: r)) := h
    rcases List.mem_append.mp hc with h | h
    · exact .inr ⟨p, List.mem_cons_self, h⟩
    · rcases List.mem_append.mp h with h | h
      · exact .inl h
      · rcases joinL_mem h with h | ⟨l, hl, h⟩
        · exact .inl h
        · exact .inr ⟨l, List.mem_cons_of_mem _ hl, h⟩
theorem strOk_of {z : Str} (h : PyData.strOk z = true) : ∀ c ∈ TL.tl z, c < 0x110000 := fun c hc => by
  unfold PyData.strOk at h
  rw [← Array.all_toList, List.all_eq_true] at h
  exact of_decide_eq_true (h c hc)
theorem strOk_jn {ws : List Str} (h : ∀ w ∈ ws, PyData.strOk w = true) : PyData.strOk (jn ws) = true := by
  unfold PyData.strOk
  rw [← Array.all_toList, List.all_eq_true]
  intro c hc
  have hc : c ∈ TL.tl (jn ws) := hc
  refine decide_eq_true ?_
  unfold jn at hc
  split at hc
  · rw [tl_min] at hc
    rw [List.mem_singleton.mp hc]; omega
  · rw [tl_mkS] at hc
    rcases joinL_mem hc with h1 | ⟨l, hl, h1⟩
    · rw [List.mem_singleton.mp h1]; omega
    · obtain ⟨w, hw, rfl⟩ := List.mem_map.mp hl
      exact strOk_of (h w hw) c h1
/-- a short and well made text -/
structure Okz (z : Str) : Prop where
  ok : PyData.strOk z = true
  len : z.length ≤ 2000000
theorem okz_row {ns : List Nat} (h : ∀ n ∈ ns, n < 10 ^ 50) (hl : ns.length ≤ 1000) : Okz (jn (ns.map nT)) := ⟨strOk_jn fun w hw => by
    obtain ⟨n, _, rfl⟩ := List.mem_map.mp hw
    exact strOk_nT n, jn_len (by rw [List.length_map]; exact hl) (nT_1000 h)⟩
theorem okz_steps {qs : List (Bool × Nat)} (h : TapeOk qs) (hl : qs.length ≤ 1000) : Okz (jn (qs.map tS)) := ⟨strOk_jn fun w hw => by
    obtain ⟨n, _, rfl⟩ := List.mem_map.mp hw
    exact strOk_tS n, jn_len (by rw [List.length_map]; exact hl) (tS_1000 h)⟩
theorem okz_blocks {qs : List (Nat × Nat)} (h : BlkOk qs) (hl : qs.length ≤ 1000) : Okz (jn (qs.map tB)) := ⟨strOk_jn fun w hw => by
    obtain ⟨n, _, rfl⟩ := List.mem_map.mp hw
    exact strOk_tB n, jn_len (by rw [List.length_map]; exact hl) (tB_1000 fun q hq => ⟨(h q hq).2.1, (h q hq).2.2.2⟩)⟩
theorem Okz.sz {z : Str} (h : Okz z) (N : Nat) : Sz 200 2000000 N (.str z) := ⟨by simp only [VI.good]; exact h.ok, by simp only [PyData.weight]; exact h.len, by simp only [PyData.depth]; omega⟩
theorem same6 {R S B : Str} (hR : Okz R) (hS : Okz S) (hB : Okz B) : m_law_same_v3 [.list [.str R, .str S, .str B, .str R, .str S, .str B], .list [.str R, .str S, .str B, .str R, .str S, .str B]] = some (.ok (.fz (.bool true))) := by
  have h := Sz.list (SzAll.cons (hR.sz 0) (SzAll.cons (hS.sz 0) (SzAll.cons (hB.sz 0) (SzAll.cons (hR.sz 0) (SzAll.cons (hS.sz 0) (SzAll.cons (hB.sz 0) (SzAll.nil (W := 0))))))))
  exact law_same3_refl h (by omega) (by omega)
theorem lists_int (k : Nat) (i : Int) : r_law_lists (k + 1) [.int i] = some (.ok (.fz (.int i))) := by
  show fnF (b_law_lists (r_law_lists k)) 2 [.int i] = _
  refine fnF_is ?_
  simp -implicitDefEqProofs [b_law_lists, isLstB, isTupB]
theorem lists_blk (k : Nat) (q : Nat × Nat) : r_law_lists (k + 2) [blkD q] = some (.ok (.fresh [.int (q.1 : Int), .int (q.2 : Int)])) := by
  show fnF (b_law_lists (r_law_lists (k + 1))) 2 [blkD q] = _
  refine fnF_is ?_
  have h1 := lists_int k (q.1 : Int)
  have h2 := lists_int k (q.2 : Int)
  unfold blkD
  simp -implicitDefEqProofs [b_law_lists, isLstB, isTupB]
  refine lcN_ok [q.1, q.2] dN dN rfl (by simp) (by simp [tgV]) ?_ ?_
  · intro n hn
    have h := lists_int k (n : Int)
    refine ⟨_, rfl, ?_⟩
    simp -implicitDefEqProofs [h, wipeE]
  · simp -implicitDefEqProofs
abbrev blkL (q : Nat × Nat) : D := .list [.int (q.1 : Int), .int (q.2 : Int)]
theorem lists_ok {bs : List (Nat × Nat)} (hl : bs.length ≤ 1000) : m_law_lists [.list (bs.map blkD)] = some (.ok (.fresh (bs.map blkL))) := by
  show fnF (b_law_lists (r_law_lists 59)) 2 [.list (bs.map blkD)] = _
  refine fnF_is ?_
  simp -implicitDefEqProofs [b_law_lists, isLstB, isTupB]
  refine lcN_ok bs blkD blkL rfl (by omega) (by simp [tgV]) ?_ ?_
  · intro q hq
    have h := lists_blk 57 q
    refine ⟨_, rfl, ?_⟩
    generalize blkD q = d at *
    simp -implicitDefEqProofs [h, wipeE]
  · simp -implicitDefEqProofs
abbrev raE : List St1 := [(asgN 5 (nLst (news [(nv (eF m_row_text (toDs [(eV 2)]))), (nv (eF m_steps_text (toDs [(eV 8)]))), (nv (eF m_blocks_text (toDs [(eV 9)])))]))), (asgN 5 (nv (bin2 addD (eVL 5) (eLst (toDs [(eFK m_row_text [0] 1 (toDs [(eB (on1 lstD) (opds [(eV 2)]))])), (eFK m_steps_text [0] 1 (toDs [(eB (on1 tupD) (opds [(eV 8)]))]))]))))), (exprS (eM fmApp 5 (toDs [(eFK m_blocks_text [0] 1 (toDs [(eF m_law_lists (toDs [(eV 9)]))]))]))), (ifS (notT (lentT (tst (eF m_law_same_v3 (toDs [(eV 5), (bin2 addD (eV 4) (eV 4))]))))) (block [(retS (eC (.bool false)))]) (block []))]
theorem raE_ok {b : List D} {s1 : Sv} {ns : List Nat} (hl : ns.length ≤ 12) (hns : ∀ i ∈ ns, 1 ≤ i ∧ i < 10 ^ 50) {qs : List (Bool × Nat)} (hq : TapeOk qs) (hql : qs.length ≤ 20) {bs : List (Nat × Nat)} (hbs : BlkOk bs) (hbl : bs.length ≤ 6) {w3 w10 : Option Sv} {Q : Po Fl}
    (q : ∀ L5 : List D, Q .nx [some (.io b), some s1, some (.fz (.tuple (ns.map dN))), w3, some (.own [.str (jn (ns.map nT)), .str (jn (qs.map tS)), .str (jn (bs.map tB))]), some (.own L5), none, none, some (.fz (.list (qs.map dS))), some (.fz (.list (bs.map blkD))), w10, none, none, none]) :
    Ok (block raE [some (.io b), some s1, some (.fz (.tuple (ns.map dN))), w3, some (.own [.str (jn (ns.map nT)), .str (jn (qs.map tS)), .str (jn (bs.map tB))]), none, none, none, some (.own (qs.map dS)), some (.own (bs.map blkD)), w10, none, none, none]) Q := by
  have zR := okz_row (fun n hn => (hns n hn).2) (by omega : ns.length ≤ 1000)
  have zS := okz_steps hq (by omega)
  have zB := okz_blocks hbs (by omega)
  have t1 := row_text_ok (fun n hn => (hns n hn).2) (by omega : ns.length ≤ 1000) (R := .tuple (ns.map dN)) (.inl rfl)
  have t2 := row_text_ok (fun n hn => (hns n hn).2) (by omega : ns.length ≤ 1000) (R := .list (ns.map dN)) (.inr rfl)
  have t3 := steps_text_ok hq (by omega : qs.length ≤ 1000) (R := .list (qs.map dS)) (.inr rfl)
  have t4 := steps_text_ok hq (by omega : qs.length ≤ 1000) (R := .tuple (qs.map dS)) (.inl rfl)
  have t5 := blocks_text_ok (fun q hq => ⟨(hbs q hq).2.1, (hbs q hq).2.2.2⟩) (by omega : bs.length ≤ 1000) (R := .list (bs.map blkD)) (.inr (.inl rfl))
  have t6 := blocks_text_ok (fun q hq => ⟨(hbs q hq).2.1, (hbs q hq).2.2.2⟩) (by omega : bs.length ≤ 1000) (R := .list (bs.map blkL)) (.inr (.inr rfl))
  have t7 := lists_ok (bs := bs) (by omega)
  have hs := same6 zR zS zB
  unfold raE
  generalize jn (ns.map nT) = R at *
  generalize jn (qs.map tS) = S at *
  generalize jn (bs.map tB) = B at *
  simp -implicitDefEqProofs [t1, t2, t3, t4, t5, t6, t7, hs]
  exact q _
end G
set_option Elab.async false
set_option linter.all false
set_option maxRecDepth 100000
set_option maxHeartbeats 4000000
set_option exponentiation.threshold 10000
namespace G
open PySem PySem.Spec PyProof.Rows L2 VI Builtin.Int
theorem sz_nat2 {n : Nat} (h : n < 10 ^ 50) (N : Nat) : Sz 200 200 N (.int (n : Int)) := Sz.int (by rw [Int.natAbs_natCast]; exact Nat.lt_of_lt_of_le h (by decide))
theorem sz_all2 {B W N : Nat} : ∀ {ds : List D}, (∀ d ∈ ds, Sz B W N d) → SzAll B (ds.length * (W + 1)) N ds
  | [], _ => SzAll.nil
  | d :: ds, h => by
    have h1 := SzAll.cons (h d List.mem_cons_self) (sz_all2 fun x hx => h x (List.mem_cons_of_mem _ hx))
    refine h1.mono (Nat.le_refl _) ?_ (Nat.le_refl _)
    rw [List.length_cons, Nat.succ_mul]
    omega
theorem sz_pair2 {a b : D} (ha : Sz 200 200 0 a) (hb : Sz 200 200 0 b) : Sz 200 402 1 (.tuple [a, b]) := Sz.tuple ((SzAll.cons ha (SzAll.cons hb (SzAll.nil (W := 0)))).mono (Nat.le_refl _) (by omega) (Nat.le_refl _))
theorem sz_wd (b : Bool) : Sz 200 200 0 (.str (wdB b)) := by
  refine ⟨?_, ?_, by simp only [PyData.depth]; omega⟩
  · simp only [VI.good]; cases b <;> decide +kernel
  · simp only [PyData.weight]; cases b <;> decide +kernel
theorem sz_tape {qs : List (Bool × Nat)} (h : TapeOk qs) (hl : qs.length ≤ 1000) : SzAll 200 1000000 1 (qs.map dS) :=
  (sz_all2 (B := 200) (W := 402) (N := 1) fun d hd => by
    obtain ⟨q, hq, rfl⟩ := List.mem_map.mp hd
    exact sz_pair2 (sz_wd q.1) (sz_nat2 (h q hq) 0)).mono (Nat.le_refl _) (by rw [List.length_map]; exact Nat.le_trans (Nat.mul_le_mul hl (Nat.le_refl 403)) (by omega)) (Nat.le_refl _)
theorem sz_blocks {qs : List (Nat × Nat)} (h : BlkOk qs) (hl : qs.length ≤ 1000) : SzAll 200 1000000 1 (qs.map blkD) :=
  (sz_all2 (B := 200) (W := 402) (N := 1) fun d hd => by
    obtain ⟨q, hq, rfl⟩ := List.mem_map.mp hd
    exact sz_pair2 (sz_nat2 (h q hq).2.1 0) (sz_nat2 (h q hq).2.2.2 0)).mono (Nat.le_refl _) (by rw [List.length_map]; exact Nat.le_trans (Nat.mul_le_mul hl (Nat.le_refl 403)) (by omega)) (Nat.le_refl _)
theorem sz_row {ns : List Nat} (h : ∀ i ∈ ns, 1 ≤ i ∧ i < 10 ^ 50) (hl : ns.length ≤ 1000) : SzAll 200 1000000 0 (ns.map dN) :=
  (sz_all2 (B := 200) (W := 200) (N := 0) fun d hd => by
    obtain ⟨q, hq, rfl⟩ := List.mem_map.mp hd
    exact sz_nat2 (h q hq).2 0).mono (Nat.le_refl _) (by rw [List.length_map]; exact Nat.le_trans (Nat.mul_le_mul hl (Nat.le_refl 201)) (by omega)) (Nat.le_refl _)
theorem same_3 {ns : List Nat} (hl : ns.length ≤ 1000) (hns : ∀ i ∈ ns, 1 ≤ i ∧ i < 10 ^ 50) {qs : List (Bool × Nat)} (hq : TapeOk qs) (hql : qs.length ≤ 1000) {bs : List (Nat × Nat)} (hbs : BlkOk bs) (hbl : bs.length ≤ 1000) :
    m_law_same_v3 [.list [.tuple (ns.map dN), .list (qs.map dS), .list (bs.map blkD)], .list [.tuple (ns.map dN), .list (qs.map dS), .list (bs.map blkD)]] = some (.ok (.fz (.bool true))) := by
  have h1 := (Sz.tuple (sz_row hns hl)).mono (Nat.le_refl _) (Nat.le_refl _) (by omega : 1 ≤ 2)
  have h2 := Sz.list (sz_tape hq hql)
  have h3 := Sz.list (sz_blocks hbs hbl)
  have h := Sz.list (SzAll.cons h1 (SzAll.cons h2 (SzAll.cons h3 (SzAll.nil (W := 0)))))
  exact law_same3_refl h (by omega) (by omega)
abbrev raF : List St1 := [(asgN 5 (nLst (news [(nv (eF m_row_in_v5 (toDs [(bin2 ixD (eV 4) (eC (.int 0)))]))), (nv (eF m_steps_in_v5 (toDs [(bin2 ixD (eV 4) (eC (.int 1)))]))), (nv (eF m_blocks_in_v5 (toDs [(bin2 ixD (eV 4) (eC (.int 2)))])))]))), (ifS (notT (lentT (tst (eF m_law_same_v3 (toDs [(eV 5), (eLst (toDs [(eV 2), (eV 8), (eV 9)]))]))))) (block [(retS (eC (.bool false)))]) (block [])), (exprS (eMAt fmApp 5 (eC (.int 1)) [.str "more"])), (exprS (eMAt fmRev 5 (eC (.int 2)) [])), (ifS (notT (tst (eF m_law_same_v3 (toDs [(eLst (toDs [(eFK m_row_in_v5 [0] 1 (toDs [(bin2 ixD (eV 4) (eC (.int 0)))])), (eFK m_steps_in_v5 [0] 1 (toDs [(bin2 ixD (eV 4) (eC (.int 1)))])), (eFK m_blocks_in_v5 [0] 1 (toDs [(bin2 ixD (eV 4) (eC (.int 2)))]))])), (eLst (toDs [(eV 2), (eV 8), (eV 9)]))])))) (block [(retS (eC (.bool false)))]) (block []))]
theorem raF_ok {b : List D} {s1 : Sv} {ns : List Nat} (hl : ns.length ≤ 12) (hns : ∀ i ∈ ns, 1 ≤ i ∧ i < 10 ^ 50) {qs : List (Bool × Nat)} (hq : TapeOk qs) (hql : qs.length ≤ 20) {bs : List (Nat × Nat)} (hbs : BlkOk bs) (ha : adjE bs = false) (hbl : bs.length ≤ 6) {w3 w10 : Option Sv} {L5 : List D} {Q : Po Fl}
    (q : ∀ s4 T5, Q .nx [some (.io b), some s1, some (.fz (.tuple (ns.map dN))), w3, some s4, some (.tr false T5), none, none, some (.fz (.list (qs.map dS))), some (.fz (.list (bs.map blkD))), w10, none, none, none]) :
    Ok (block raF [some (.io b), some s1, some (.fz (.tuple (ns.map dN))), w3, some (.own [.str (jn (ns.map nT)), .str (jn (qs.map tS)), .str (jn (bs.map tB))]), some (.own L5), none, none, some (.fz (.list (qs.map dS))), some (.fz (.list (bs.map blkD))), w10, none, none, none]) Q := by
  have r1 := row_in5 hns (by omega : ns.length ≤ 1000)
  have r2 := steps_in5 hq (by omega : qs.length ≤ 1000)
  have r3 := blocks_in5 hbs ha (by omega : bs.length ≤ 1000)
  have hs := same_3 (by omega : ns.length ≤ 1000) hns hq (by omega : qs.length ≤ 1000) hbs (by omega : bs.length ≤ 1000)
  have l1 : (qs.map dS).length < 16777216 := by rw [List.length_map]; omega
  unfold raF
  generalize jn (ns.map nT) = R at *
  generalize jn (qs.map tS) = S at *
  generalize jn (bs.map tB) = B at *
  generalize ns.map dN = NL at *
  generalize qs.map dS = QL at *
  generalize bs.map blkD = BL at *
  have i1 : ixN 3 1 = some 1 := by decide
  have i2 : ixN 3 2 = some 2 := by decide
  have i3 : fmRev BL [] = some (.none, BL.reverse) := rfl
  simp -implicitDefEqProofs [r1, r2, r3, hs, l1, i1, i2, i3]
  exact q _ _
end G
set_option Elab.async false
set_option linter.all false
set_option maxRecDepth 100000
set_option maxHeartbeats 4000000
set_option exponentiation.threshold 10000
namespace G
open PySem PySem.Spec PyProof.Rows L2 VI Builtin.Int
theorem joinL_s : ∀ l : List (List Nat), l ≠ [] → 115 :: TL.joinL [32, 115] l = TL.joinL [32] (l.map (115 :: ·))
  | [], h => absurd rfl h
  | [p], _ => rfl
  | p :: q :: r, _ => by
    have ih := joinL_s (q :: r) (by simp)
    show 115 :: (p ++ ([32, 115] ++ TL.joinL [32, 115] (q :: r))) = (115 :: p) ++ ([32] ++ TL.joinL [32] ((q :: r).map (115 :: ·)))
    rw [← ih]
    rfl
abbrev sp1 (n : Nat) : Bool × Nat := (false, n)
theorem join_s {ls : List Nat} (h0 : ls ≠ []) (hl : ls.length ≤ 1000) (hw : ∀ n ∈ ls, n < 10 ^ 50) : ∃ J : Str, joinD (.str " s") (.list ((ls.map nT).map .str)) = some (.fz (.str J)) ∧ addD (.str "s") (.str J) = some (.fz (.str (jn ((ls.map sp1).map tS)))) := by
  have ht : TL.tl (" s" : Str) = [32, 115] := by decide +kernel
  have hs1 : TL.tl ("s" : Str) = [115] := by decide +kernel
  have h2 : (" s" : Str).length = 2 := by decide +kernel
  have h3 : ("s" : Str).length = 1 := by decide +kernel
  refine ⟨mkS (TL.joinL [32, 115] ((ls.map nT).map TL.tl)), ?_, ?_⟩
  · show (strsOf ((ls.map nT).map .str)).bind (joinW " s") = _
    rw [strsOf_strs]
    show joinW " s" (ls.map nT) = _
    unfold joinW
    have h1 : ((ls.map nT).map (·.length)).sum ≤ (ls.map nT).length * 1000 := sum_le2 fun w hw2 => nT_1000 hw w hw2
    rw [List.length_map] at h1
    rw [if_pos (by rw [h2, List.length_map]; omega), ht]
  · have e : ("s" : Str) ++ mkS (TL.joinL [32, 115] ((ls.map nT).map TL.tl)) = jn ((ls.map sp1).map tS) := by
      refine TL.ext_tl ?_
      unfold jn
      rw [TL.tl_append, tl_mkS, hs1, if_neg (by simpa using h0), tl_mkS]
      show 115 :: TL.joinL [32, 115] _ = _
      rw [joinL_s _ (by simpa using h0), List.map_map, List.map_map, List.map_map, List.map_map]
      congr 1
      refine List.map_congr_left fun n _ => ?_
      show 115 :: TL.tl (nT n) = TL.tl (tS (false, n))
      rw [tl_tS, tl_nT]; rfl
    rw [← e]
    refine addS ?_
    rw [h3, mkS_len]
    have h5 := joinL_len2 (S := [32, 115]) ((ls.map nT).map TL.tl)
    have h6 : (((ls.map nT).map TL.tl).map fun l => l.length + [32, 115].length).sum ≤ ((ls.map nT).map TL.tl).length * 1002 := sum_le2 fun l hl2 => by
      obtain ⟨w, hw2, rfl⟩ := List.mem_map.mp hl2
      have := nT_1000 hw w hw2
      rw [TL.len_tl] at this
      show (TL.tl w).length + 2 ≤ _
      omega
    rw [List.length_map, List.length_map] at h6
    have h7 : ls.length * 1002 ≤ 1000 * 1002 := Nat.mul_le_mul hl (Nat.le_refl _)
    omega
theorem tape_sp {ls : List Nat} (h : ∀ n ∈ ls, n < 10 ^ 50) : TapeOk (ls.map sp1) := fun q hq => by
  obtain ⟨n, hn, rfl⟩ := List.mem_map.mp hq
  exact h n hn
theorem jn_nil : jn [] = "-" := if_pos rfl
theorem same_5 {ls : List Nat} (hl : ls.length ≤ 1000) (h : ∀ n ∈ ls, 1 ≤ n ∧ n < 10 ^ 50) : m_law_same_v3 [.list [.tuple (ls.map dN), .list ((ls.map sp1).map dS), .str "-", .tuple [], .list []], .list [.tuple (ls.map dN), .list ((ls.map sp1).map dS), .str "-", .tuple [], .list []]] = some (.ok (.fz (.bool true))) := by
  have h1 := (Sz.tuple (sz_row h hl)).mono (Nat.le_refl _) (Nat.le_refl _) (by omega : 1 ≤ 2)
  have h2 := Sz.list (sz_tape (tape_sp fun n hn => (h n hn).2) (by rw [List.length_map]; exact hl))
  have h3 : Sz 200 10 2 (.str "-") := ⟨by simp only [VI.good]; decide +kernel, by simp only [PyData.weight]; decide +kernel, by simp only [PyData.depth]; omega⟩
  have h4 : Sz 200 10 2 (.tuple []) := (Sz.tuple (SzAll.nil (N := 1)))
  have h5 : Sz 200 10 2 (.list []) := (Sz.list (SzAll.nil (N := 1)))
  have h := Sz.list (SzAll.cons h1 (SzAll.cons h2 (SzAll.cons h3 (SzAll.cons h4 (SzAll.cons h5 (SzAll.nil (W := 0)))))))
  exact law_same3_refl h (by omega) (by omega)
abbrev raG : List St1 := [(asgS 6 (eB (on1 tupD) (opds [(lcS (rng1 (bin2 addD (eC (.int 17)) (eI m_law_draw_v2 0 (toDs [(eC (.int 44))])))) (tgV 3) yesT (bin2 addD (eC (.int 1)) (eI m_law_draw_v2 0 (toDs [(eC (.int 99))]))) [3])]))), (asgS 7 (lcS (srcE (eV 6)) (tgV 10) yesT (eB (on1 strD) (opds [(eV 10)])) [10])), (asgN 5 (nLst (news [(nv (eF m_row_in_v5 (toDs [(eS1 joinD (eC (.str " ")) (eV 7))]))), (nv (eF m_steps_in_v5 (toDs [(bin2 addD (eC (.str "s")) (eS1 joinD (eC (.str " s")) (eV 7)))]))), (nv (eF m_row_text (toDs [(eTup (toDs []))]))), (nv (eF m_row_in_v5 (toDs [(eC (.str "-"))]))), (nv (eF m_blocks_in_v5 (toDs [(eC (.str "-"))])))]))), (retS (lentE (eF m_law_same_v3 (toDs [(eV 5), (eLst (toDs [(eV 6), (lcS (srcE (eV 6)) (tgV 10) yesT (eTup (toDs [(eC (.str "split")), (eV 10)])) [10]), (eC (.str "-")), (eTup (toDs [])), (eLst (toDs []))]))]))))]
theorem raG_ok (n : Nat) {b : List D} (hb : Bx n b) (hn : n ≤ 2 ^ 27) {s1 s2 s4 s8 s9 : Sv} {w3 w10 : Option Sv} {T5 : OT} {P : Rv → List D → Prop}
    (q : ∀ b', Bx (n + 100) b' → P (.fz (.bool true)) b') :
    Ok (block raG [some (.io b), some s1, some s2, w3, some s4, some (.tr false T5), none, none, some s8, some s9, w10, none, none, none]) (endI P) := by
  unfold raG
  simp -implicitDefEqProofs
  refine okIo_of (drawV n (span := 44) hb (by omega) (by omega) (by omega)) fun r b2 ⟨v, hr, hv0, hv1, hb2⟩ => ?_
  subst hr
  obtain ⟨m, rfl⟩ := Int.eq_ofNat_of_zero_le hv0
  have hR : inR (17 + (m : Int)) = true := by
    have := inR_nat (n := 17 + m) (by omega)
    rwa [Int.natCast_add] at this
  simp -implicitDefEqProofs [hR]
  refine lcG_ok (fun j ys e => ∃ (b' : List D) (ls : List Nat), e = [some (.io b'), some s1, some s2, none, some s4, some (.tr false T5), none, none, some s8, some s9, w10, none, none, none] ∧ ys = ls.map dN ∧ ls.length = j ∧ (∀ i ∈ ls, 1 ≤ i ∧ i < 10 ^ 50) ∧ Bx (n + 1 + j) b') (by rw [intsOf_len, sizeLine_eq]; omega) (by simp [tgV]) ⟨b2, [], by rfl, rfl, rfl, by simp, hb2⟩ ?_ ?_
  · rintro j d ys e hd ⟨b', ls, rfl, rfl, rfl, hls, hb'⟩
    obtain ⟨hj, rfl⟩ := intsOf_get hd
    refine ⟨_, rfl, ?_⟩
    simp -implicitDefEqProofs
    refine okIo_of (drawV _ (span := 99) hb' (by omega) (by omega) (by omega)) fun r b3 ⟨w, hr, hw0, hw1, hb3⟩ => ?_
    subst hr
    obtain ⟨w, rfl⟩ := Int.eq_ofNat_of_zero_le hw0
    simp -implicitDefEqProofs [wipeE]
    have e1 : ls.map dN ++ [.int (1 + (w : Int))] = (ls ++ [1 + w]).map dN := by
      rw [List.map_append, List.map_cons, List.map_nil]
      show _ = _ ++ [PyData.int ((1 + w : Nat) : Int)]
      rw [Int.natCast_add]; rfl
    refine ⟨ls ++ [1 + w], e1, by simp, ?_, hb3.mono (by omega)⟩
    intro i hi
    rcases List.mem_append.mp hi with h | h
    · exact hls i h
    · rw [List.mem_singleton.mp h]; omega
  · rintro ys e ⟨b', ls, rfl, rfl, hl, hls, hb'⟩
    have hl : ls.length = (intsOf 0 (17 + (m : Int)).toNat).length := hl
    have hb' : Bx (n + 1 + (intsOf 0 (17 + (m : Int)).toNat).length) b' := hb'
    rw [intsOf_len] at hl hb'
    have hm : (17 + (m : Int)).toNat = 17 + m := by omega
    rw [hm] at hl hb'
    have hl0 : ls ≠ [] := fun h => by rw [h] at hl; simp at hl; omega
    simp -implicitDefEqProofs [unlend]
    refine lcN_ok ls dN (fun n => .str (nT n)) rfl (by omega) (by simp [tgV]) ?_ ?_
    · intro n hn
      have h1 := str_nT (big50 (hls n hn).2)
      refine ⟨_, rfl, ?_⟩
      simp -implicitDefEqProofs [h1, wipeE]
    · have j1 := joinW_jn (ws := ls.map nT) (by simpa using hl0) (by rw [List.length_map]; omega) (nT_1000 fun n hn => (hls n hn).2)
      obtain ⟨J, j2, j3⟩ := join_s hl0 (by omega) fun n hn => (hls n hn).2
      have r1 := row_in5 hls (by omega : ls.length ≤ 1000)
      have r2 := steps_in5 (tape_sp fun n hn => (hls n hn).2) (by rw [List.length_map]; omega : (ls.map sp1).length ≤ 1000)
      have r3 := row_text_ok (ns := []) (fun n hn => by cases hn) (by simp) (R := .tuple []) (.inl rfl)
      have r4 := row_in5 (ns := []) (fun n hn => by cases hn) (by simp)
      have r5 := blocks_in5 blkOk_nil rfl (by simp)
      have hs := same_5 (by omega : ls.length ≤ 1000) hls
      simp only [List.map_nil, jn_nil] at r3 r4 r5
      rw [map_str]
      generalize (ls.map nT).map PyData.str = WL at *
      generalize jn (ls.map nT) = Z1 at *
      generalize jn ((ls.map sp1).map tS) = Z2 at *
      have eSL : ls.map (fun n : Nat => PyData.tuple [.str "split", .int (n : Int)]) = (ls.map sp1).map dS := by rw [List.map_map]; rfl
      generalize (ls.map sp1).map dS = SL at *
      simp -implicitDefEqProofs [j1, j2, j3, r1, r2, r3, r4, r5, unlend]
      refine lcN_ok ls dN (fun n : Nat => .tuple [.str "split", .int (n : Int)]) rfl (by omega) (by simp [tgV]) ?_ ?_
      · intro n hn
        refine ⟨_, rfl, ?_⟩
        simp -implicitDefEqProofs [wipeE]
      · rw [eSL]
        simp -implicitDefEqProofs [hs, unlend]
        exact q b' (hb'.mono (by omega))
theorem right64 (n : Nat) {b : List D} (hb : Bx n b) (hn : n ≤ 2 ^ 26) : OkI (m_law_right_v96 b []) (fun r b' => r = .fz (.bool true) ∧ Bx (n + 6000) b') := by
  refine fnI_of ?_
  have e : b_law_right_v96 = block (raA ++ (raB ++ (raC ++ (raD ++ (raE ++ (raF ++ raG)))))) := rfl
  rw [e]
  generalize hX : block (raA ++ (raB ++ (raC ++ (raD ++ (raE ++ (raF ++ raG)))))) = X
  have i0 : (initI 14 b [] : VI.Env) = [some (.io b), none, none, none, none, none, none, none, none, none, none, none, none, none] := rfl
  rw [i0]
  refine block_cutB 2 (fun e => ∃ (t : Nat) (ns : List Nat) (b' : List D), 0 < t ∧ t ≤ 10 ^ 40 ∧ ns.length ≤ 12 ∧ (∀ i ∈ ns, 1 ≤ i ∧ i < 10 ^ 50) ∧ Bx (n + 1000) b' ∧ e = [some (.io b'), some (.fz (.int (t : Int))), some (.fz (.tuple (ns.map dN))), none, none, none, none, none, none, none, none, none, none, none]) hX ?_ ?_
  · intro b1 h1
    rw [← h1]
    refine raA_ok n hb (by omega) ?_
    intro t ns b' h1 h2 h3 h4 h5
    exact ⟨t, ns, b', h1, h2, h3, h4, h5, rfl⟩
  · rintro X2 hX2 e ⟨t, ns, b', ht0, ht1, hnl, hns, hb1, rfl⟩
    refine block_cutB 2 (fun e => ∃ (qs : List (Bool × Nat)) (b' : List D) (w3 : Option Sv), qs.length ≤ 20 ∧ TapeOk qs ∧ Fr w3 ∧ Bx (n + 3000) b' ∧ e = [some (.io b'), some (.fz (.int (t : Int))), some (.fz (.tuple (ns.map dN))), w3, none, none, none, none, some (.own (qs.map dS)), some (.own []), none, none, none, none]) hX2 ?_ ?_
    · intro b1 h5
      rw [← h5]
      refine raB_ok (n + 1000) hb1 (by omega) ?_
      intro qs b' w3 h1 h2 h3 h4
      exact ⟨qs, b', w3, h1, h2, h3, h4, rfl⟩
    · rintro X3 hX3 e ⟨qs, b', w3, hql, hq, h3, hb2, rfl⟩
      refine block_cutB 1 (fun e => ∃ (bs : List (Nat × Nat)) (b' : List D) (w3 w10 : Option Sv), bs.length ≤ 6 ∧ BlkOk bs ∧ adjE bs = false ∧ O2 w10 ∧ Bx (n + 5000) b' ∧ e = [some (.io b'), some (.fz (.int (t : Int))), some (.fz (.tuple (ns.map dN))), w3, none, none, none, none, some (.own (qs.map dS)), some (.own (bs.map blkD)), w10, none, none, none]) hX3 ?_ ?_
      · intro b1 h6
        rw [← h6]
        refine raC_ok (n + 3000) hb2 (by omega) ht0 ht1 h3 ?_
        intro bs b' w3 w10 h1 h2 h3 h4 h5 h6
        exact ⟨bs, b', w3, w10, h1, h2, h3, h5, h6, rfl⟩
      · rintro X4 hX4 e ⟨bs, b', w3, w10, hbl, hbs, ha, h10, hb3, rfl⟩
        refine block_cutB 2 (fun e => e = [some (.io b'), some (.fz (.int (t : Int))), some (.fz (.tuple (ns.map dN))), w3, some (.own [.str (jn (ns.map nT)), .str (jn (qs.map tS)), .str (jn (bs.map tB))]), none, none, none, some (.own (qs.map dS)), some (.own (bs.map blkD)), w10, none, none, none]) hX4 ?_ ?_
        · intro b1 h8
          rw [← h8]
          exact raD_ok hnl hns hq hql hbs hbl h10 rfl
        · rintro X5 hX5 e rfl
          refine block_cutB 4 (fun e => ∃ L5 : List D, e = [some (.io b'), some (.fz (.int (t : Int))), some (.fz (.tuple (ns.map dN))), w3, some (.own [.str (jn (ns.map nT)), .str (jn (qs.map tS)), .str (jn (bs.map tB))]), some (.own L5), none, none, some (.fz (.list (qs.map dS))), some (.fz (.list (bs.map blkD))), w10, none, none, none]) hX5 ?_ ?_
          · intro b1 h8
            rw [← h8]
            refine raE_ok hnl hns hq hql hbs hbl ?_
            intro L5
            exact ⟨L5, rfl⟩
          · rintro X6 hX6 e ⟨L5, rfl⟩
            refine block_cutB 5 (fun e => ∃ (s4 : Sv) (T5 : OT), e = [some (.io b'), some (.fz (.int (t : Int))), some (.fz (.tuple (ns.map dN))), w3, some s4, some (.tr false T5), none, none, some (.fz (.list (qs.map dS))), some (.fz (.list (bs.map blkD))), w10, none, none, none]) hX6 ?_ ?_
            · intro b1 h8
              rw [← h8]
              refine raF_ok hnl hns hq hql hbs ha hbl ?_
              intro s4 T5
              exact ⟨s4, T5, rfl⟩
            · rintro X7 hX7 e ⟨s4, T5, rfl⟩
              rw [← hX7]
              refine raG_ok (n + 5000) hb3 (by omega) ?_
              intro b' h
              exact ⟨rfl, h.mono (by omega)⟩
end G
set_option Elab.async false
set_option linter.all false
set_option maxRecDepth 100000
set_option maxHeartbeats 4000000
namespace G
open PySem PySem.Spec PyProof.Rows L2 VI Builtin.Int
theorem cut_to (ns : List Int) (m : Nat) (hm : 0 < m) : cutD (ns.map PyData.int) none (some (m : Int)) = (ns.take m).map .int := by
  unfold VI.cutD
  have h1 : HT.sIx (ns.map PyData.int).length 0 none = 0 := rfl
  have h2 : HT.sIx (ns.map PyData.int).length (ns.map PyData.int).length (some (m : Int)) = min m (ns.map PyData.int).length := by
    show (if (m : Int) < 0 then ((m : Int) + ((ns.map PyData.int).length : Int)).toNat else min (m : Int).toNat (ns.map PyData.int).length) = _
    rw [if_neg (by omega)]; rfl
  rw [h1, h2, List.drop_zero, Nat.sub_zero, List.map_take, List.take_eq_take_iff]
  omega
theorem cut_mid (ns : List Int) (m : Nat) : ∃ ms : List Int, cutD (ns.map PyData.int) (some (m : Int)) (some 63) = ms.map .int ∧ (∀ x ∈ ms, x ∈ ns) ∧ ms.length ≤ ns.length ∧ (0 < ms.length → m < ns.length) := by
  have h1 : HT.sIx (ns.map PyData.int).length 0 (some (m : Int)) = min m ns.length := by
    show (if (m : Int) < 0 then ((m : Int) + ((ns.map PyData.int).length : Int)).toNat else min (m : Int).toNat (ns.map PyData.int).length) = _
    rw [if_neg (by omega), List.length_map]; rfl
  unfold VI.cutD
  rw [h1]
  refine ⟨(ns.drop (min m ns.length)).take (HT.sIx (ns.map PyData.int).length (ns.map PyData.int).length (some 63) - min m ns.length), by rw [List.map_take, List.map_drop], fun x hx => List.mem_of_mem_drop (List.mem_of_mem_take hx), ?_, fun h => ?_⟩
  · rw [List.length_take, List.length_drop]; omega
  · rw [List.length_take, List.length_drop] at h; omega
end G
set_option Elab.async false
set_option linter.all false
set_option maxRecDepth 100000
set_option maxHeartbeats 4000000
namespace G
open PySem PySem.Spec PyProof.Rows L2 VI Builtin.Int
theorem folded_ok (ns : List Int) (m : Nat) (hm : 0 < m) (hm2 : m ≤ 62) (h1 : ns.length ≤ 63) (h2 : ∀ k ∈ ns, intBits k ≤ 1048576) :
    OkF (m_law_folded [.list (ns.map .int), .int m]) (fun r => ∃ cs : List Int, r = .fresh (cs.map .int) ∧ cs ≠ [] ∧ cs.length ≤ m ∧ ∀ c ∈ cs, intBits c ≤ 1048700) := by
  refine fnF_of ?_
  obtain ⟨rest, hr, hr1, hr2, hr3⟩ := cut_mid ns m
  have key : ∀ c0 : List Int, c0 ≠ [] → c0.length ≤ m → (m < ns.length → c0.length = m) → (∀ c ∈ c0, intBits c ≤ 1048576) → Ok (block [(forS (enumE (slE (eV 0) (some (eV 1)) (some (eC (.int 63))))) (tgT [(tgV 3), (tgV 4)]) (block [(setS 2 (bin2 modD (eV 3) (eV 1)) (bin2 addD (bin2 ixD (eV 2) (bin2 modD (eV 3) (eV 1))) (bin2 mulD (eV 4) (bin2 addD (eV 3) (eC (.int 2))))))])), (retS (eV 2))] [some (.fz (.list (ns.map .int))), some (.fz (.int m)), some (.own (c0.map .int)), none, none]) (endF fun r => ∃ cs : List Int, r = .fresh (cs.map .int) ∧ cs ≠ [] ∧ cs.length ≤ m ∧ ∀ c ∈ cs, intBits c ≤ 1048700) := by
    intro c0 hc1 hc2 hc3 hc4
    simp -implicitDefEqProofs [hr]
    refine for_ok (fun i e => ∃ (cs : List Int) (w u : Option Sv), e = [some (.fz (.list (ns.map .int))), some (.fz (.int m)), some (.own (cs.map .int)), w, u] ∧ (w = none ∨ ∃ d, w = some (.fz d)) ∧ (u = none ∨ ∃ d, u = some (.fz d)) ∧ cs.length = c0.length ∧ ∀ c ∈ cs, intBits c ≤ 1048600 + i)
      ⟨c0, none, none, by simp, .inl rfl, .inl rfl, rfl, fun c hc => Nat.le_trans (hc4 c hc) (by omega)⟩ ?_ ?_
    · rintro i d e hi ⟨cs, w, u, rfl, hw, hu, hl, hb⟩
      have hi' : i < rest.length := by
        have := (List.getElem?_eq_some_iff.mp hi).1
        rw [enumD_len, List.length_map] at this
        exact this
      have hd : d = .tuple [.int (i : Nat), .int rest[i]] := by
        have := enumD_get (ds := rest.map PyData.int) (i := i) (d := .int rest[i]) (by rw [List.getElem?_map, List.getElem?_eq_getElem hi']; rfl)
        rw [this] at hi
        exact (Option.some.inj hi).symm
      subst hd
      -- only where the script is longer than m
      have hlen : cs.length = m := by
        have := hr3 (by omega)
        exact hl.trans (hc3 this)
      have hi63 : i < 63 := by omega
      have hmod : ((i : Int) % (m : Int)) = ((i % m : Nat) : Int) := by simp
      have hlt : i % m < cs.length := by rw [hlen]; exact Nat.mod_lt _ hm
      have hx : (cs.map PyData.int)[i % m]? = some (.int cs[i % m]) := by rw [List.getElem?_map, List.getElem?_eq_getElem hlt]; rfl
      have hm1 : mulOk rest[i] ((i : Int) + 2) = true := mulOk_of (m := 1048576) (n := 64) (h2 _ (hr1 _ (List.getElem_mem hi'))) (bits_lt (by omega)) (by decide)
      refine ⟨[some (.fz (.list (ns.map .int))), some (.fz (.int m)), some (.own (cs.map .int)), some (.fz (.int (i : Nat))), some (.fz (.int rest[i]))], ?_, ?_⟩
      · rcases hw with rfl | ⟨d1, rfl⟩ <;> rcases hu with rfl | ⟨d2, rfl⟩ <;> rfl
      · have hmp : (0 : Int) < (m : Int) := by omega
        have ha : atI (cs.map PyData.int) ((i : Int) % (m : Int)) = some (.int cs[i % m]) := by rw [hmod]; exact atN hx
        have hj : ixN cs.length ((i : Int) % (m : Int)) = some (i % m) := by
          rw [hmod]; unfold ixN
          rw [if_pos (by omega), if_pos (by omega)]; rfl
        simp -implicitDefEqProofs [hmp, ha, hj, hm1]
        refine ⟨hm, cs.set (i % m) (cs[i % m] + rest[i] * (↑i + 2)), _, _, ⟨by rw [List.map_set], rfl, rfl⟩, .inr ⟨_, rfl⟩, .inr ⟨_, rfl⟩, ?_, fun c hc => ?_⟩
        · rw [List.length_set, hl]
        · rcases List.mem_or_eq_of_mem_set hc with hc | rfl
          · exact Nat.le_trans (hb c hc) (by omega)
          · have b1 := hb _ (List.getElem_mem hlt)
            have b2 : intBits (rest[i] * ((i : Int) + 2)) ≤ 1048576 + 7 := intBits_mul_le (h2 _ (hr1 _ (List.getElem_mem hi'))) (bits_lt (by omega))
            have b3 := intBits_add_le b1 b2
            omega
    · rintro e ⟨cs, w, u, rfl, hw, hu, hl, hb⟩
      have hrl : rest.length ≤ 63 := by omega
      simp -implicitDefEqProofs [unlend]
      refine ⟨cs, rfl, fun h => hc1 (List.eq_nil_of_length_eq_zero (by rw [← hl, h]; rfl)), by omega, fun c hc => by have := hb c hc; rw [enumD_len, List.length_map] at this; omega⟩
  simp -implicitDefEqProofs [b_law_folded, cut_to ns m hm]
  rw [← List.map_take]
  have h5 : (ns.take m).length = min m ns.length := List.length_take
  have h6 : ∀ c ∈ ns.take m, intBits c ≤ 1048576 := fun c hc => h2 c (List.mem_of_mem_take hc)
  generalize ns.take m = c0 at h5 h6
  cases c0 with
  | nil =>
    have h5 : 0 = min m ns.length := h5
    simp -implicitDefEqProofs only [List.map_nil, kOrL_nil]
    exact key [0] (by simp) (by simp; omega) (fun h => by omega) (by simp; decide)
  | cons c cs =>
    simp -implicitDefEqProofs only [List.map_cons, kOrL_cons]
    exact key (c :: cs) (by simp) (by omega) (fun h => by omega) h6
end G
set_option Elab.async false
set_option linter.all false
set_option maxRecDepth 100000
set_option maxHeartbeats 4000000
namespace G
open PySem PySem.Spec PyProof.Rows L2 VI Builtin.Int
theorem pure_law (ns : List Int) (h1 : ns.length ≤ 63) (h2 : ∀ k ∈ ns, intBits k ≤ 1048576) : m_law_v97 [.list (ns.map .int)] = some (.ok (.fz (.bool true))) := by
  refine fnF_is ?_
  simp -implicitDefEqProofs [b_law_v97]
  refine okFn_of (folded_ok ns 3 (by omega) (by omega) h1 h2) fun r ⟨cs, hr, h0, hl, hc⟩ => ?_
  subst hr
  have hR := inR_nat (n := cs.length) (by omega)
  have hR3 := inR_nat (n := 2) (by omega)
  simp -implicitDefEqProofs [hR]
  refine for_okN (fun i e => ∃ w1 w2 w3 w4, e = [some (.fz (.list (ns.map .int))), some w1, w2, w3, w4] ∧ (w1 = .own (cs.map .int) ∨ w1 = .fz (.list (cs.map .int))) ∧ Fr w2 ∧ Fr w3 ∧ Fr w4) ⟨_, none, none, none, rfl, .inl rfl, by simp, by simp, by simp⟩ ?_ ?_
  · rintro i d e hd ⟨w1, w2, w3, w4, rfl, hw1, hw2, hw3, hw4⟩
    obtain ⟨hi, rfl⟩ := intsOf_get hd
    have hi : i < cs.length := hi
    have body : Ok (block [(asgS 3 (eF m_law_stream (toDs [(eV 1), (eV 2)]))), (ifS (notT (tst (eB (on1 allD) (opds [(lcS (rng1 (eC (.int 2))) (tgV 4) yesT (eI m_law_right_v96 3 (toDs [])) [4])])))) (block [(retS (eC (.bool false)))]) (block []))] [some (.fz (.list (ns.map .int))), some w1, some (.fz (.int i)), w3, w4])
        (endT (fun e => ∃ w2 w3 w4, e = [some (.fz (.list (ns.map .int))), some (.fz (.list (cs.map .int))), w2, w3, w4] ∧ Fr w2 ∧ Fr w3 ∧ Fr w4) noB noR) := by
      have key : okFn (m_law_stream [PyData.list (List.map PyData.int cs), PyData.int i]) [some (.fz (.list (ns.map .int))), some (.fz (.list (cs.map .int))), some (.fz (.int i)), w3, w4] (kSt 3 (kSeq (block [(ifS (notT (tst (eB (on1 allD) (opds [(lcS (rng1 (eC (.int 2))) (tgV 4) yesT (eI m_law_right_v96 3 (toDs [])) [4])])))) (block [(retS (eC (.bool false)))]) (block []))]) (endT (fun e => ∃ w2 w3 w4, e = [some (.fz (.list (ns.map .int))), some (.fz (.list (cs.map .int))), w2, w3, w4] ∧ Fr w2 ∧ Fr w3 ∧ Fr w4) noB noR))) := by
        refine okFn_of (stream_ok cs i hi (by omega) hc) fun r ⟨b, hr, hb⟩ => ?_
        subst hr
        simp -implicitDefEqProofs [okP_fr hw3]
        refine ⟨hR3, ?_⟩
        refine lcG_ok (fun j ys e => ∃ bb, e = [some (.fz (.list (ns.map .int))), some (.fz (.list (cs.map .int))), some (.fz (.int i)), some (.own bb), none] ∧ Bx (6000 * j) bb ∧ ys = List.replicate j (.bool true)) (by rw [intsOf_len, sizeLine_eq]; omega) (by simp [tgV]) ⟨b, by rfl, hb.mono (by omega), rfl⟩ ?_ ?_
        · rintro j d ys e hd ⟨bb, rfl, hbb, rfl⟩
          have hj : j < 2 := (intsOf_get hd).1
          refine ⟨_, rfl, ?_⟩
          simp -implicitDefEqProofs
          refine okIo_of (right64 (6000 * j) hbb (by omega)) fun r b3 ⟨hr, hb3⟩ => ?_
          subst hr
          simp -implicitDefEqProofs [wipeE]
          exact ⟨hb3.mono (by omega), List.replicate_succ'.symm⟩
        · rintro ys e ⟨bb, rfl, hbb, rfl⟩
          have ha : allD (.list (List.replicate 2 (.bool true))) = some (.fz (.bool true)) := rfl
          simp -implicitDefEqProofs only [List.replicate_succ, List.replicate_zero] at ha
          simp -implicitDefEqProofs [ha]
          exact ⟨_, _, _, ⟨rfl, rfl, rfl⟩, by simp, by simp, by simp⟩
      rcases hw1 with rfl | rfl
      · simpa -implicitDefEqProofs using key
      · simpa -implicitDefEqProofs using key
    refine ⟨_, tgV_fr rfl hw2, ?_⟩
    simp only [Int.zero_add]
    refine Ok.mono body (endT_mono ?_)
    rintro e ⟨w2, w3, w4, rfl, h⟩
    exact ⟨_, w2, w3, w4, rfl, .inr rfl, h⟩
  · rintro e ⟨w1, w2, w3, w4, rfl, hw1, hw2, hw3, hw4⟩
    simp -implicitDefEqProofs [unlend]
end G
set_option Elab.async false
set_option linter.all false
set_option maxRecDepth 100000
set_option maxHeartbeats 8000000
namespace G
open PySem PySem.Spec PyProof.Rows L2 VI
def top (i : Nat) : Stmt := PySem.Challenge.pw_twinheaps_k64_texts_and_back.main.body.getD i (.Pass ⟨0, 0, 0, 0⟩)
abbrev st_law_folded : Stmt := top 35
abbrev st_law_stream : Stmt := top 33
abbrev st_law_draw_v2 : Stmt := top 34
abbrev st_law_pick_v3 : Stmt := top 36
abbrev st_law_same_v3 : Stmt := top 37
abbrev st_law_joined_v3 : Stmt := top 39
abbrev st_joined_text : Stmt := top 16
abbrev st_row_text : Stmt := top 17
abbrev st_steps_text : Stmt := top 18
abbrev st_blocks_text : Stmt := top 19
abbrev st_checked_v3 : Stmt := top 28
abbrev st_number_in : Stmt := top 20
abbrev st_numbers_in : Stmt := top 22
abbrev st_words_of : Stmt := top 21
abbrev st_is_integer : Stmt := top 3
abbrev st_is_row : Stmt := top 4
abbrev st_row_or_none_v2 : Stmt := top 23
abbrev st_row_in_v5 : Stmt := top 29
abbrev st_step_in_v2 : Stmt := top 24
abbrev st_steps_or_none_v2 : Stmt := top 25
abbrev st_steps_in_v5 : Stmt := top 30
abbrev st_block_in_v2 : Stmt := top 26
abbrev st_blocks_or_none_v2 : Stmt := top 27
abbrev st_blocks_in_v5 : Stmt := top 31
abbrev st_law_lists : Stmt := top 38
abbrev st_law_right_v96 : Stmt := top 40
abbrev st_law_v97 : Stmt := top 41
structure Txt (PP : Params) (K : PySem.W.Frag) (mg : Str → Option Value) : Prop where
  tb_LETTERS : TbS K PP mg "LETTERS" [("join", "j"), ("split", "s")]
  tb_WORDS : TbS K PP mg "WORDS" [("j", "join"), ("s", "split")]
  d_law_folded : DF K mg "_law_folded" "_law_folded" st_law_folded ["_law_script", "_law_most"]
  d_law_stream : DF K mg "_law_stream" "_law_stream" st_law_stream ["_law_script", "_law_k"]
  d_law_draw_v2 : DF K mg "_law_draw" "_law_draw" st_law_draw_v2 ["_law_source", "_law_bound"]
  d_law_pick_v3 : DF K mg "_law_pick" "_law_pick" st_law_pick_v3 ["_law_source", "_law_some"]
  d_law_same_v3 : DF K mg "_law_same" "_law_same" st_law_same_v3 ["_law_found", "_law_due"]
  d_law_joined_v3 : DF K mg "_law_joined" "_law_joined" st_law_joined_v3 ["_law_words"]
  d_joined_text : DF K mg "joined_text" "joined_text" st_joined_text ["words"]
  d_row_text : DF K mg "row_text" "row_text" st_row_text ["row"]
  d_row_text_kw_row : DFK K mg "row_text" "row_text" st_row_text ["row"] ["row"] [0]
  d_steps_text : DF K mg "steps_text" "steps_text" st_steps_text ["steps"]
  d_steps_text_kw_steps : DFK K mg "steps_text" "steps_text" st_steps_text ["steps"] ["steps"] [0]
  d_blocks_text : DF K mg "blocks_text" "blocks_text" st_blocks_text ["blocks"]
  d_blocks_text_kw_blocks : DFK K mg "blocks_text" "blocks_text" st_blocks_text ["blocks"] ["blocks"] [0]
  d_checked_v3 : DF K mg "checked" "checked" st_checked_v3 ["value", "text"]
  d_number_in : DF K mg "number_in" "number_in" st_number_in ["part"]
  d_numbers_in : DF K mg "numbers_in" "numbers_in" st_numbers_in ["words"]
  d_words_of : DF K mg "words_of" "words_of" st_words_of ["text"]
  d_is_integer : DF K mg "is_integer" "is_integer" st_is_integer ["value"]
  d_is_row : DF K mg "is_row" "is_row" st_is_row ["value"]
  d_row_or_none_v2 : DF K mg "row_or_none" "row_or_none" st_row_or_none_v2 ["text"]
  d_row_in_v5 : DF K mg "row_in" "row_in" st_row_in_v5 ["text"]
  d_row_in_v5_kw_text : DFK K mg "row_in" "row_in" st_row_in_v5 ["text"] ["text"] [0]
  d_step_in_v2 : DF K mg "step_in" "step_in" st_step_in_v2 ["part"]
  d_steps_or_none_v2 : DF K mg "steps_or_none" "steps_or_none" st_steps_or_none_v2 ["text"]
  d_steps_in_v5 : DF K mg "steps_in" "steps_in" st_steps_in_v5 ["text"]
  d_steps_in_v5_kw_text : DFK K mg "steps_in" "steps_in" st_steps_in_v5 ["text"] ["text"] [0]
  d_block_in_v2 : DF K mg "block_in" "block_in" st_block_in_v2 ["part"]
  d_blocks_or_none_v2 : DF K mg "blocks_or_none" "blocks_or_none" st_blocks_or_none_v2 ["text"]
  d_blocks_in_v5 : DF K mg "blocks_in" "blocks_in" st_blocks_in_v5 ["text"]
  d_blocks_in_v5_kw_text : DFK K mg "blocks_in" "blocks_in" st_blocks_in_v5 ["text"] ["text"] [0]
  d_law_lists : DF K mg "_law_lists" "_law_lists" st_law_lists ["_law_thing"]
  d_law_right_v96 : DF K mg "_law_right" "_law_right" st_law_right_v96 ["_law_source"]
  d_law_v97 : DF K mg "law" "law" st_law_v97 ["_law_script"]
  z_abs : mg "abs" = none
  z_all : mg "all" = none
  z_any : mg "any" = none
  z_bool : mg "bool" = none
  z_enumerate : mg "enumerate" = none
  z_int : mg "int" = none
  z_isinstance : mg "isinstance" = none
  z_len : mg "len" = none
  z_list : mg "list" = none
  z_range : mg "range" = none
  z_str : mg "str" = none
  z_tuple : mg "tuple" = none
  z_zip : mg "zip" = none
  c_BLANK : ∃ t, mg "BLANK" = some (.str " " t)
  c_DIGITS : ∃ t, mg "DIGITS" = some (.str "0123456789" t)
  c_EMPTY : ∃ t, mg "EMPTY" = some (.str "-" t)
  c_MOST_DIGITS : ∃ t, mg "MOST_DIGITS" = some (.int (50) t)
  c_PAIR : ∃ t, mg "PAIR" = some (.int (2) t)
  c_TIMES : ∃ t, mg "TIMES" = some (.str "x" t)
end G
set_option Elab.async false
set_option linter.all false
set_option maxRecDepth 100000
set_option maxHeartbeats 8000000
namespace G
open PySem PySem.Spec PyProof.Rows L2 VI
variable {P : Program} {W : World} {K : PySem.W.Frag} {mg : Str → Option Value} {base : Heap} {XR : Hp → Hp → Xc → Value → Option Addr → Prop}
theorem sc_law_folded : FnScope ["_law_script", "_law_most", "_law_cells", "_law_k", "_law_cell"] ["_law_script", "_law_most"] (defScope st_law_folded) := ⟨rfl, rfl, rfl, by decide +kernel, rfl, by decide +kernel, by decide +kernel⟩
theorem g_law_folded (T : Txt W.params K mg) (f : Addr) (fd : FuncData) (F : Fun K "_law_folded" "_law_folded" st_law_folded f fd) : FnG P W K mg base 1 f fd ["_law_script", "_law_most"] (spF K XR 2 m_law_folded) := by
  have hh := @def_ok K P W mg base XR _ _ _ f fd _ _ 0 b_law_folded F sc_law_folded
  refine hh fun cdv A outer s H E hr hu => ?_
  exact (vss_cons (vs_asg (i := 2) sc_law_folded.nd rfl (by first | exact .inl rfl | exact .inr rfl) (ve_orL (ve_bty call_list_of s_lst (by rfl) T.z_list bb_list (va_cons (ve_slice rfl (ve_var 0) vo_none (vo_some (ve_var 1))) va_nil)) (ve_one (ve_lst (vd_cons ve_int vd_nil))))) (vss_cons (vs_for (passes_of rfl) rfl (vi_enum rfl (by rfl) T.z_enumerate (ve_slice rfl (ve_var 0) (vo_some (ve_var 1)) (vo_some ve_int))) (vg_tup rfl (vgs_cons (vg_name (i := 3) sc_law_folded.nd rfl (by first | exact .inl rfl | exact .inr rfl)) (vgs_cons (vg_name (i := 4) sc_law_folded.nd rfl (by first | exact .inl rfl | exact .inr rfl)) vgs_nil))) (vss_one (vs_set (ve_bin op_addU s_add (ve_ix ix_seq s_ix (ve_var 2) (ve_bin op_mod s_mod (ve_var 3) (ve_var 1)) (fun _ _ => rfl)) (ve_bin op_mulU s_mul (ve_var 4) (ve_bin op_addU s_add (ve_var 3) ve_int))) (ve_var 2) (ve_bin op_mod s_mod (ve_var 3) (ve_var 1)) (pg_sub (ve_var 2) (ve_bin op_mod s_mod (ve_var 3) (ve_var 1)) set_list)))) (vss_one (vs_ret (ve_var 2)))))
theorem e_law_folded (T : Txt W.params K mg) : Defn P W K mg base 1 "_law_folded" 2 (spF K XR 2 m_law_folded) := T.d_law_folded.to rfl (g_law_folded T)
end G
set_option Elab.async false
set_option linter.all false
set_option maxRecDepth 100000
set_option maxHeartbeats 8000000
namespace G
open PySem PySem.Spec PyProof.Rows L2 VI
variable {P : Program} {W : World} {K : PySem.W.Frag} {mg : Str → Option Value} {base : Heap} {XR : Hp → Hp → Xc → Value → Option Addr → Prop}
theorem sc_law_stream : FnScope ["_law_script", "_law_k", "_law_cell"] ["_law_script", "_law_k"] (defScope st_law_stream) := ⟨rfl, rfl, rfl, by decide +kernel, rfl, by decide +kernel, by decide +kernel⟩
theorem g_law_stream (T : Txt W.params K mg) (f : Addr) (fd : FuncData) (F : Fun K "_law_stream" "_law_stream" st_law_stream f fd) : FnG P W K mg base 1 f fd ["_law_script", "_law_k"] (spF K XR 2 m_law_stream) := by
  have hh := @def_ok K P W mg base XR _ _ _ f fd _ _ 0 b_law_stream F sc_law_stream
  refine hh fun cdv A outer s H E hr hu => ?_
  exact (vss_cons (vs_asg (i := 2) sc_law_stream.nd rfl (by first | exact .inl rfl | exact .inr rfl) ve_int) (vss_cons (vs_if (vt_cmp op_lt s_lt (ve_var 1) (ve_blt c_len s_len (by rfl) T.z_len bb_len (va_cons (ve_var 0) va_nil)) (nomark _)) (vss_one (vs_asg (i := 2) sc_law_stream.nd rfl (by first | exact .inl rfl | exact .inr rfl) (ve_ix ix_seq s_ix (ve_var 0) (ve_var 1) (fun _ _ => rfl)))) vss_nil) (vss_one (vs_ret (ve_lst (vd_cons (ve_bin op_mulU s_mul (ve_blt call_abs s_abs (by rfl) T.z_abs bb_abs (va_cons (ve_var 2) va_nil)) (ve_bty call_int1 s_int (by rfl) T.z_int bb_int (va_cons (ve_cmp op_ge s_ge (ve_blt call_abs s_abs (by rfl) T.z_abs bb_abs (va_cons (ve_var 2) va_nil)) (ve_bin op_pow s_pow ve_int ve_int) (nomark _)) va_nil))) (vd_cons (ve_bin op_addU s_add (ve_bin op_addU s_add (ve_bin op_mod s_mod (ve_var 2) ve_int) (ve_bin op_mulU s_mul ve_int (ve_var 1))) ve_int) (vd_cons ve_int vd_nil))))))))
theorem e_law_stream (T : Txt W.params K mg) : Defn P W K mg base 1 "_law_stream" 2 (spF K XR 2 m_law_stream) := T.d_law_stream.to rfl (g_law_stream T)
end G
set_option Elab.async false
set_option linter.all false
set_option maxRecDepth 100000
set_option maxHeartbeats 8000000
namespace G
open PySem PySem.Spec PyProof.Rows L2 VI
variable {P : Program} {W : World} {K : PySem.W.Frag} {mg : Str → Option Value} {base : Heap} {XR : Hp → Hp → Xc → Value → Option Addr → Prop}
theorem sc_law_draw_v2 : FnScope ["_law_source", "_law_bound", "_law_once", "_law_twice", "_law_found"] ["_law_source", "_law_bound"] (defScope st_law_draw_v2) := ⟨rfl, rfl, rfl, by decide +kernel, rfl, by decide +kernel, by decide +kernel⟩
theorem k_law_draw_v2 (T : Txt W.params K mg) : ∀ d : Nat, Defn P W K mg base (0 + d) "_law_draw" 2 (spI K XR 2 (r_law_draw_v2 d))
  | 0 => T.d_law_draw_v2.noI rfl
  | d + 1 => T.d_law_draw_v2.to rfl fun f fd F => by
    have hh := @def_okI K P W mg base XR _ _ _ f fd _ _ (0 + d) (b_law_draw_v2 (r_law_draw_v2 d)) F sc_law_draw_v2
    refine hh fun cdv A outer s H E hr hu => ?_
    have self_law_draw_v2 := k_law_draw_v2 T d
    exact (vss_cons (vs_if (vt_cmp op_gt s_gt (ve_ix ix_seq s_ix (ve_var 0) ve_int (fun _ _ => rfl)) ve_int (nomark _)) (vss_cons (vs_asg (i := 4) sc_law_draw_v2.nd rfl (by first | exact .inl rfl | exact .inr rfl) (ve_bin op_mod s_mod (ve_ix ix_seq s_ix (ve_var 0) ve_int (fun _ _ => rfl)) (ve_var 1))) (vss_cons (vs_set (ve_bin op_fdivW s_div (ve_ix ix_seq s_ix (ve_var 0) ve_int (fun _ _ => rfl)) (ve_var 1)) (ve_var 0) ve_int (pg_sub (ve_var 0) ve_int set_list)) (vss_one (vs_ret (ve_var 4))))) vss_nil) (vss_cons (vs_if (vt_cmp op_gt s_gt (ve_var 1) (ve_bin op_pow s_pow ve_int ve_int) (nomark _)) (vss_one (vs_ret (ve_bin op_mod s_mod (ve_bin op_addU s_add (ve_callI self_law_draw_v2 (hr.mono (by omega)) hu (by rfl) (fun σ => passAt (takes_of rfl rfl rfl rfl) σ) rfl (ve_var 0) (vd_cons (ve_bin op_pow s_pow ve_int ve_int) vd_nil)) (ve_bin op_mulU s_mul (ve_bin op_pow s_pow ve_int ve_int) (ve_callI self_law_draw_v2 (hr.mono (by omega)) hu (by rfl) (fun σ => passAt (takes_of rfl rfl rfl rfl) σ) rfl (ve_var 0) (vd_cons (ve_bin op_addU s_add (ve_bin op_fdivW s_div (ve_bin op_sub s_sub (ve_var 1) ve_int) (ve_bin op_pow s_pow ve_int ve_int)) ve_int) vd_nil)))) (ve_var 1)))) vss_nil) (vss_cons (vs_set (ve_bin op_addU s_add (ve_ix ix_seq s_ix (ve_var 0) ve_int (fun _ _ => rfl)) ve_int) (ve_var 0) ve_int (pg_sub (ve_var 0) ve_int set_list)) (vss_cons (vs_asg (i := 2) sc_law_draw_v2.nd rfl (by first | exact .inl rfl | exact .inr rfl) (ve_bin op_mod s_mod (ve_bin op_mulU s_mul (ve_bin op_addU s_add (ve_ix ix_seq s_ix (ve_var 0) ve_int (fun _ _ => rfl)) (ve_bin op_mulU s_mul ve_int (ve_ix ix_seq s_ix (ve_var 0) ve_int (fun _ _ => rfl)))) (ve_bin op_addU s_add ve_int (ve_ix ix_seq s_ix (ve_var 0) ve_int (fun _ _ => rfl)))) ve_int)) (vss_cons (vs_asg (i := 3) sc_law_draw_v2.nd rfl (by first | exact .inl rfl | exact .inr rfl) (ve_bin op_mod s_mod (ve_bin op_mulU s_mul (ve_bin op_addU s_add (ve_bin op_addU s_add (ve_var 2) (ve_ix ix_seq s_ix (ve_var 0) ve_int (fun _ _ => rfl))) (ve_bin op_fdivW s_div (ve_ix ix_seq s_ix (ve_var 0) ve_int (fun _ _ => rfl)) ve_int)) (ve_bin op_addU s_add (ve_bin op_mod s_mod (ve_var 2) ve_int) ve_int)) ve_int)) (vss_one (vs_ret (ve_bin op_mod s_mod (ve_bin op_fdivW s_div (ve_bin op_mod s_mod (ve_bin op_addU s_add (ve_bin op_mulU s_mul (ve_var 3) ve_int) (ve_var 2)) ve_int) ve_int) (ve_var 1)))))))))
theorem e_law_draw_v2 (T : Txt W.params K mg) : Defn P W K mg base 60 "_law_draw" 2 (spI K XR 2 m_law_draw_v2) := k_law_draw_v2 T 60
end G
set_option Elab.async false
set_option linter.all false
set_option maxRecDepth 100000
set_option maxHeartbeats 8000000
namespace G
open PySem PySem.Spec PyProof.Rows L2 VI
variable {P : Program} {W : World} {K : PySem.W.Frag} {mg : Str → Option Value} {base : Heap} {XR : Hp → Hp → Xc → Value → Option Addr → Prop}
theorem sc_law_pick_v3 : FnScope ["_law_source", "_law_some"] ["_law_source", "_law_some"] (defScope st_law_pick_v3) := ⟨rfl, rfl, rfl, by decide +kernel, rfl, by decide +kernel, by decide +kernel⟩
theorem g_law_pick_v3 (T : Txt W.params K mg) (f : Addr) (fd : FuncData) (F : Fun K "_law_pick" "_law_pick" st_law_pick_v3 f fd) : FnG P W K mg base 62 f fd ["_law_source", "_law_some"] (spI K XR 2 m_law_pick_v3) := by
  have hh := @def_okI K P W mg base XR _ _ _ f fd _ _ 61 b_law_pick_v3 F sc_law_pick_v3
  refine hh fun cdv A outer s H E hr hu => ?_
  exact (vss_one (vs_ret (ve_ix ix_seq s_ix (ve_var 1) (ve_callI (e_law_draw_v2 T) (hr.mono (by omega)) hu (by rfl) (fun σ => passAt (takes_of rfl rfl rfl rfl) σ) rfl (ve_var 0) (vd_cons (ve_blt c_len s_len (by rfl) T.z_len bb_len (va_cons (ve_var 1) va_nil)) vd_nil)) (fun _ _ => rfl))))
theorem e_law_pick_v3 (T : Txt W.params K mg) : Defn P W K mg base 62 "_law_pick" 2 (spI K XR 2 m_law_pick_v3) := T.d_law_pick_v3.to rfl (g_law_pick_v3 T)
end G
set_option Elab.async false
set_option linter.all false
set_option maxRecDepth 100000
set_option maxHeartbeats 8000000
namespace G
open PySem PySem.Spec PyProof.Rows L2 VI
variable {P : Program} {W : World} {K : PySem.W.Frag} {mg : Str → Option Value} {base : Heap} {XR : Hp → Hp → Xc → Value → Option Addr → Prop}
theorem sc_law_same_v3 : FnScope ["_law_found", "_law_due", "_law_mine", "_law_its"] ["_law_found", "_law_due"] (defScope st_law_same_v3) := ⟨rfl, rfl, rfl, by decide +kernel, rfl, by decide +kernel, by decide +kernel⟩
theorem k_law_same_v3 (T : Txt W.params K mg) : ∀ d : Nat, Defn P W K mg base (0 + d) "_law_same" 2 (spF K XR 2 (r_law_same_v3 d))
  | 0 => T.d_law_same_v3.no rfl
  | d + 1 => T.d_law_same_v3.to rfl fun f fd F => by
    have hh := @def_ok K P W mg base XR _ _ _ f fd _ _ (0 + d) (b_law_same_v3 (r_law_same_v3 d)) F sc_law_same_v3
    refine hh fun cdv A outer s H E hr hu => ?_
    have self_law_same_v3 := k_law_same_v3 T d
    exact (vss_cons (vs_if (vt_val (ve_isiT kindLst kindTup rfl (by rfl) T.z_isinstance (by rfl) T.z_list bb_list (by rfl) T.z_tuple bb_tuple (ve_var 1))) (vss_cons (vs_if (vt_bool (vw_or (vt_cmp (op_neU hr.units) s_ne (ve_isi kindLst rfl (by rfl) T.z_isinstance (by rfl) T.z_list bb_list (ve_var 0)) (ve_isi kindLst rfl (by rfl) T.z_isinstance (by rfl) T.z_list bb_list (ve_var 1)) (nomark _)) (vw_or1 (vt_cmp (op_neU hr.units) s_ne (ve_isi kindTup rfl (by rfl) T.z_isinstance (by rfl) T.z_tuple bb_tuple (ve_var 0)) (ve_isi kindTup rfl (by rfl) T.z_isinstance (by rfl) T.z_tuple bb_tuple (ve_var 1)) (nomark _))))) (vss_one (vs_ret ve_bl)) vss_nil) (vss_one (vs_ret (ve_and (ve_cmp (op_eqU hr.units) s_eq (ve_blt c_len s_len (by rfl) T.z_len bb_len (va_cons (ve_var 0) va_nil)) (ve_blt c_len s_len (by rfl) T.z_len bb_len (va_cons (ve_var 1) va_nil)) (nomark _)) (ve_one (ve_blt (cr_all rfl) s_all (by rfl) T.z_all bb_all (va_cons (ve_lc (own := [("_law_mine", 2), ("_law_its", 3)]) rfl sc_law_same_v3.nd (vi_zip rfl (by rfl) T.z_zip (ve_var 0) (ve_var 1)) (blkOk_by (own := [("_law_mine", 2), ("_law_its", 3)]) (N := ["_law_found", "_law_due", "_law_mine", "_law_its"]) (sc := defScope st_law_same_v3) (by decide +kernel)) (fun _ _ _ _ _ => (vg_tup rfl (vgs_cons (vg_name (i := 2) sc_law_same_v3.nd rfl (by first | exact .inl rfl | exact .inr rfl)) (vgs_cons (vg_name (i := 3) sc_law_same_v3.nd rfl (by first | exact .inl rfl | exact .inr rfl)) vgs_nil)))) (fun _ _ _ _ _ => vts_nil) (fun _ _ _ _ _ => (ve_call self_law_same_v3 (hr.mono (by omega)) hu (by rfl) (fun σ => passF σ) rfl (vd_cons (ve_var 2) (vd_cons (ve_var 3) vd_nil))))) va_nil))))))) vss_nil) (vss_cons (vs_if (vt_bool (vw_or (vt_cmp op_isN s_isN (ve_var 1) ve_non (nomark _)) (vw_or1 (vt_val (ve_isiT kindBool kindStr rfl (by rfl) T.z_isinstance (by rfl) T.z_bool bb_bool (by rfl) T.z_str bb_str (ve_var 1)))))) (vss_one (vs_ret (ve_and (ve_cmp (op_eqU hr.units) s_eq (ve_var 0) (ve_var 1) (nomark _)) (ve_and (ve_cmp (op_eqU hr.units) s_eq (ve_isi kindBool rfl (by rfl) T.z_isinstance (by rfl) T.z_bool bb_bool (ve_var 0)) (ve_isi kindBool rfl (by rfl) T.z_isinstance (by rfl) T.z_bool bb_bool (ve_var 1)) (nomark _)) (ve_one (ve_cmp (op_eqU hr.units) s_eq (ve_cmp op_isN s_isN (ve_var 0) ve_non (nomark _)) (ve_cmp op_isN s_isN (ve_var 1) ve_non (nomark _)) (nomark _))))))) vss_nil) (vss_one (vs_ret (ve_and (ve_isi kindInt rfl (by rfl) T.z_isinstance (by rfl) T.z_int bb_int (ve_var 0)) (ve_and (ve_not (ve_isi kindBool rfl (by rfl) T.z_isinstance (by rfl) T.z_bool bb_bool (ve_var 0))) (ve_one (ve_cmp (op_eqU hr.units) s_eq (ve_var 0) (ve_var 1) (nomark _)))))))))
theorem e_law_same_v3 (T : Txt W.params K mg) : Defn P W K mg base 60 "_law_same" 2 (spF K XR 2 m_law_same_v3) := k_law_same_v3 T 60
end G
set_option Elab.async false
set_option linter.all false
set_option maxRecDepth 100000
set_option maxHeartbeats 8000000
namespace G
open PySem PySem.Spec PyProof.Rows L2 VI
variable {P : Program} {W : World} {K : PySem.W.Frag} {mg : Str → Option Value} {base : Heap} {XR : Hp → Hp → Xc → Value → Option Addr → Prop}
theorem sc_law_joined_v3 : FnScope ["_law_words"] ["_law_words"] (defScope st_law_joined_v3) := ⟨rfl, rfl, rfl, by decide +kernel, rfl, by decide +kernel, by decide +kernel⟩
theorem g_law_joined_v3 (T : Txt W.params K mg) (f : Addr) (fd : FuncData) (F : Fun K "_law_joined" "_law_joined" st_law_joined_v3 f fd) : FnG P W K mg base 1 f fd ["_law_words"] (spF K XR 1 m_law_joined_v3) := by
  have hh := @def_ok K P W mg base XR _ _ _ f fd _ _ 0 b_law_joined_v3 F sc_law_joined_v3
  refine hh fun cdv A outer s H E hr hu => ?_
  exact (vss_one (vs_ret (ve_ite (vt_cmp (op_neU hr.units) s_ne (ve_var 0) (ve_lst vd_nil) (nomark _)) (ve_join rfl ve_str (ve_var 0)) ve_str)))
theorem e_law_joined_v3 (T : Txt W.params K mg) : Defn P W K mg base 1 "_law_joined" 1 (spF K XR 1 m_law_joined_v3) := T.d_law_joined_v3.to rfl (g_law_joined_v3 T)
end G
set_option Elab.async false
set_option linter.all false
set_option maxRecDepth 100000
set_option maxHeartbeats 8000000
namespace G
open PySem PySem.Spec PyProof.Rows L2 VI
variable {P : Program} {W : World} {K : PySem.W.Frag} {mg : Str → Option Value} {base : Heap} {XR : Hp → Hp → Xc → Value → Option Addr → Prop}
theorem sc_joined_text : FnScope ["words"] ["words"] (defScope st_joined_text) := ⟨rfl, rfl, rfl, by decide +kernel, rfl, by decide +kernel, by decide +kernel⟩
theorem g_joined_text (T : Txt W.params K mg) (f : Addr) (fd : FuncData) (F : Fun K "joined_text" "joined_text" st_joined_text f fd) : FnG P W K mg base 1 f fd ["words"] (spF K XR 1 m_joined_text) := by
  have hh := @def_ok K P W mg base XR _ _ _ f fd _ _ 0 b_joined_text F sc_joined_text
  refine hh fun cdv A outer s H E hr hu => ?_
  exact (vss_one (vs_ret (ve_ite (vt_cmp op_gt s_gt (ve_blt c_len s_len (by rfl) T.z_len bb_len (va_cons (ve_var 0) va_nil)) ve_int (nomark _)) (ve_join rfl (ve_globS (by rfl) (T.c_BLANK).choose_spec) (ve_var 0)) (ve_globS (by rfl) (T.c_EMPTY).choose_spec))))
theorem e_joined_text (T : Txt W.params K mg) : Defn P W K mg base 1 "joined_text" 1 (spF K XR 1 m_joined_text) := T.d_joined_text.to rfl (g_joined_text T)
end G
set_option Elab.async false
set_option linter.all false
set_option maxRecDepth 100000
set_option maxHeartbeats 8000000
namespace G
open PySem PySem.Spec PyProof.Rows L2 VI
variable {P : Program} {W : World} {K : PySem.W.Frag} {mg : Str → Option Value} {base : Heap} {XR : Hp → Hp → Xc → Value → Option Addr → Prop}
theorem sc_row_text : FnScope ["row", "size"] ["row"] (defScope st_row_text) := ⟨rfl, rfl, rfl, by decide +kernel, rfl, by decide +kernel, by decide +kernel⟩
theorem g_row_text (T : Txt W.params K mg) (f : Addr) (fd : FuncData) (F : Fun K "row_text" "row_text" st_row_text f fd) : FnG P W K mg base 2 f fd ["row"] (spF K XR 1 m_row_text) := by
  have hh := @def_ok K P W mg base XR _ _ _ f fd _ _ 1 b_row_text F sc_row_text
  refine hh fun cdv A outer s H E hr hu => ?_
  exact (vss_one (vs_ret (ve_call (e_joined_text T) (hr.mono (by omega)) hu (by rfl) (fun σ => passAt (takes_of rfl rfl rfl rfl) σ) rfl (vd_cons (ve_lc (own := [("size", 1)]) rfl sc_row_text.nd (vi_src (ve_var 0)) (blkOk_by (own := [("size", 1)]) (N := ["row", "size"]) (sc := defScope st_row_text) (by decide +kernel)) (fun _ _ _ _ _ => (vg_name (i := 1) sc_row_text.nd rfl (by first | exact .inl rfl | exact .inr rfl))) (fun _ _ _ _ _ => vts_nil) (fun _ _ _ _ _ => (ve_bty call_str_int s_str (by rfl) T.z_str bb_str (va_cons (ve_var 1) va_nil)))) vd_nil))))
theorem e_row_text (T : Txt W.params K mg) : Defn P W K mg base 2 "row_text" 1 (spF K XR 1 m_row_text) := T.d_row_text.to rfl (g_row_text T)
theorem e_row_text_kw_row (T : Txt W.params K mg) : DefnK P W K mg base 2 "row_text" ["row"] [0] (spF K XR 1 m_row_text) := T.d_row_text_kw_row.to (g_row_text T)
end G
set_option Elab.async false
set_option linter.all false
set_option maxRecDepth 100000
set_option maxHeartbeats 8000000
namespace G
open PySem PySem.Spec PyProof.Rows L2 VI
variable {P : Program} {W : World} {K : PySem.W.Frag} {mg : Str → Option Value} {base : Heap} {XR : Hp → Hp → Xc → Value → Option Addr → Prop}
theorem sc_steps_text : FnScope ["steps", "word", "place"] ["steps"] (defScope st_steps_text) := ⟨rfl, rfl, rfl, by decide +kernel, rfl, by decide +kernel, by decide +kernel⟩
theorem g_steps_text (T : Txt W.params K mg) (f : Addr) (fd : FuncData) (F : Fun K "steps_text" "steps_text" st_steps_text f fd) : FnG P W K mg base 2 f fd ["steps"] (spF K XR 1 m_steps_text) := by
  have hh := @def_ok K P W mg base XR _ _ _ f fd _ _ 1 b_steps_text F sc_steps_text
  refine hh fun cdv A outer s H E hr hu => ?_
  exact (vss_one (vs_ret (ve_call (e_joined_text T) (hr.mono (by omega)) hu (by rfl) (fun σ => passAt (takes_of rfl rfl rfl rfl) σ) rfl (vd_cons (ve_lc (own := [("word", 1), ("place", 2)]) rfl sc_steps_text.nd (vi_src (ve_var 0)) (blkOk_by (own := [("word", 1), ("place", 2)]) (N := ["steps", "word", "place"]) (sc := defScope st_steps_text) (by decide +kernel)) (fun _ _ _ _ _ => (vg_tup rfl (vgs_cons (vg_name (i := 1) sc_steps_text.nd rfl (by first | exact .inl rfl | exact .inr rfl)) (vgs_cons (vg_name (i := 2) sc_steps_text.nd rfl (by first | exact .inl rfl | exact .inr rfl)) vgs_nil)))) (fun _ _ _ _ _ => vts_nil) (fun _ _ _ _ _ => (ve_bin op_addU s_add (ve_ixTb T.tb_LETTERS (by rfl) (ve_var 1) (fun _ _ => rfl)) (ve_bty call_str_int s_str (by rfl) T.z_str bb_str (va_cons (ve_var 2) va_nil))))) vd_nil))))
theorem e_steps_text (T : Txt W.params K mg) : Defn P W K mg base 2 "steps_text" 1 (spF K XR 1 m_steps_text) := T.d_steps_text.to rfl (g_steps_text T)
theorem e_steps_text_kw_steps (T : Txt W.params K mg) : DefnK P W K mg base 2 "steps_text" ["steps"] [0] (spF K XR 1 m_steps_text) := T.d_steps_text_kw_steps.to (g_steps_text T)
end G
set_option Elab.async false
set_option linter.all false
set_option maxRecDepth 100000
set_option maxHeartbeats 8000000
namespace G
open PySem PySem.Spec PyProof.Rows L2 VI
variable {P : Program} {W : World} {K : PySem.W.Frag} {mg : Str → Option Value} {base : Heap} {XR : Hp → Hp → Xc → Value → Option Addr → Prop}
theorem sc_blocks_text : FnScope ["blocks", "size", "many"] ["blocks"] (defScope st_blocks_text) := ⟨rfl, rfl, rfl, by decide +kernel, rfl, by decide +kernel, by decide +kernel⟩
theorem g_blocks_text (T : Txt W.params K mg) (f : Addr) (fd : FuncData) (F : Fun K "blocks_text" "blocks_text" st_blocks_text f fd) : FnG P W K mg base 2 f fd ["blocks"] (spF K XR 1 m_blocks_text) := by
  have hh := @def_ok K P W mg base XR _ _ _ f fd _ _ 1 b_blocks_text F sc_blocks_text
  refine hh fun cdv A outer s H E hr hu => ?_
  exact (vss_one (vs_ret (ve_call (e_joined_text T) (hr.mono (by omega)) hu (by rfl) (fun σ => passAt (takes_of rfl rfl rfl rfl) σ) rfl (vd_cons (ve_lc (own := [("size", 1), ("many", 2)]) rfl sc_blocks_text.nd (vi_src (ve_var 0)) (blkOk_by (own := [("size", 1), ("many", 2)]) (N := ["blocks", "size", "many"]) (sc := defScope st_blocks_text) (by decide +kernel)) (fun _ _ _ _ _ => (vg_tup rfl (vgs_cons (vg_name (i := 1) sc_blocks_text.nd rfl (by first | exact .inl rfl | exact .inr rfl)) (vgs_cons (vg_name (i := 2) sc_blocks_text.nd rfl (by first | exact .inl rfl | exact .inr rfl)) vgs_nil)))) (fun _ _ _ _ _ => vts_nil) (fun _ _ _ _ _ => (ve_bin op_addU s_add (ve_bin op_addU s_add (ve_bty call_str_int s_str (by rfl) T.z_str bb_str (va_cons (ve_var 1) va_nil)) (ve_globS (by rfl) (T.c_TIMES).choose_spec)) (ve_bty call_str_int s_str (by rfl) T.z_str bb_str (va_cons (ve_var 2) va_nil))))) vd_nil))))
theorem e_blocks_text (T : Txt W.params K mg) : Defn P W K mg base 2 "blocks_text" 1 (spF K XR 1 m_blocks_text) := T.d_blocks_text.to rfl (g_blocks_text T)
theorem e_blocks_text_kw_blocks (T : Txt W.params K mg) : DefnK P W K mg base 2 "blocks_text" ["blocks"] [0] (spF K XR 1 m_blocks_text) := T.d_blocks_text_kw_blocks.to (g_blocks_text T)
end G
set_option Elab.async false
set_option linter.all false
set_option maxRecDepth 100000
set_option maxHeartbeats 8000000
namespace G
open PySem PySem.Spec PyProof.Rows L2 VI
variable {P : Program} {W : World} {K : PySem.W.Frag} {mg : Str → Option Value} {base : Heap} {XR : Hp → Hp → Xc → Value → Option Addr → Prop}
theorem sc_checked_v3 : FnScope ["value", "text"] ["value", "text"] (defScope st_checked_v3) := ⟨rfl, rfl, rfl, by decide +kernel, rfl, by decide +kernel, by decide +kernel⟩
theorem et_checked_v3 (T : Txt W.params K mg) : Defn P W K mg base 4 "checked" 2 spThr := T.d_checked_v3.to rfl fun f fd F => thru_ok F sc_checked_v3 rfl ⟨_, rfl⟩ (.inl rfl)
end G
set_option Elab.async false
set_option linter.all false
set_option maxRecDepth 100000
set_option maxHeartbeats 8000000
namespace G
open PySem PySem.Spec PyProof.Rows L2 VI
variable {P : Program} {W : World} {K : PySem.W.Frag} {mg : Str → Option Value} {base : Heap} {XR : Hp → Hp → Xc → Value → Option Addr → Prop}
theorem sc_number_in : FnScope ["part", "digit"] ["part"] (defScope st_number_in) := ⟨rfl, rfl, rfl, by decide +kernel, rfl, by decide +kernel, by decide +kernel⟩
theorem g_number_in (T : Txt W.params K mg) (f : Addr) (fd : FuncData) (F : Fun K "number_in" "number_in" st_number_in f fd) : FnG P W K mg base 1 f fd ["part"] (spF K XR 1 m_number_in) := by
  have hh := @def_ok K P W mg base XR _ _ _ f fd _ _ 0 b_number_in F sc_number_in
  refine hh fun cdv A outer s H E hr hu => ?_
  exact (vss_cons (vs_if (vt_bool (vw_or (vt_not (vt_chain op_le op_le s_le s_le ve_int (ve_blt c_len s_len (by rfl) T.z_len bb_len (va_cons (ve_var 0) va_nil)) (ve_globI (by rfl) (T.c_MOST_DIGITS).choose_spec))) (vw_or1 (vt_not (vt_val (ve_blt (cr_all rfl) s_all (by rfl) T.z_all bb_all (va_cons (ve_lc (own := [("digit", 1)]) rfl sc_number_in.nd (vi_srcSt (ve_var 0)) (blkOk_by (own := [("digit", 1)]) (N := ["part", "digit"]) (sc := defScope st_number_in) (by decide +kernel)) (fun _ _ _ _ _ => (vg_name (i := 1) sc_number_in.nd rfl (by first | exact .inl rfl | exact .inr rfl))) (fun _ _ _ _ _ => vts_nil) (fun _ _ _ _ _ => (ve_cmp op_in_sign s_inSg (ve_var 1) (ve_globS (by rfl) (T.c_DIGITS).choose_spec) (by rfl)))) va_nil))))))) (vss_one (vs_ret ve_non)) vss_nil) (vss_one (vs_ret (ve_ite (vt_bool (vw_or (vt_cmp (op_eqU hr.units) s_eq (ve_var 0) ve_str (nomark _)) (vw_or1 (vt_cmp (op_neU hr.units) s_ne (ve_ix ix_seq s_ix (ve_var 0) ve_int (fun _ _ => rfl)) ve_str (nomark _))))) (ve_bty call_int_str s_intS (by rfl) T.z_int bb_int (va_cons (ve_var 0) va_nil)) ve_non))))
theorem e_number_in (T : Txt W.params K mg) : Defn P W K mg base 1 "number_in" 1 (spF K XR 1 m_number_in) := T.d_number_in.to rfl (g_number_in T)
end G
set_option Elab.async false
set_option linter.all false
set_option maxRecDepth 100000
set_option maxHeartbeats 8000000
namespace G
open PySem PySem.Spec PyProof.Rows L2 VI
variable {P : Program} {W : World} {K : PySem.W.Frag} {mg : Str → Option Value} {base : Heap} {XR : Hp → Hp → Xc → Value → Option Addr → Prop}
theorem sc_numbers_in : FnScope ["words", "found", "word"] ["words"] (defScope st_numbers_in) := ⟨rfl, rfl, rfl, by decide +kernel, rfl, by decide +kernel, by decide +kernel⟩
theorem g_numbers_in (T : Txt W.params K mg) (f : Addr) (fd : FuncData) (F : Fun K "numbers_in" "numbers_in" st_numbers_in f fd) : FnG P W K mg base 2 f fd ["words"] (spF K XR 1 m_numbers_in) := by
  have hh := @def_ok K P W mg base XR _ _ _ f fd _ _ 1 b_numbers_in F sc_numbers_in
  refine hh fun cdv A outer s H E hr hu => ?_
  exact (vss_cons (vs_asgLc (i := 1) (own := [("word", 2)]) rfl sc_numbers_in.nd rfl rfl (sw_true rfl rfl rfl (by decide +kernel)) (vi_src (ve_var 0)) (blkOk_by (own := [("word", 2)]) (N := ["words", "found", "word"]) (sc := defScope st_numbers_in) (by decide +kernel)) (fun _ _ _ _ _ => (vg_name (i := 2) sc_numbers_in.nd rfl (by first | exact .inl rfl | exact .inr rfl))) (fun _ _ _ _ _ => vts_nil) (fun _ _ _ _ _ => (ve_call (e_number_in T) (hr.mono (by omega)) hu (by rfl) (fun σ => passF σ) rfl (vd_cons (ve_var 2) vd_nil)))) (vss_one (vs_ret (ve_ite (vt_cmp (op_inD (u65 hr)) s_in ve_non (ve_var 1) (by rfl)) ve_non (ve_var 1)))))
theorem e_numbers_in (T : Txt W.params K mg) : Defn P W K mg base 2 "numbers_in" 1 (spF K XR 1 m_numbers_in) := T.d_numbers_in.to rfl (g_numbers_in T)
end G
set_option Elab.async false
set_option linter.all false
set_option maxRecDepth 100000
set_option maxHeartbeats 8000000
namespace G
open PySem PySem.Spec PyProof.Rows L2 VI
variable {P : Program} {W : World} {K : PySem.W.Frag} {mg : Str → Option Value} {base : Heap} {XR : Hp → Hp → Xc → Value → Option Addr → Prop}
theorem sc_words_of : FnScope ["text"] ["text"] (defScope st_words_of) := ⟨rfl, rfl, rfl, by decide +kernel, rfl, by decide +kernel, by decide +kernel⟩
theorem g_words_of (T : Txt W.params K mg) (f : Addr) (fd : FuncData) (F : Fun K "words_of" "words_of" st_words_of f fd) : FnG P W K mg base 1 f fd ["text"] (spF K XR 1 m_words_of) := by
  have hh := @def_ok K P W mg base XR _ _ _ f fd _ _ 0 b_words_of F sc_words_of
  refine hh fun cdv A outer s H E hr hu => ?_
  exact (vss_one (vs_ret (ve_ite (vt_cmp (op_eqU hr.units) s_eq (ve_var 0) (ve_globS (by rfl) (T.c_EMPTY).choose_spec) (nomark _)) (ve_lst vd_nil) (ve_split (ve_var 0) (ve_globS (by rfl) (T.c_BLANK).choose_spec)))))
theorem e_words_of (T : Txt W.params K mg) : Defn P W K mg base 1 "words_of" 1 (spF K XR 1 m_words_of) := T.d_words_of.to rfl (g_words_of T)
end G
set_option Elab.async false
set_option linter.all false
set_option maxRecDepth 100000
set_option maxHeartbeats 8000000
namespace G
open PySem PySem.Spec PyProof.Rows L2 VI
variable {P : Program} {W : World} {K : PySem.W.Frag} {mg : Str → Option Value} {base : Heap} {XR : Hp → Hp → Xc → Value → Option Addr → Prop}
theorem sc_is_integer : FnScope ["value"] ["value"] (defScope st_is_integer) := ⟨rfl, rfl, rfl, by decide +kernel, rfl, by decide +kernel, by decide +kernel⟩
theorem g_is_integer (T : Txt W.params K mg) (f : Addr) (fd : FuncData) (F : Fun K "is_integer" "is_integer" st_is_integer f fd) : FnG P W K mg base 1 f fd ["value"] (spF K XR 1 m_is_integer) := by
  have hh := @def_ok K P W mg base XR _ _ _ f fd _ _ 0 b_is_integer F sc_is_integer
  refine hh fun cdv A outer s H E hr hu => ?_
  exact (vss_one (vs_ret (ve_and (ve_isi kindInt rfl (by rfl) T.z_isinstance (by rfl) T.z_int bb_int (ve_var 0)) (ve_one (ve_not (ve_isi kindBool rfl (by rfl) T.z_isinstance (by rfl) T.z_bool bb_bool (ve_var 0)))))))
theorem e_is_integer (T : Txt W.params K mg) : Defn P W K mg base 1 "is_integer" 1 (spF K XR 1 m_is_integer) := T.d_is_integer.to rfl (g_is_integer T)
end G
set_option Elab.async false
set_option linter.all false
set_option maxRecDepth 100000
set_option maxHeartbeats 8000000
namespace G
open PySem PySem.Spec PyProof.Rows L2 VI
variable {P : Program} {W : World} {K : PySem.W.Frag} {mg : Str → Option Value} {base : Heap} {XR : Hp → Hp → Xc → Value → Option Addr → Prop}
theorem sc_is_row : FnScope ["value", "size"] ["value"] (defScope st_is_row) := ⟨rfl, rfl, rfl, by decide +kernel, rfl, by decide +kernel, by decide +kernel⟩
theorem g_is_row (T : Txt W.params K mg) (f : Addr) (fd : FuncData) (F : Fun K "is_row" "is_row" st_is_row f fd) : FnG P W K mg base 2 f fd ["value"] (spF K XR 1 m_is_row) := by
  have hh := @def_ok K P W mg base XR _ _ _ f fd _ _ 1 b_is_row F sc_is_row
  refine hh fun cdv A outer s H E hr hu => ?_
  exact (vss_one (vs_ret (ve_and (ve_isi kindTup rfl (by rfl) T.z_isinstance (by rfl) T.z_tuple bb_tuple (ve_var 0)) (ve_one (ve_blt (cr_all rfl) s_all (by rfl) T.z_all bb_all (va_cons (ve_lc (own := [("size", 1)]) rfl sc_is_row.nd (vi_src (ve_var 0)) (blkOk_by (own := [("size", 1)]) (N := ["value", "size"]) (sc := defScope st_is_row) (by decide +kernel)) (fun _ _ _ _ _ => (vg_name (i := 1) sc_is_row.nd rfl (by first | exact .inl rfl | exact .inr rfl))) (fun _ _ _ _ _ => vts_nil) (fun _ _ _ _ _ => (ve_and (ve_call (e_is_integer T) (hr.mono (by omega)) hu (by rfl) (fun σ => passF σ) rfl (vd_cons (ve_var 1) vd_nil)) (ve_one (ve_cmp op_ge s_ge (ve_var 1) ve_int (nomark _)))))) va_nil))))))
theorem e_is_row (T : Txt W.params K mg) : Defn P W K mg base 2 "is_row" 1 (spF K XR 1 m_is_row) := T.d_is_row.to rfl (g_is_row T)
end G
set_option Elab.async false
set_option linter.all false
set_option maxRecDepth 100000
set_option maxHeartbeats 8000000
namespace G
open PySem PySem.Spec PyProof.Rows L2 VI
variable {P : Program} {W : World} {K : PySem.W.Frag} {mg : Str → Option Value} {base : Heap} {XR : Hp → Hp → Xc → Value → Option Addr → Prop}
theorem sc_row_or_none_v2 : FnScope ["text", "found"] ["text"] (defScope st_row_or_none_v2) := ⟨rfl, rfl, rfl, by decide +kernel, rfl, by decide +kernel, by decide +kernel⟩
theorem g_row_or_none_v2 (T : Txt W.params K mg) (f : Addr) (fd : FuncData) (F : Fun K "row_or_none" "row_or_none" st_row_or_none_v2 f fd) : FnG P W K mg base 3 f fd ["text"] (spF K XR 1 m_row_or_none_v2) := by
  have hh := @def_ok K P W mg base XR _ _ _ f fd _ _ 2 b_row_or_none_v2 F sc_row_or_none_v2
  refine hh fun cdv A outer s H E hr hu => ?_
  exact (vss_cons (vs_asg (i := 1) sc_row_or_none_v2.nd rfl (by first | exact .inl rfl | exact .inr rfl) (ve_call (e_numbers_in T) (hr.mono (by omega)) hu (by rfl) (fun σ => passAt (takes_of rfl rfl rfl rfl) σ) rfl (vd_cons (ve_call (e_words_of T) (hr.mono (by omega)) hu (by rfl) (fun σ => passAt (takes_of rfl rfl rfl rfl) σ) rfl (vd_cons (ve_var 0) vd_nil)) vd_nil))) (vss_one (vs_ret (ve_ite (vt_bool (vw_and (vt_cmp op_notN s_notN (ve_var 1) ve_non (nomark _)) (vw_and1 (vt_val (ve_call (e_is_row T) (hr.mono (by omega)) hu (by rfl) (fun σ => passAt (takes_of rfl rfl rfl rfl) σ) rfl (vd_cons (ve_bty call_tuple_of s_tup (by rfl) T.z_tuple bb_tuple (va_cons (ve_var 1) va_nil)) vd_nil)))))) (ve_bty call_tuple_of s_tup (by rfl) T.z_tuple bb_tuple (va_cons (ve_var 1) va_nil)) ve_non))))
theorem e_row_or_none_v2 (T : Txt W.params K mg) : Defn P W K mg base 3 "row_or_none" 1 (spF K XR 1 m_row_or_none_v2) := T.d_row_or_none_v2.to rfl (g_row_or_none_v2 T)
end G
set_option Elab.async false
set_option linter.all false
set_option maxRecDepth 100000
set_option maxHeartbeats 8000000
namespace G
open PySem PySem.Spec PyProof.Rows L2 VI
variable {P : Program} {W : World} {K : PySem.W.Frag} {mg : Str → Option Value} {base : Heap} {XR : Hp → Hp → Xc → Value → Option Addr → Prop}
theorem sc_row_in_v5 : FnScope ["text"] ["text"] (defScope st_row_in_v5) := ⟨rfl, rfl, rfl, by decide +kernel, rfl, by decide +kernel, by decide +kernel⟩
theorem g_row_in_v5 (T : Txt W.params K mg) (f : Addr) (fd : FuncData) (F : Fun K "row_in" "row_in" st_row_in_v5 f fd) : FnG P W K mg base 5 f fd ["text"] (spF K XR 1 m_row_in_v5) := by
  have hh := @def_ok K P W mg base XR _ _ _ f fd _ _ 4 b_row_in_v5 F sc_row_in_v5
  refine hh fun cdv A outer s H E hr hu => ?_
  exact (vss_one (vs_ret (ve_thr (et_checked_v3 T) (hr.mono (by omega)) hu (by rfl) (fun σ => passAt (takes_of rfl rfl rfl rfl) σ) (ve_call (e_row_or_none_v2 T) (hr.mono (by omega)) hu (by rfl) (fun σ => passAt (takes_of rfl rfl rfl rfl) σ) rfl (vd_cons (ve_var 0) vd_nil)) (pv 0))))
theorem e_row_in_v5 (T : Txt W.params K mg) : Defn P W K mg base 5 "row_in" 1 (spF K XR 1 m_row_in_v5) := T.d_row_in_v5.to rfl (g_row_in_v5 T)
theorem e_row_in_v5_kw_text (T : Txt W.params K mg) : DefnK P W K mg base 5 "row_in" ["text"] [0] (spF K XR 1 m_row_in_v5) := T.d_row_in_v5_kw_text.to (g_row_in_v5 T)
end G
set_option Elab.async false
set_option linter.all false
set_option maxRecDepth 100000
set_option maxHeartbeats 8000000
namespace G
open PySem PySem.Spec PyProof.Rows L2 VI
variable {P : Program} {W : World} {K : PySem.W.Frag} {mg : Str → Option Value} {base : Heap} {XR : Hp → Hp → Xc → Value → Option Addr → Prop}
theorem sc_step_in_v2 : FnScope ["part", "word", "place"] ["part"] (defScope st_step_in_v2) := ⟨rfl, rfl, rfl, by decide +kernel, rfl, by decide +kernel, by decide +kernel⟩
theorem g_step_in_v2 (T : Txt W.params K mg) (f : Addr) (fd : FuncData) (F : Fun K "step_in" "step_in" st_step_in_v2 f fd) : FnG P W K mg base 2 f fd ["part"] (spF K XR 1 m_step_in_v2) := by
  have hh := @def_ok K P W mg base XR _ _ _ f fd _ _ 1 b_step_in_v2 F sc_step_in_v2
  refine hh fun cdv A outer s H E hr hu => ?_
  exact (vss_cons (vs_par2 (i := 1) (j := 2) rfl sc_step_in_v2.nd rfl rfl (by decide) rfl rfl (vm_cons (ve_getTs T.tb_WORDS (by rfl) (ve_slice rfl (ve_var 0) vo_none (vo_some ve_int)) ⟨rfl, rfl, rfl, rfl⟩) (vm_cons (ve_call (e_number_in T) (hr.mono (by omega)) hu (by rfl) (fun σ => passAt (takes_of rfl rfl rfl rfl) σ) rfl (vd_cons (ve_slice rfl (ve_var 0) (vo_some ve_int) vo_none) vd_nil)) vm_nil)) rfl) (vss_one (vs_ret (ve_ite (vt_bool (vw_or (vt_cmp op_isN s_isN (ve_var 1) ve_non (nomark _)) (vw_or1 (vt_cmp op_isN s_isN (ve_var 2) ve_non (nomark _))))) ve_non (ve_tup (vd_cons (ve_var 1) (vd_cons (ve_var 2) vd_nil)))))))
theorem e_step_in_v2 (T : Txt W.params K mg) : Defn P W K mg base 2 "step_in" 1 (spF K XR 1 m_step_in_v2) := T.d_step_in_v2.to rfl (g_step_in_v2 T)
end G
set_option Elab.async false
set_option linter.all false
set_option maxRecDepth 100000
set_option maxHeartbeats 8000000
namespace G
open PySem PySem.Spec PyProof.Rows L2 VI
variable {P : Program} {W : World} {K : PySem.W.Frag} {mg : Str → Option Value} {base : Heap} {XR : Hp → Hp → Xc → Value → Option Addr → Prop}
theorem sc_steps_or_none_v2 : FnScope ["text", "found", "part"] ["text"] (defScope st_steps_or_none_v2) := ⟨rfl, rfl, rfl, by decide +kernel, rfl, by decide +kernel, by decide +kernel⟩
theorem g_steps_or_none_v2 (T : Txt W.params K mg) (f : Addr) (fd : FuncData) (F : Fun K "steps_or_none" "steps_or_none" st_steps_or_none_v2 f fd) : FnG P W K mg base 3 f fd ["text"] (spF K XR 1 m_steps_or_none_v2) := by
  have hh := @def_ok K P W mg base XR _ _ _ f fd _ _ 2 b_steps_or_none_v2 F sc_steps_or_none_v2
  refine hh fun cdv A outer s H E hr hu => ?_
  exact (vss_cons (vs_asgLc (i := 1) (own := [("part", 2)]) rfl sc_steps_or_none_v2.nd rfl rfl (sw_true rfl rfl rfl (by decide +kernel)) (vi_src (ve_call (e_words_of T) (hr.mono (by omega)) hu (by rfl) (fun σ => passAt (takes_of rfl rfl rfl rfl) σ) rfl (vd_cons (ve_var 0) vd_nil))) (blkOk_by (own := [("part", 2)]) (N := ["text", "found", "part"]) (sc := defScope st_steps_or_none_v2) (by decide +kernel)) (fun _ _ _ _ _ => (vg_name (i := 2) sc_steps_or_none_v2.nd rfl (by first | exact .inl rfl | exact .inr rfl))) (fun _ _ _ _ _ => vts_nil) (fun _ _ _ _ _ => (ve_call (e_step_in_v2 T) (hr.mono (by omega)) hu (by rfl) (fun σ => passF σ) rfl (vd_cons (ve_var 2) vd_nil)))) (vss_one (vs_ret (ve_ite (vt_cmp (op_inD (u65 hr)) s_in ve_non (ve_var 1) (by rfl)) ve_non (ve_var 1)))))
theorem e_steps_or_none_v2 (T : Txt W.params K mg) : Defn P W K mg base 3 "steps_or_none" 1 (spF K XR 1 m_steps_or_none_v2) := T.d_steps_or_none_v2.to rfl (g_steps_or_none_v2 T)
end G
set_option Elab.async false
set_option linter.all false
set_option maxRecDepth 100000
set_option maxHeartbeats 8000000
namespace G
open PySem PySem.Spec PyProof.Rows L2 VI
variable {P : Program} {W : World} {K : PySem.W.Frag} {mg : Str → Option Value} {base : Heap} {XR : Hp → Hp → Xc → Value → Option Addr → Prop}
theorem sc_steps_in_v5 : FnScope ["text"] ["text"] (defScope st_steps_in_v5) := ⟨rfl, rfl, rfl, by decide +kernel, rfl, by decide +kernel, by decide +kernel⟩
theorem g_steps_in_v5 (T : Txt W.params K mg) (f : Addr) (fd : FuncData) (F : Fun K "steps_in" "steps_in" st_steps_in_v5 f fd) : FnG P W K mg base 5 f fd ["text"] (spF K XR 1 m_steps_in_v5) := by
  have hh := @def_ok K P W mg base XR _ _ _ f fd _ _ 4 b_steps_in_v5 F sc_steps_in_v5
  refine hh fun cdv A outer s H E hr hu => ?_
  exact (vss_one (vs_ret (ve_thr (et_checked_v3 T) (hr.mono (by omega)) hu (by rfl) (fun σ => passAt (takes_of rfl rfl rfl rfl) σ) (ve_call (e_steps_or_none_v2 T) (hr.mono (by omega)) hu (by rfl) (fun σ => passAt (takes_of rfl rfl rfl rfl) σ) rfl (vd_cons (ve_var 0) vd_nil)) (pv 0))))
theorem e_steps_in_v5 (T : Txt W.params K mg) : Defn P W K mg base 5 "steps_in" 1 (spF K XR 1 m_steps_in_v5) := T.d_steps_in_v5.to rfl (g_steps_in_v5 T)
theorem e_steps_in_v5_kw_text (T : Txt W.params K mg) : DefnK P W K mg base 5 "steps_in" ["text"] [0] (spF K XR 1 m_steps_in_v5) := T.d_steps_in_v5_kw_text.to (g_steps_in_v5 T)
end G
set_option Elab.async false
set_option linter.all false
set_option maxRecDepth 100000
set_option maxHeartbeats 8000000
namespace G
open PySem PySem.Spec PyProof.Rows L2 VI
variable {P : Program} {W : World} {K : PySem.W.Frag} {mg : Str → Option Value} {base : Heap} {XR : Hp → Hp → Xc → Value → Option Addr → Prop}
theorem sc_block_in_v2 : FnScope ["part", "found"] ["part"] (defScope st_block_in_v2) := ⟨rfl, rfl, rfl, by decide +kernel, rfl, by decide +kernel, by decide +kernel⟩
theorem g_block_in_v2 (T : Txt W.params K mg) (f : Addr) (fd : FuncData) (F : Fun K "block_in" "block_in" st_block_in_v2 f fd) : FnG P W K mg base 3 f fd ["part"] (spF K XR 1 m_block_in_v2) := by
  have hh := @def_ok K P W mg base XR _ _ _ f fd _ _ 2 b_block_in_v2 F sc_block_in_v2
  refine hh fun cdv A outer s H E hr hu => ?_
  exact (vss_cons (vs_asg (i := 1) sc_block_in_v2.nd rfl (by first | exact .inl rfl | exact .inr rfl) (ve_call (e_numbers_in T) (hr.mono (by omega)) hu (by rfl) (fun σ => passAt (takes_of rfl rfl rfl rfl) σ) rfl (vd_cons (ve_split (ve_var 0) (ve_globS (by rfl) (T.c_TIMES).choose_spec)) vd_nil))) (vss_one (vs_ret (ve_ite (vt_bool (vw_and (vt_cmp op_notN s_notN (ve_var 1) ve_non (nomark _)) (vw_and (vt_cmp (op_eqU hr.units) s_eq (ve_blt c_len s_len (by rfl) T.z_len bb_len (va_cons (ve_var 1) va_nil)) (ve_globI (by rfl) (T.c_PAIR).choose_spec) (nomark _)) (vw_and1 (vt_cmp (op_notInD (u65 hr)) s_notIn ve_int (ve_var 1) (by rfl)))))) (ve_bty call_tuple_of s_tup (by rfl) T.z_tuple bb_tuple (va_cons (ve_var 1) va_nil)) ve_non))))
theorem e_block_in_v2 (T : Txt W.params K mg) : Defn P W K mg base 3 "block_in" 1 (spF K XR 1 m_block_in_v2) := T.d_block_in_v2.to rfl (g_block_in_v2 T)
end G
set_option Elab.async false
set_option linter.all false
set_option maxRecDepth 100000
set_option maxHeartbeats 8000000
namespace G
open PySem PySem.Spec PyProof.Rows L2 VI
variable {P : Program} {W : World} {K : PySem.W.Frag} {mg : Str → Option Value} {base : Heap} {XR : Hp → Hp → Xc → Value → Option Addr → Prop}
theorem sc_blocks_or_none_v2 : FnScope ["text", "found", "part", "one", "other"] ["text"] (defScope st_blocks_or_none_v2) := ⟨rfl, rfl, rfl, by decide +kernel, rfl, by decide +kernel, by decide +kernel⟩
theorem g_blocks_or_none_v2 (T : Txt W.params K mg) (f : Addr) (fd : FuncData) (F : Fun K "blocks_or_none" "blocks_or_none" st_blocks_or_none_v2 f fd) : FnG P W K mg base 4 f fd ["text"] (spF K XR 1 m_blocks_or_none_v2) := by
  have hh := @def_ok K P W mg base XR _ _ _ f fd _ _ 3 b_blocks_or_none_v2 F sc_blocks_or_none_v2
  refine hh fun cdv A outer s H E hr hu => ?_
  exact (vss_cons (vs_asgLc (i := 1) (own := [("part", 2)]) rfl sc_blocks_or_none_v2.nd rfl rfl (sw_true rfl rfl rfl (by decide +kernel)) (vi_src (ve_call (e_words_of T) (hr.mono (by omega)) hu (by rfl) (fun σ => passAt (takes_of rfl rfl rfl rfl) σ) rfl (vd_cons (ve_var 0) vd_nil))) (blkOk_by (own := [("part", 2)]) (N := ["text", "found", "part", "one", "other"]) (sc := defScope st_blocks_or_none_v2) (by decide +kernel)) (fun _ _ _ _ _ => (vg_name (i := 2) sc_blocks_or_none_v2.nd rfl (by first | exact .inl rfl | exact .inr rfl))) (fun _ _ _ _ _ => vts_nil) (fun _ _ _ _ _ => (ve_call (e_block_in_v2 T) (hr.mono (by omega)) hu (by rfl) (fun σ => passF σ) rfl (vd_cons (ve_var 2) vd_nil)))) (vss_cons (vs_if (vt_bool (vw_or (vt_cmp (op_inD (u65 hr)) s_in ve_non (ve_var 1) (by rfl)) (vw_or1 (vt_val (ve_blt (cr_any rfl) s_any (by rfl) T.z_any bb_any (va_cons (ve_lc (own := [("one", 3), ("other", 4)]) rfl sc_blocks_or_none_v2.nd (vi_zip rfl (by rfl) T.z_zip (ve_var 1) (ve_slice rfl (ve_var 1) (vo_some ve_int) vo_none)) (blkOk_by (own := [("one", 3), ("other", 4)]) (N := ["text", "found", "part", "one", "other"]) (sc := defScope st_blocks_or_none_v2) (by decide +kernel)) (fun _ _ _ _ _ => (vg_tup rfl (vgs_cons (vg_name (i := 3) sc_blocks_or_none_v2.nd rfl (by first | exact .inl rfl | exact .inr rfl)) (vgs_cons (vg_name (i := 4) sc_blocks_or_none_v2.nd rfl (by first | exact .inl rfl | exact .inr rfl)) vgs_nil)))) (fun _ _ _ _ _ => vts_nil) (fun _ _ _ _ _ => (ve_cmp (op_eqU hr.units) s_eq (ve_ix ix_seq s_ix (ve_var 3) ve_int (fun _ _ => rfl)) (ve_ix ix_seq s_ix (ve_var 4) ve_int (fun _ _ => rfl)) (nomark _)))) va_nil)))))) (vss_one (vs_ret ve_non)) vss_nil) (vss_one (vs_ret (ve_var 1)))))
theorem e_blocks_or_none_v2 (T : Txt W.params K mg) : Defn P W K mg base 4 "blocks_or_none" 1 (spF K XR 1 m_blocks_or_none_v2) := T.d_blocks_or_none_v2.to rfl (g_blocks_or_none_v2 T)
end G
set_option Elab.async false
set_option linter.all false
set_option maxRecDepth 100000
set_option maxHeartbeats 8000000
namespace G
open PySem PySem.Spec PyProof.Rows L2 VI
variable {P : Program} {W : World} {K : PySem.W.Frag} {mg : Str → Option Value} {base : Heap} {XR : Hp → Hp → Xc → Value → Option Addr → Prop}
theorem sc_blocks_in_v5 : FnScope ["text"] ["text"] (defScope st_blocks_in_v5) := ⟨rfl, rfl, rfl, by decide +kernel, rfl, by decide +kernel, by decide +kernel⟩
theorem g_blocks_in_v5 (T : Txt W.params K mg) (f : Addr) (fd : FuncData) (F : Fun K "blocks_in" "blocks_in" st_blocks_in_v5 f fd) : FnG P W K mg base 5 f fd ["text"] (spF K XR 1 m_blocks_in_v5) := by
  have hh := @def_ok K P W mg base XR _ _ _ f fd _ _ 4 b_blocks_in_v5 F sc_blocks_in_v5
  refine hh fun cdv A outer s H E hr hu => ?_
  exact (vss_one (vs_ret (ve_thr (et_checked_v3 T) (hr.mono (by omega)) hu (by rfl) (fun σ => passAt (takes_of rfl rfl rfl rfl) σ) (ve_call (e_blocks_or_none_v2 T) (hr.mono (by omega)) hu (by rfl) (fun σ => passAt (takes_of rfl rfl rfl rfl) σ) rfl (vd_cons (ve_var 0) vd_nil)) (pv 0))))
theorem e_blocks_in_v5 (T : Txt W.params K mg) : Defn P W K mg base 5 "blocks_in" 1 (spF K XR 1 m_blocks_in_v5) := T.d_blocks_in_v5.to rfl (g_blocks_in_v5 T)
theorem e_blocks_in_v5_kw_text (T : Txt W.params K mg) : DefnK P W K mg base 5 "blocks_in" ["text"] [0] (spF K XR 1 m_blocks_in_v5) := T.d_blocks_in_v5_kw_text.to (g_blocks_in_v5 T)
end G
set_option Elab.async false
set_option linter.all false
set_option maxRecDepth 100000
set_option maxHeartbeats 8000000
namespace G
open PySem PySem.Spec PyProof.Rows L2 VI
variable {P : Program} {W : World} {K : PySem.W.Frag} {mg : Str → Option Value} {base : Heap} {XR : Hp → Hp → Xc → Value → Option Addr → Prop}
theorem sc_law_lists : FnScope ["_law_thing", "_law_piece"] ["_law_thing"] (defScope st_law_lists) := ⟨rfl, rfl, rfl, by decide +kernel, rfl, by decide +kernel, by decide +kernel⟩
theorem k_law_lists (T : Txt W.params K mg) : ∀ d : Nat, Defn P W K mg base (0 + d) "_law_lists" 1 (spF K XR 1 (r_law_lists d))
  | 0 => T.d_law_lists.no rfl
  | d + 1 => T.d_law_lists.to rfl fun f fd F => by
    have hh := @def_ok K P W mg base XR _ _ _ f fd _ _ (0 + d) (b_law_lists (r_law_lists d)) F sc_law_lists
    refine hh fun cdv A outer s H E hr hu => ?_
    have self_law_lists := k_law_lists T d
    exact (vss_one (vs_ret (ve_ite (vt_val (ve_isiT kindLst kindTup rfl (by rfl) T.z_isinstance (by rfl) T.z_list bb_list (by rfl) T.z_tuple bb_tuple (ve_var 0))) (ve_lc (own := [("_law_piece", 1)]) rfl sc_law_lists.nd (vi_src (ve_var 0)) (blkOk_by (own := [("_law_piece", 1)]) (N := ["_law_thing", "_law_piece"]) (sc := defScope st_law_lists) (by decide +kernel)) (fun _ _ _ _ _ => (vg_name (i := 1) sc_law_lists.nd rfl (by first | exact .inl rfl | exact .inr rfl))) (fun _ _ _ _ _ => vts_nil) (fun _ _ _ _ _ => (ve_call self_law_lists (hr.mono (by omega)) hu (by rfl) (fun σ => passF σ) rfl (vd_cons (ve_var 1) vd_nil)))) (ve_var 0))))
theorem e_law_lists (T : Txt W.params K mg) : Defn P W K mg base 60 "_law_lists" 1 (spF K XR 1 m_law_lists) := k_law_lists T 60
end G
set_option Elab.async false
set_option linter.all false
set_option maxRecDepth 100000
set_option maxHeartbeats 8000000
namespace G
open PySem PySem.Spec PyProof.Rows L2 VI
variable {P : Program} {W : World} {K : PySem.W.Frag} {mg : Str → Option Value} {base : Heap} {XR : Hp → Hp → Xc → Value → Option Addr → Prop}
theorem sc_law_right_v96 : FnScope ["_law_source", "_law_top", "_law_heaps", "_law_turn", "_law_due", "_law_found", "_law_large", "_law_words", "_law_tape", "_law_blocks_now", "_law_size", "_law_word", "_law_spot", "_law_many_now"] ["_law_source"] (defScope st_law_right_v96) := ⟨rfl, rfl, rfl, by decide +kernel, rfl, by decide +kernel, by decide +kernel⟩
theorem g_law_right_v96 (T : Txt W.params K mg) (f : Addr) (fd : FuncData) (F : Fun K "_law_right" "_law_right" st_law_right_v96 f fd) : FnG P W K mg base 63 f fd ["_law_source"] (spI K XR 1 m_law_right_v96) := by
  have hh := @def_okI K P W mg base XR _ _ _ f fd _ _ 62 b_law_right_v96 F sc_law_right_v96
  refine hh fun cdv A outer s H E hr hu => ?_
  exact (vss_cons (vs_asg (i := 1) sc_law_right_v96.nd rfl (by first | exact .inl rfl | exact .inr rfl) (ve_callI (e_law_pick_v3 T) (hr.mono (by omega)) hu (by rfl) (fun σ => passAt (takes_of rfl rfl rfl rfl) σ) rfl (ve_var 0) (vd_cons (ve_lst (vd_cons ve_int (vd_cons (ve_bin op_pow s_pow ve_int ve_int) (vd_cons (ve_bin op_pow s_pow ve_int ve_int) vd_nil)))) vd_nil))) (vss_cons (vs_asg (i := 2) sc_law_right_v96.nd rfl (by first | exact .inl rfl | exact .inr rfl) (ve_bty call_tuple_of s_tup (by rfl) T.z_tuple bb_tuple (va_cons (ve_lc (own := [("_law_turn", 3)]) rfl sc_law_right_v96.nd (vi_rng1 (by rfl) T.z_range (ve_callI (e_law_draw_v2 T) (hr.mono (by omega)) hu (by rfl) (fun σ => passAt (takes_of rfl rfl rfl rfl) σ) rfl (ve_var 0) (vd_cons ve_int vd_nil))) (blkOk_by (own := [("_law_turn", 3)]) (N := ["_law_source", "_law_top", "_law_heaps", "_law_turn", "_law_due", "_law_found", "_law_large", "_law_words", "_law_tape", "_law_blocks_now", "_law_size", "_law_word", "_law_spot", "_law_many_now"]) (sc := defScope st_law_right_v96) (by decide +kernel)) (fun _ _ _ _ _ => (vg_name (i := 3) sc_law_right_v96.nd rfl (by first | exact .inl rfl | exact .inr rfl))) (fun _ _ _ _ _ => vts_nil) (fun _ _ _ _ _ => (ve_bin op_addU s_add ve_int (ve_callI (e_law_draw_v2 T) (hr.mono (by omega)) hu (by rfl) (fun σ => passF σ) rfl (ve_var 0) (vd_cons (ve_var 1) vd_nil))))) va_nil))) (vss_cons (vs_par2 (i := 8) (j := 9) rfl sc_law_right_v96.nd rfl rfl (by decide) rfl rfl (vm_cons (ve_lst vd_nil) (vm_cons (ve_lst vd_nil) vm_nil)) rfl) (vss_cons (vs_for (passes_of rfl) rfl (vi_rng1 (by rfl) T.z_range (ve_callI (e_law_draw_v2 T) (hr.mono (by omega)) hu (by rfl) (fun σ => passAt (takes_of rfl rfl rfl rfl) σ) rfl (ve_var 0) (vd_cons ve_int vd_nil))) (vg_name (i := 3) sc_law_right_v96.nd rfl (by first | exact .inl rfl | exact .inr rfl)) (vss_one (vs_expr (ve_mut PySem.F.slot_list_append PySem.F.type_list_append mt_append m_app rfl (ve_var 8) (vd_cons (ve_tup (vd_cons (ve_callI (e_law_pick_v3 T) (hr.mono (by omega)) hu (by rfl) (fun σ => passAt (takes_of rfl rfl rfl rfl) σ) rfl (ve_var 0) (vd_cons (ve_lst (vd_cons ve_str (vd_cons ve_str vd_nil))) vd_nil)) (vd_cons (ve_callI (e_law_draw_v2 T) (hr.mono (by omega)) hu (by rfl) (fun σ => passAt (takes_of rfl rfl rfl rfl) σ) rfl (ve_var 0) (vd_cons (ve_callI (e_law_pick_v3 T) (hr.mono (by omega)) hu (by rfl) (fun σ => passAt (takes_of rfl rfl rfl rfl) σ) rfl (ve_var 0) (vd_cons (ve_lst (vd_cons ve_int (vd_cons (ve_bin op_pow s_pow ve_int ve_int) vd_nil))) vd_nil)) vd_nil)) vd_nil))) vd_nil))))) (vss_cons (vs_for (passes_of rfl) rfl (vi_rng1 (by rfl) T.z_range (ve_callI (e_law_draw_v2 T) (hr.mono (by omega)) hu (by rfl) (fun σ => passAt (takes_of rfl rfl rfl rfl) σ) rfl (ve_var 0) (vd_cons ve_int vd_nil))) (vg_name (i := 3) sc_law_right_v96.nd rfl (by first | exact .inl rfl | exact .inr rfl)) (vss_cons (vs_asg (i := 10) sc_law_right_v96.nd rfl (by first | exact .inl rfl | exact .inr rfl) (ve_bin op_addU s_add ve_int (ve_callI (e_law_draw_v2 T) (hr.mono (by omega)) hu (by rfl) (fun σ => passAt (takes_of rfl rfl rfl rfl) σ) rfl (ve_var 0) (vd_cons (ve_var 1) vd_nil)))) (vss_one (vs_if (vt_bool (vw_or (vt_cmp (op_eqU hr.units) s_eq (ve_var 9) (ve_lst vd_nil) (nomark _)) (vw_or1 (vt_cmp (op_neU hr.units) s_ne (ve_ix ix_seq s_ix (ve_ix ix_seq s_ix (ve_var 9) (ve_un un_neg s_neg ve_int) (fun _ _ => rfl)) ve_int (fun _ _ => rfl)) (ve_var 10) (nomark _))))) (vss_one (vs_expr (ve_mut PySem.F.slot_list_append PySem.F.type_list_append mt_append m_app rfl (ve_var 9) (vd_cons (ve_tup (vd_cons (ve_var 10) (vd_cons (ve_bin op_addU s_add ve_int (ve_callI (e_law_draw_v2 T) (hr.mono (by omega)) hu (by rfl) (fun σ => passAt (takes_of rfl rfl rfl rfl) σ) rfl (ve_var 0) (vd_cons (ve_callI (e_law_pick_v3 T) (hr.mono (by omega)) hu (by rfl) (fun σ => passAt (takes_of rfl rfl rfl rfl) σ) rfl (ve_var 0) (vd_cons (ve_lst (vd_cons ve_int (vd_cons (ve_bin op_pow s_pow ve_int ve_int) vd_nil))) vd_nil)) vd_nil))) vd_nil))) vd_nil)))) vss_nil)))) (vss_cons (vs_asg (i := 4) sc_law_right_v96.nd rfl (by first | exact .inl rfl | exact .inr rfl) (ve_lst (vd_cons (ve_call (e_law_joined_v3 T) (hr.mono (by omega)) hu (by rfl) (fun σ => passAt (takes_of rfl rfl rfl rfl) σ) rfl (vd_cons (ve_lc (own := [("_law_size", 10)]) rfl sc_law_right_v96.nd (vi_src (ve_var 2)) (blkOk_by (own := [("_law_size", 10)]) (N := ["_law_source", "_law_top", "_law_heaps", "_law_turn", "_law_due", "_law_found", "_law_large", "_law_words", "_law_tape", "_law_blocks_now", "_law_size", "_law_word", "_law_spot", "_law_many_now"]) (sc := defScope st_law_right_v96) (by decide +kernel)) (fun _ _ _ _ _ => (vg_name (i := 10) sc_law_right_v96.nd rfl (by first | exact .inl rfl | exact .inr rfl))) (fun _ _ _ _ _ => vts_nil) (fun _ _ _ _ _ => (ve_bty call_str_int s_str (by rfl) T.z_str bb_str (va_cons (ve_var 10) va_nil)))) vd_nil)) (vd_cons (ve_call (e_law_joined_v3 T) (hr.mono (by omega)) hu (by rfl) (fun σ => passAt (takes_of rfl rfl rfl rfl) σ) rfl (vd_cons (ve_lc (own := [("_law_word", 11), ("_law_spot", 12)]) rfl sc_law_right_v96.nd (vi_src (ve_var 8)) (blkOk_by (own := [("_law_word", 11), ("_law_spot", 12)]) (N := ["_law_source", "_law_top", "_law_heaps", "_law_turn", "_law_due", "_law_found", "_law_large", "_law_words", "_law_tape", "_law_blocks_now", "_law_size", "_law_word", "_law_spot", "_law_many_now"]) (sc := defScope st_law_right_v96) (by decide +kernel)) (fun _ _ _ _ _ => (vg_tup rfl (vgs_cons (vg_name (i := 11) sc_law_right_v96.nd rfl (by first | exact .inl rfl | exact .inr rfl)) (vgs_cons (vg_name (i := 12) sc_law_right_v96.nd rfl (by first | exact .inl rfl | exact .inr rfl)) vgs_nil)))) (fun _ _ _ _ _ => vts_nil) (fun _ _ _ _ _ => (ve_bin op_addU s_add (ve_ix ix_seq s_ix (ve_var 11) ve_int (fun _ _ => rfl)) (ve_bty call_str_int s_str (by rfl) T.z_str bb_str (va_cons (ve_var 12) va_nil))))) vd_nil)) vd_nil)))) (vss_cons (vs_expr (ve_mut PySem.F.slot_list_append PySem.F.type_list_append mt_append m_app rfl (ve_var 4) (vd_cons (ve_call (e_law_joined_v3 T) (hr.mono (by omega)) hu (by rfl) (fun σ => passAt (takes_of rfl rfl rfl rfl) σ) rfl (vd_cons (ve_lc (own := [("_law_size", 10), ("_law_many_now", 13)]) rfl sc_law_right_v96.nd (vi_src (ve_var 9)) (blkOk_by (own := [("_law_size", 10), ("_law_many_now", 13)]) (N := ["_law_source", "_law_top", "_law_heaps", "_law_turn", "_law_due", "_law_found", "_law_large", "_law_words", "_law_tape", "_law_blocks_now", "_law_size", "_law_word", "_law_spot", "_law_many_now"]) (sc := defScope st_law_right_v96) (by decide +kernel)) (fun _ _ _ _ _ => (vg_tup rfl (vgs_cons (vg_name (i := 10) sc_law_right_v96.nd rfl (by first | exact .inl rfl | exact .inr rfl)) (vgs_cons (vg_name (i := 13) sc_law_right_v96.nd rfl (by first | exact .inl rfl | exact .inr rfl)) vgs_nil)))) (fun _ _ _ _ _ => vts_nil) (fun _ _ _ _ _ => (ve_bin op_addU s_add (ve_bin op_addU s_add (ve_bty call_str_int s_str (by rfl) T.z_str bb_str (va_cons (ve_var 10) va_nil)) ve_str) (ve_bty call_str_int s_str (by rfl) T.z_str bb_str (va_cons (ve_var 13) va_nil))))) vd_nil)) vd_nil))) (vss_cons (vs_asgN (i := 5) sc_law_right_v96.nd rfl (by first | exact .inl rfl | exact .inr rfl) (vn_lst (vns_cons (vn_ev (ve_call (e_row_text T) (hr.mono (by omega)) hu (by rfl) (fun σ => passAt (takes_of rfl rfl rfl rfl) σ) rfl (vd_cons (ve_var 2) vd_nil))) (vns_cons (vn_ev (ve_call (e_steps_text T) (hr.mono (by omega)) hu (by rfl) (fun σ => passAt (takes_of rfl rfl rfl rfl) σ) rfl (vd_cons (ve_var 8) vd_nil))) (vns_cons (vn_ev (ve_call (e_blocks_text T) (hr.mono (by omega)) hu (by rfl) (fun σ => passAt (takes_of rfl rfl rfl rfl) σ) rfl (vd_cons (ve_var 9) vd_nil))) vns_nil))))) (vss_cons (vs_asgN (i := 5) sc_law_right_v96.nd rfl (by first | exact .inl rfl | exact .inr rfl) (vn_ev (ve_bin op_addU s_add (ve_varL 5) (ve_lst (vd_cons (ve_callK (e_row_text_kw_row T) (hr.mono (by omega)) hu (by rfl) (fun σ => passAt (takes_of rfl rfl rfl rfl) σ) rfl (fun ds h => match ds, h with | [_], _ => rfl) (vk_cons (ve_bty call_list_of s_lst (by rfl) T.z_list bb_list (va_cons (ve_var 2) va_nil)) vk_nil)) (vd_cons (ve_callK (e_steps_text_kw_steps T) (hr.mono (by omega)) hu (by rfl) (fun σ => passAt (takes_of rfl rfl rfl rfl) σ) rfl (fun ds h => match ds, h with | [_], _ => rfl) (vk_cons (ve_bty call_tuple_of s_tup (by rfl) T.z_tuple bb_tuple (va_cons (ve_var 8) va_nil)) vk_nil)) vd_nil)))))) (vss_cons (vs_expr (ve_mut PySem.F.slot_list_append PySem.F.type_list_append mt_append m_app rfl (ve_var 5) (vd_cons (ve_callK (e_blocks_text_kw_blocks T) (hr.mono (by omega)) hu (by rfl) (fun σ => passAt (takes_of rfl rfl rfl rfl) σ) rfl (fun ds h => match ds, h with | [_], _ => rfl) (vk_cons (ve_call (e_law_lists T) (hr.mono (by omega)) hu (by rfl) (fun σ => passAt (takes_of rfl rfl rfl rfl) σ) rfl (vd_cons (ve_var 9) vd_nil)) vk_nil)) vd_nil))) (vss_cons (vs_if (vt_not (vt_lent (vt_val (ve_call (e_law_same_v3 T) (hr.mono (by omega)) hu (by rfl) (fun σ => passAt (takes_of rfl rfl rfl rfl) σ) rfl (vd_cons (ve_var 5) (vd_cons (ve_bin op_addU s_add (ve_var 4) (ve_var 4)) vd_nil)))))) (vss_one (vs_ret ve_bl)) vss_nil) (vss_cons (vs_asgN (i := 5) sc_law_right_v96.nd rfl (by first | exact .inl rfl | exact .inr rfl) (vn_lst (vns_cons (vn_ev (ve_call (e_row_in_v5 T) (hr.mono (by omega)) hu (by rfl) (fun σ => passAt (takes_of rfl rfl rfl rfl) σ) rfl (vd_cons (ve_ix ix_seq s_ix (ve_var 4) ve_int (fun _ _ => rfl)) vd_nil))) (vns_cons (vn_ev (ve_call (e_steps_in_v5 T) (hr.mono (by omega)) hu (by rfl) (fun σ => passAt (takes_of rfl rfl rfl rfl) σ) rfl (vd_cons (ve_ix ix_seq s_ix (ve_var 4) ve_int (fun _ _ => rfl)) vd_nil))) (vns_cons (vn_ev (ve_call (e_blocks_in_v5 T) (hr.mono (by omega)) hu (by rfl) (fun σ => passAt (takes_of rfl rfl rfl rfl) σ) rfl (vd_cons (ve_ix ix_seq s_ix (ve_var 4) ve_int (fun _ _ => rfl)) vd_nil))) vns_nil))))) (vss_cons (vs_if (vt_not (vt_lent (vt_val (ve_call (e_law_same_v3 T) (hr.mono (by omega)) hu (by rfl) (fun σ => passAt (takes_of rfl rfl rfl rfl) σ) rfl (vd_cons (ve_var 5) (vd_cons (ve_lst (vd_cons (ve_var 2) (vd_cons (ve_var 8) (vd_cons (ve_var 9) vd_nil)))) vd_nil)))))) (vss_one (vs_ret ve_bl)) vss_nil) (vss_cons (vs_expr (ve_mutAt PySem.F.slot_list_append PySem.F.type_list_append mt_append m_app rfl (ve_var 5) ve_int (fun _ _ => rfl) pc_str cst_str)) (vss_cons (vs_expr (ve_mutAt0 PySem.F.slot_list_reverse PySem.F.type_list_reverse mt_reverse m_rev rfl (ve_var 5) ve_int (fun _ _ => rfl))) (vss_cons (vs_if (vt_not (vt_val (ve_call (e_law_same_v3 T) (hr.mono (by omega)) hu (by rfl) (fun σ => passAt (takes_of rfl rfl rfl rfl) σ) rfl (vd_cons (ve_lst (vd_cons (ve_callK (e_row_in_v5_kw_text T) (hr.mono (by omega)) hu (by rfl) (fun σ => passAt (takes_of rfl rfl rfl rfl) σ) rfl (fun ds h => match ds, h with | [_], _ => rfl) (vk_cons (ve_ix ix_seq s_ix (ve_var 4) ve_int (fun _ _ => rfl)) vk_nil)) (vd_cons (ve_callK (e_steps_in_v5_kw_text T) (hr.mono (by omega)) hu (by rfl) (fun σ => passAt (takes_of rfl rfl rfl rfl) σ) rfl (fun ds h => match ds, h with | [_], _ => rfl) (vk_cons (ve_ix ix_seq s_ix (ve_var 4) ve_int (fun _ _ => rfl)) vk_nil)) (vd_cons (ve_callK (e_blocks_in_v5_kw_text T) (hr.mono (by omega)) hu (by rfl) (fun σ => passAt (takes_of rfl rfl rfl rfl) σ) rfl (fun ds h => match ds, h with | [_], _ => rfl) (vk_cons (ve_ix ix_seq s_ix (ve_var 4) ve_int (fun _ _ => rfl)) vk_nil)) vd_nil)))) (vd_cons (ve_lst (vd_cons (ve_var 2) (vd_cons (ve_var 8) (vd_cons (ve_var 9) vd_nil)))) vd_nil))))) (vss_one (vs_ret ve_bl)) vss_nil) (vss_cons (vs_asg (i := 6) sc_law_right_v96.nd rfl (by first | exact .inl rfl | exact .inr rfl) (ve_bty call_tuple_of s_tup (by rfl) T.z_tuple bb_tuple (va_cons (ve_lc (own := [("_law_turn", 3)]) rfl sc_law_right_v96.nd (vi_rng1 (by rfl) T.z_range (ve_bin op_addU s_add ve_int (ve_callI (e_law_draw_v2 T) (hr.mono (by omega)) hu (by rfl) (fun σ => passAt (takes_of rfl rfl rfl rfl) σ) rfl (ve_var 0) (vd_cons ve_int vd_nil)))) (blkOk_by (own := [("_law_turn", 3)]) (N := ["_law_source", "_law_top", "_law_heaps", "_law_turn", "_law_due", "_law_found", "_law_large", "_law_words", "_law_tape", "_law_blocks_now", "_law_size", "_law_word", "_law_spot", "_law_many_now"]) (sc := defScope st_law_right_v96) (by decide +kernel)) (fun _ _ _ _ _ => (vg_name (i := 3) sc_law_right_v96.nd rfl (by first | exact .inl rfl | exact .inr rfl))) (fun _ _ _ _ _ => vts_nil) (fun _ _ _ _ _ => (ve_bin op_addU s_add ve_int (ve_callI (e_law_draw_v2 T) (hr.mono (by omega)) hu (by rfl) (fun σ => passF σ) rfl (ve_var 0) (vd_cons ve_int vd_nil))))) va_nil))) (vss_cons (vs_asgLc (i := 7) (own := [("_law_size", 10)]) rfl sc_law_right_v96.nd rfl rfl (sw_true rfl rfl rfl (by decide +kernel)) (vi_src (ve_var 6)) (blkOk_by (own := [("_law_size", 10)]) (N := ["_law_source", "_law_top", "_law_heaps", "_law_turn", "_law_due", "_law_found", "_law_large", "_law_words", "_law_tape", "_law_blocks_now", "_law_size", "_law_word", "_law_spot", "_law_many_now"]) (sc := defScope st_law_right_v96) (by decide +kernel)) (fun _ _ _ _ _ => (vg_name (i := 10) sc_law_right_v96.nd rfl (by first | exact .inl rfl | exact .inr rfl))) (fun _ _ _ _ _ => vts_nil) (fun _ _ _ _ _ => (ve_bty call_str_int s_str (by rfl) T.z_str bb_str (va_cons (ve_var 10) va_nil)))) (vss_cons (vs_asgN (i := 5) sc_law_right_v96.nd rfl (by first | exact .inl rfl | exact .inr rfl) (vn_lst (vns_cons (vn_ev (ve_call (e_row_in_v5 T) (hr.mono (by omega)) hu (by rfl) (fun σ => passAt (takes_of rfl rfl rfl rfl) σ) rfl (vd_cons (ve_join rfl ve_str (ve_var 7)) vd_nil))) (vns_cons (vn_ev (ve_call (e_steps_in_v5 T) (hr.mono (by omega)) hu (by rfl) (fun σ => passAt (takes_of rfl rfl rfl rfl) σ) rfl (vd_cons (ve_bin op_addU s_add ve_str (ve_join rfl ve_str (ve_var 7))) vd_nil))) (vns_cons (vn_ev (ve_call (e_row_text T) (hr.mono (by omega)) hu (by rfl) (fun σ => passAt (takes_of rfl rfl rfl rfl) σ) rfl (vd_cons (ve_tup vd_nil) vd_nil))) (vns_cons (vn_ev (ve_call (e_row_in_v5 T) (hr.mono (by omega)) hu (by rfl) (fun σ => passAt (takes_of rfl rfl rfl rfl) σ) rfl (vd_cons ve_str vd_nil))) (vns_cons (vn_ev (ve_call (e_blocks_in_v5 T) (hr.mono (by omega)) hu (by rfl) (fun σ => passAt (takes_of rfl rfl rfl rfl) σ) rfl (vd_cons ve_str vd_nil))) vns_nil))))))) (vss_one (vs_ret (ve_lent (ve_call (e_law_same_v3 T) (hr.mono (by omega)) hu (by rfl) (fun σ => passAt (takes_of rfl rfl rfl rfl) σ) rfl (vd_cons (ve_var 5) (vd_cons (ve_lst (vd_cons (ve_var 6) (vd_cons (ve_lc (own := [("_law_size", 10)]) rfl sc_law_right_v96.nd (vi_src (ve_var 6)) (blkOk_by (own := [("_law_size", 10)]) (N := ["_law_source", "_law_top", "_law_heaps", "_law_turn", "_law_due", "_law_found", "_law_large", "_law_words", "_law_tape", "_law_blocks_now", "_law_size", "_law_word", "_law_spot", "_law_many_now"]) (sc := defScope st_law_right_v96) (by decide +kernel)) (fun _ _ _ _ _ => (vg_name (i := 10) sc_law_right_v96.nd rfl (by first | exact .inl rfl | exact .inr rfl))) (fun _ _ _ _ _ => vts_nil) (fun _ _ _ _ _ => (ve_tup (vd_cons ve_str (vd_cons (ve_var 10) vd_nil))))) (vd_cons ve_str (vd_cons (ve_tup vd_nil) (vd_cons (ve_lst vd_nil) vd_nil)))))) vd_nil)))))))))))))))))))))))))
theorem e_law_right_v96 (T : Txt W.params K mg) : Defn P W K mg base 63 "_law_right" 1 (spI K XR 1 m_law_right_v96) := T.d_law_right_v96.to rfl (g_law_right_v96 T)
end G
set_option Elab.async false
set_option linter.all false
set_option maxRecDepth 100000
set_option maxHeartbeats 8000000
namespace G
open PySem PySem.Spec PyProof.Rows L2 VI
variable {P : Program} {W : World} {K : PySem.W.Frag} {mg : Str → Option Value} {base : Heap} {XR : Hp → Hp → Xc → Value → Option Addr → Prop}
theorem sc_law_v97 : FnScope ["_law_script", "_law_cells", "_law_k", "_law_source", "_law_turn"] ["_law_script"] (defScope st_law_v97) := ⟨rfl, rfl, rfl, by decide +kernel, rfl, by decide +kernel, by decide +kernel⟩
theorem g_law_v97 (T : Txt W.params K mg) (f : Addr) (fd : FuncData) (F : Fun K "law" "law" st_law_v97 f fd) : FnG P W K mg base 64 f fd ["_law_script"] (spF K XR 1 m_law_v97) := by
  have hh := @def_ok K P W mg base XR _ _ _ f fd _ _ 63 b_law_v97 F sc_law_v97
  refine hh fun cdv A outer s H E hr hu => ?_
  exact (vss_cons (vs_asg (i := 1) sc_law_v97.nd rfl (by first | exact .inl rfl | exact .inr rfl) (ve_call (e_law_folded T) (hr.mono (by omega)) hu (by rfl) (fun σ => passAt (takes_of rfl rfl rfl rfl) σ) rfl (vd_cons (ve_var 0) (vd_cons ve_int vd_nil)))) (vss_cons (vs_for (passes_of rfl) rfl (vi_rng1 (by rfl) T.z_range (ve_blt c_len s_len (by rfl) T.z_len bb_len (va_cons (ve_var 1) va_nil))) (vg_name (i := 2) sc_law_v97.nd rfl (by first | exact .inl rfl | exact .inr rfl)) (vss_cons (vs_asg (i := 3) sc_law_v97.nd rfl (by first | exact .inl rfl | exact .inr rfl) (ve_call (e_law_stream T) (hr.mono (by omega)) hu (by rfl) (fun σ => passAt (takes_of rfl rfl rfl rfl) σ) rfl (vd_cons (ve_var 1) (vd_cons (ve_var 2) vd_nil)))) (vss_one (vs_if (vt_not (vt_val (ve_blt (cr_all rfl) s_all (by rfl) T.z_all bb_all (va_cons (ve_lc (own := [("_law_turn", 4)]) rfl sc_law_v97.nd (vi_rng1 (by rfl) T.z_range ve_int) (blkOk_by (own := [("_law_turn", 4)]) (N := ["_law_script", "_law_cells", "_law_k", "_law_source", "_law_turn"]) (sc := defScope st_law_v97) (by decide +kernel)) (fun _ _ _ _ _ => (vg_name (i := 4) sc_law_v97.nd rfl (by first | exact .inl rfl | exact .inr rfl))) (fun _ _ _ _ _ => vts_nil) (fun _ _ _ _ _ => (ve_callI (e_law_right_v96 T) (hr.mono (by omega)) hu (by rfl) (fun σ => passF σ) rfl (ve_var 3) vd_nil))) va_nil)))) (vss_one (vs_ret ve_bl)) vss_nil)))) (vss_one (vs_ret ve_bl))))
end G
set_option Elab.async false
set_option linter.all false
set_option maxRecDepth 100000
set_option maxHeartbeats 8000000
namespace G
open PySem PySem.Spec PyProof.Rows L2 VI
abbrev faX_0 : List (PySem.W.Frag → Bool) := [tsB "LETTERS" [("join", "j"), ("split", "s")],
  tsB "WORDS" [("j", "join"), ("s", "split")],
  gloB "_law_folded",
  gloB "_law_stream",
  gloB "_law_draw",
  gloB "_law_pick",
  gloB "_law_same",
  gloB "_law_joined",
  gloB "joined_text",
  gloB "row_text",
  gloB "steps_text",
  gloB "blocks_text",
  gloB "checked",
  gloB "number_in",
  gloB "numbers_in",
  gloB "words_of",
  gloB "is_integer",
  gloB "is_row",
  gloB "row_or_none",
  gloB "row_in",
  gloB "step_in",
  gloB "steps_or_none",
  gloB "steps_in",
  gloB "block_in",
  gloB "blocks_or_none",
  gloB "blocks_in",
  gloB "_law_lists",
  gloB "_law_right",
  gloB "law",
  freeB "abs"]
abbrev faX_1 : List (PySem.W.Frag → Bool) := [freeB "all",
  freeB "any",
  freeB "bool",
  freeB "enumerate",
  freeB "int",
  freeB "isinstance",
  freeB "len",
  freeB "list",
  freeB "range",
  freeB "str",
  freeB "tuple",
  freeB "zip",
  faB (.str "BLANK" " "),
  faB (.str "DIGITS" "0123456789"),
  faB (.str "EMPTY" "-"),
  faB (.int "MOST_DIGITS" (50)),
  faB (.int "PAIR" (2)),
  faB (.str "TIMES" "x")]
abbrev faX : List (PySem.W.Frag → Bool) := faX_0 ++ (faX_1)
abbrev fnX_0 : List He.DefD := [dfD "_law_folded" "_law_folded" st_law_folded,
  dfD "_law_stream" "_law_stream" st_law_stream,
  dfD "_law_draw" "_law_draw" st_law_draw_v2,
  dfD "_law_pick" "_law_pick" st_law_pick_v3,
  dfD "_law_same" "_law_same" st_law_same_v3,
  dfD "_law_joined" "_law_joined" st_law_joined_v3,
  dfD "joined_text" "joined_text" st_joined_text,
  dfD "row_text" "row_text" st_row_text,
  dfD "steps_text" "steps_text" st_steps_text,
  dfD "blocks_text" "blocks_text" st_blocks_text,
  dfD "checked" "checked" st_checked_v3,
  dfD "number_in" "number_in" st_number_in,
  dfD "numbers_in" "numbers_in" st_numbers_in,
  dfD "words_of" "words_of" st_words_of,
  dfD "is_integer" "is_integer" st_is_integer,
  dfD "is_row" "is_row" st_is_row,
  dfD "row_or_none" "row_or_none" st_row_or_none_v2,
  dfD "row_in" "row_in" st_row_in_v5,
  dfD "step_in" "step_in" st_step_in_v2,
  dfD "steps_or_none" "steps_or_none" st_steps_or_none_v2,
  dfD "steps_in" "steps_in" st_steps_in_v5,
  dfD "block_in" "block_in" st_block_in_v2,
  dfD "blocks_or_none" "blocks_or_none" st_blocks_or_none_v2,
  dfD "blocks_in" "blocks_in" st_blocks_in_v5,
  dfD "_law_lists" "_law_lists" st_law_lists,
  dfD "_law_right" "_law_right" st_law_right_v96,
  dfD "law" "law" st_law_v97]
abbrev fnX : List He.DefD := fnX_0
abbrev tbX_0 : List (Str × List Str) := [("LETTERS", ["join", "split"]),
  ("WORDS", ["j", "s"])]
abbrev tbX : List (Str × List Str) := tbX_0
theorem all_mkX {w : World} {K : PySem.W.Frag} {h : Heap} {mg : Str → Option Value} (X : K.In h) (G : h.Ns mainGlobals mg) (c : SaysX faX fnX tbX w K) : Txt w.params K mg :=
  {
    tb_LETTERS := tbs_hd X G (c.fact 0) (c.tab 0)
    tb_WORDS := tbs_hd X G (c.fact 1) (c.tab 1)
    d_law_folded := df_hd X G (c.def_ 0) (c.fact 2) rfl fun _ _ _ _ _ _ us hl => match us, hl with | [_, _], _ => rfl
    d_law_stream := df_hd X G (c.def_ 1) (c.fact 3) rfl fun _ _ _ _ _ _ us hl => match us, hl with | [_, _], _ => rfl
    d_law_draw_v2 := df_hd X G (c.def_ 2) (c.fact 4) rfl fun _ _ _ _ _ _ us hl => match us, hl with | [_, _], _ => rfl
    d_law_pick_v3 := df_hd X G (c.def_ 3) (c.fact 5) rfl fun _ _ _ _ _ _ us hl => match us, hl with | [_, _], _ => rfl
    d_law_same_v3 := df_hd X G (c.def_ 4) (c.fact 6) rfl fun _ _ _ _ _ _ us hl => match us, hl with | [_, _], _ => rfl
    d_law_joined_v3 := df_hd X G (c.def_ 5) (c.fact 7) rfl fun _ _ _ _ _ _ us hl => match us, hl with | [_], _ => rfl
    d_joined_text := df_hd X G (c.def_ 6) (c.fact 8) rfl fun _ _ _ _ _ _ us hl => match us, hl with | [_], _ => rfl
    d_row_text := df_hd X G (c.def_ 7) (c.fact 9) rfl fun _ _ _ _ _ _ us hl => match us, hl with | [_], _ => rfl
    d_row_text_kw_row := dfk_hd X G (c.def_ 7) (c.fact 9) fun _ _ _ _ _ _ ws hl => match ws, hl with | [_], _ => rfl
    d_steps_text := df_hd X G (c.def_ 8) (c.fact 10) rfl fun _ _ _ _ _ _ us hl => match us, hl with | [_], _ => rfl
    d_steps_text_kw_steps := dfk_hd X G (c.def_ 8) (c.fact 10) fun _ _ _ _ _ _ ws hl => match ws, hl with | [_], _ => rfl
    d_blocks_text := df_hd X G (c.def_ 9) (c.fact 11) rfl fun _ _ _ _ _ _ us hl => match us, hl with | [_], _ => rfl
    d_blocks_text_kw_blocks := dfk_hd X G (c.def_ 9) (c.fact 11) fun _ _ _ _ _ _ ws hl => match ws, hl with | [_], _ => rfl
    d_checked_v3 := df_hd X G (c.def_ 10) (c.fact 12) rfl fun _ _ _ _ _ _ us hl => match us, hl with | [_, _], _ => rfl
    d_number_in := df_hd X G (c.def_ 11) (c.fact 13) rfl fun _ _ _ _ _ _ us hl => match us, hl with | [_], _ => rfl
    d_numbers_in := df_hd X G (c.def_ 12) (c.fact 14) rfl fun _ _ _ _ _ _ us hl => match us, hl with | [_], _ => rfl
    d_words_of := df_hd X G (c.def_ 13) (c.fact 15) rfl fun _ _ _ _ _ _ us hl => match us, hl with | [_], _ => rfl
    d_is_integer := df_hd X G (c.def_ 14) (c.fact 16) rfl fun _ _ _ _ _ _ us hl => match us, hl with | [_], _ => rfl
    d_is_row := df_hd X G (c.def_ 15) (c.fact 17) rfl fun _ _ _ _ _ _ us hl => match us, hl with | [_], _ => rfl
    d_row_or_none_v2 := df_hd X G (c.def_ 16) (c.fact 18) rfl fun _ _ _ _ _ _ us hl => match us, hl with | [_], _ => rfl
    d_row_in_v5 := df_hd X G (c.def_ 17) (c.fact 19) rfl fun _ _ _ _ _ _ us hl => match us, hl with | [_], _ => rfl
    d_row_in_v5_kw_text := dfk_hd X G (c.def_ 17) (c.fact 19) fun _ _ _ _ _ _ ws hl => match ws, hl with | [_], _ => rfl
    d_step_in_v2 := df_hd X G (c.def_ 18) (c.fact 20) rfl fun _ _ _ _ _ _ us hl => match us, hl with | [_], _ => rfl
    d_steps_or_none_v2 := df_hd X G (c.def_ 19) (c.fact 21) rfl fun _ _ _ _ _ _ us hl => match us, hl with | [_], _ => rfl
    d_steps_in_v5 := df_hd X G (c.def_ 20) (c.fact 22) rfl fun _ _ _ _ _ _ us hl => match us, hl with | [_], _ => rfl
    d_steps_in_v5_kw_text := dfk_hd X G (c.def_ 20) (c.fact 22) fun _ _ _ _ _ _ ws hl => match ws, hl with | [_], _ => rfl
    d_block_in_v2 := df_hd X G (c.def_ 21) (c.fact 23) rfl fun _ _ _ _ _ _ us hl => match us, hl with | [_], _ => rfl
    d_blocks_or_none_v2 := df_hd X G (c.def_ 22) (c.fact 24) rfl fun _ _ _ _ _ _ us hl => match us, hl with | [_], _ => rfl
    d_blocks_in_v5 := df_hd X G (c.def_ 23) (c.fact 25) rfl fun _ _ _ _ _ _ us hl => match us, hl with | [_], _ => rfl
    d_blocks_in_v5_kw_text := dfk_hd X G (c.def_ 23) (c.fact 25) fun _ _ _ _ _ _ ws hl => match ws, hl with | [_], _ => rfl
    d_law_lists := df_hd X G (c.def_ 24) (c.fact 26) rfl fun _ _ _ _ _ _ us hl => match us, hl with | [_], _ => rfl
    d_law_right_v96 := df_hd X G (c.def_ 25) (c.fact 27) rfl fun _ _ _ _ _ _ us hl => match us, hl with | [_], _ => rfl
    d_law_v97 := df_hd X G (c.def_ 26) (c.fact 28) rfl fun _ _ _ _ _ _ us hl => match us, hl with | [_], _ => rfl
    z_abs := free_hd X G (c.fact 29)
    z_all := free_hd X G (c.fact 30)
    z_any := free_hd X G (c.fact 31)
    z_bool := free_hd X G (c.fact 32)
    z_enumerate := free_hd X G (c.fact 33)
    z_int := free_hd X G (c.fact 34)
    z_isinstance := free_hd X G (c.fact 35)
    z_len := free_hd X G (c.fact 36)
    z_list := free_hd X G (c.fact 37)
    z_range := free_hd X G (c.fact 38)
    z_str := free_hd X G (c.fact 39)
    z_tuple := free_hd X G (c.fact 40)
    z_zip := free_hd X G (c.fact 41)
    c_BLANK := He.str_ok X G (c.fact 42)
    c_DIGITS := He.str_ok X G (c.fact 43)
    c_EMPTY := He.str_ok X G (c.fact 44)
    c_MOST_DIGITS := He.int_ok X G (c.fact 45)
    c_PAIR := He.int_ok X G (c.fact 46)
    c_TIMES := He.str_ok X G (c.fact 47)
  }
theorem gend {P : Program} {w : World} {K : PySem.W.Frag} {h : Heap} {mg : Str → Option Value} {fa : Addr} (X : K.In h) (G : h.Ns mainGlobals mg) (c : SaysX faX fnX tbX w K) (hfa : mg "law" = some (.ref fa))
    : ∃ fd : FuncData, Binds K fd ["_law_script"] [] ∧ ∀ base : Heap, K.In base → base.Ns mainGlobals mg → FnG P w K mg base 64 fa fd ["_law_script"] (spLaw 63) := by
  have T := all_mkX X G c
  obtain ⟨f, fd, h1, h2, h3, h4⟩ := T.d_law_v97.ex
  have e := hfa.symm.trans h1
  cases e
  exact ⟨fd, h3, fun base _ _ => law_fn (g_law_v97 (XR := fun _ _ _ _ _ => False) T _ fd h4) pure_law⟩
abbrev lsX_0 : List Str := ["BadText",
  "is_integer",
  "is_row",
  "JOIN",
  "SPLIT",
  "BLANK",
  "TIMES",
  "EMPTY",
  "LETTERS",
  "WORDS",
  "DIGITS",
  "MOST_DIGITS",
  "PAIR",
  "joined_text",
  "row_text",
  "steps_text",
  "blocks_text",
  "number_in",
  "words_of",
  "numbers_in",
  "row_or_none",
  "step_in",
  "steps_or_none",
  "block_in",
  "blocks_or_none",
  "checked",
  "row_in",
  "steps_in",
  "blocks_in",
  "_law_stream"]
abbrev lsX_1 : List Str := ["_law_draw",
  "_law_folded",
  "_law_pick",
  "_law_same",
  "_law_lists",
  "_law_joined",
  "_law_right"]
abbrev lsX : List Str := lsX_0 ++ (lsX_1)
abbrev RX : PySem.W.OpenRow := PySem.W.OpenLaw.row PySem.Challenge.rw_twinheaps_k64_texts_and_back
abbrev hkX : PySem.W.Hook := hookX 5 faX fnX tbX
def obY (s : PySem.W.SharedT) : AlX := obG 5 faX fnX tbX (HandSHeadRun.getT s)
theorem ob_eqX (s : PySem.W.SharedT) : obY s = hkX.obs s.abs := obG_eq (HandSHeadRun.getT_eq s)
theorem runAf (w : World) : HandSHeadRun.RunEq RX (PySem.W.view RX.prog [41]) PySem.W.Hook.none (fun _ => ()) 40000 lsX (w.withFollow "special-get-raises" false) := by
  intro os; kernel_rfl
theorem runBf (w : World) (os : OsState) : (HandSHeadRun.endF (HandSHeadRun.stepQ (HandSHeadRun.denQ HandSHeadRun.tabQ) RX.prog (w.withFollow "special-get-raises" false)) 40000 RX.prog (w.withFollow "special-get-raises" false) os).map obY = some (hkX.val (w.withFollow "special-get-raises" false)) := by
  kernel_rfl
theorem runAt (w : World) : HandSHeadRun.RunEq RX (PySem.W.view RX.prog [41]) PySem.W.Hook.none (fun _ => ()) 40000 lsX (w.withFollow "special-get-raises" true) := by
  intro os; kernel_rfl
theorem runBt (w : World) (os : OsState) : (HandSHeadRun.endF (HandSHeadRun.stepQ (HandSHeadRun.denQ HandSHeadRun.tabQ) RX.prog (w.withFollow "special-get-raises" true)) 40000 RX.prog (w.withFollow "special-get-raises" true) os).map obY = some (hkX.val (w.withFollow "special-get-raises" true)) := by
  kernel_rfl
theorem runX (w : World) : HandSHeadRun.RunEq RX (PySem.W.view RX.prog [41]) hkX obY 40000 lsX w := PySem.W.byRow2 "special-get-raises" (P := fun w => HandSHeadRun.RunEq RX (PySem.W.view RX.prog [41]) hkX obY 40000 lsX w) (fun w => run_two (runAf w) (runBf w)) (fun w => run_two (runAt w) (runBt w)) w
end G
open PySem PySem.W PyProof.Rows in
set_option maxRecDepth 100000 in
set_option maxHeartbeats 0 in
theorem PySem.Challenge.cw_twinheaps_k64_texts_and_back_holds : PySem.Challenge.rw_twinheaps_k64_texts_and_back.Holds := by
  w_on; o_law
  refine HandSHeadRun.head_any (r := PySem.W.OpenLaw.row PySem.Challenge.rw_twinheaps_k64_texts_and_back) (q := PySem.W.view (PySem.W.OpenLaw.row PySem.Challenge.rw_twinheaps_k64_texts_and_back).prog [41]) (H := G.hkX) (ob := G.obY) (M := 40000) (loose := G.lsX) (d := HandSHeadRun.topDef (PySem.W.OpenLaw.row PySem.Challenge.rw_twinheaps_k64_texts_and_back).prog 41) (kwd := []) G.ob_eqX
    (by kernel_rfl) (fun s => by kernel_rfl) G.runX (by kernel_rfl) (by kernel_rfl) (by kernel_rfl) (by rfl) (by first | assumption | decide +kernel) (by decide +kernel) ⟨rfl, rfl, rfl, rfl, rfl, by decide +kernel⟩ ?hw ?hc
  case hw => w_witness2
  case hc =>
    refine VI.law_endX (l := PySem.Challenge.rw_twinheaps_k64_texts_and_back) (n := 63) (k := 64) (x := "_law_script") (Sy := VI.SaysX G.faX G.fnX G.tbX) rfl (by decide) (by kernel_rfl) ⟨rfl, by decide, by decide⟩ (fun w h Y => Y) ?F
    intro w mg fa h K KX c GG hmg0
    have hmg : mg ("law" : PySem.Str) = some (.ref fa) := by
      have e : (HandSHeadRun.topDef (PySem.W.OpenLaw.row PySem.Challenge.rw_twinheaps_k64_texts_and_back).prog 41).name = ("law" : PySem.Str) := by kernel_rfl
      rw [← e]
      exact hmg0
    exact G.gend KX GG c hmg
