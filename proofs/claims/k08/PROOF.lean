import PyProof.Rows.All
import Wide.All
import OpenK.AllK
import Wide.FinOn
import HandS.ForMost
import HandS.ForExc
import HandS.Style
import PySem.PyData
import PyProof.ReprReads
import HandS.ExcField
import HandS.ExcIs
import HandS.Deep
import HandS.IsInst
import HandS.Flow
import HandS.TupLe
import HandS.TupAny
import HandS.Small
import HandS.Finally
import KE.SortData
import PyProof.ReprRoads
import HandS.More
import HandS.ExcInit
import KE.KExcIs
import KE.DataFind
import KE.DataMinMax
import HandS.Conv
import HandS.ExcValue
import PyProof.ReprLen
import PySem.Challenge.RW_overpasses_k08_errors_are_apart
/-! UG -/
section
set_option Elab.async false
set_option linter.all false
set_option maxRecDepth 100000
/-! UG: promises of defs that are called while nothing is being shown (no guards): repr needs that. -/
namespace U
open PySem L2 PySem.Spec PyProof.Rows
/-- a def's promise, where no guards stand -/
structure FnG (P : Program) (w : World) (K : PySem.W.Frag) (mg : Str → Option Value) (base : Heap) (CX : CXT) (k : Nat) (f : Addr) (fd : FuncData) (ps : List Str) (sp : Sp) : Prop where
  len : ∀ {vs H Q E}, sp vs H Q E → vs.length = ps.length
  run : ∀ {A : Around} {outer : List Env} {s : Shared} {H : Hp} {args : Args} {us : List Value} {vs : List V} {Q : VK} {E : XK}, A.guards = some [] → Room k A → Env0 P w K mg base A outer s H →
    BindsTo s fd args (ps.zip us) → Vals vs us → sp vs H Q E → codeAny (model P w) A (.call (.ref f) args) (CR CX outer P w H s Q E) s
section
variable {P : Program} {w : World} {K : PySem.W.Frag} {mg : Str → Option Value} {base : Heap} {CX : CXT} {f : Addr} {fd : FuncData} {ps N : List Str} {sp sp' : Sp}
theorem FnG.weak {j k : Nat} (F : FnG P w K mg base CX j f fd ps sp) (h : j ≤ k) : FnG P w K mg base CX k f fd ps sp :=
  ⟨F.len, fun g r => F.run g (r.mono h)⟩
theorem FnG.less {k : Nat} (F : FnG P w K mg base CX k f fd ps sp) (h : ∀ vs H Q E, sp' vs H Q E → sp vs H Q E) : FnG P w K mg base CX k f fd ps sp' :=
  ⟨fun q => F.len (h _ _ _ _ q), fun g r e b v q => F.run g r e b v (h _ _ _ _ q)⟩
/-- by the body -/
theorem FnG.mk' {x qual : Str} {st : Stmt} {k : Nat} (F : Fun K x qual st f fd) (S : FnScope N ps (defScope st)) (hl : ∀ {vs H Q E}, sp vs H Q E → vs.length = ps.length)
    (hb : ∀ (cdv : Value) (A : Around) (outer : List Env) (s : Shared) (H : Hp) (vs : List V) (Q : VK) (E : XK), A.guards = some [] → Room k (A.deeper (envOfC qual (defScope st) s.heap.objs.size f cdv)) → sp vs H Q E →
      ∃ t, PSs (cxOf CX P w K mg base N qual (defScope st) f cdv A outer s H E) (defBody st) t ∧ t { nx := fun _ H' => Q .non H', rt := Q } (L2.start N vs) H) :
    FnG P w K mg base CX (k + 1) f fd ps sp := by
  obtain ⟨oc, od, kV, doc, pm, an, cdv, ct, osl, hfd, at_f, rec_f⟩ := F.ex
  rw [hfd] at at_f ⊢
  constructor
  · exact hl
  · intro A outer s H args us vs Q E gd room env0 binds vals q
    have n := hl q
    have old : ∀ b o, base.get? b = some o → s.heap.get? b = some o := fun b o e => (env0.bs b o e).1
    have inK : K.In s.heap := env0.mod.kin.keeps old
    have kinds : ∀ y ∈ ps.zip us, (defScope st).names.lookup y.1 = some .local ∨ ((defScope st).names.lookup y.1 = some .cell ∧ ((cellsFrom (s.heap.objs.size + 1) (defScope st).names []).lookup y.1).isSome = true) := by
      rintro ⟨y, u⟩ hy
      exact (S.par y (List.of_mem_zip hy).1).imp id fun c => ⟨c, PySem.W.cellsFrom_some _ _ _ (.inl c)⟩
    refine codeAny_call_function room.depth (inK _ _ at_f) rfl S.co S.gen rfl (PySem.W.codeRec_of inK rec_f) (binds _ _ _ _ (wpAny_newFunctionEnv_cells S.kind kinds ?_))
    rintro env rfl s1 inC
    refine ⟨(env0.mod.nolimit.keeps old).keeps inC.toInCall.keep, codeAny_func ?_⟩
    obtain ⟨t, body, h⟩ := hb cdv A outer s H vs Q E gd (room.deeper _) q
    refine wpAny_mono (body.run [] s1 _ H _ (inv_start S room.hd env0 n vals inC) h) ?_ fun _ _ e => e
    rintro fl s' ends
    cases fl with
    | next =>
      obtain ⟨σ', H', J, q'⟩ := ends
      exact ⟨V.non, H', J.os, J.bare, J.base, J.hok, rfl, q'⟩
    | ret u =>
      obtain ⟨v, σ', H', J, rel, q'⟩ := ends
      exact ⟨v, H', J.os, J.bare, J.base, J.hok, rel, q'⟩
    | brk => exact (ends.choose_spec.choose_spec).2.elim
    | cont => exact (ends.choose_spec.choose_spec).2.elim
end
section
variable {X : Cx} {k : Nat} {f : Addr} {fd : FuncData} {ps : List Str} {sp : Sp} {E : L2.St → XK} {x : Str} {p pos : Pos} {e : Expr} {es : List Expr} {ta : TA}
/-- a call of it, by its name -/
theorem pe_callG {W : WX} (F : FnG X.prog X.w X.K X.mg X.base (L2.CX X.prog X.w) k f fd ps sp) (gd : X.A.guards = some []) (room : Room k X.A) (glob : Gl X x) (hm : X.mg x = some (.ref f)) (keep : PySem.W.keepIn X.K (.ref f) = true) (hb : Binds X.K fd ps []) (tk : Takes X W)
    (ha : PA X (e :: es) ta) (hd : (x == ("__debug__" : Str)) = false) (plain : starEach (e :: es) X.env = (false, eval e X.env) :: starEach es X.env) (rest : (backTo pos (starEach es X.env)).any (·.1) = false) :
    PE X (.Call (.Name x p) (e :: es) [] pos) (tCallS sp (WE W) ta) := by
  constructor
  intro pins s σ H Q I h
  refine wpAny_Call_Name_kw (ld_glob I glob hm ?_ hd)
  refine PySem.W.callWith_K (h₀ := X.base) I.ok.mod.kin keep (wpAny_mono (ha.run pos pins s σ H _ I h) ?_ fun _ _ z => z) plain rest
  rintro us s1 ⟨vs, H1, I1, vals, q⟩
  refine ⟨I1.kIn, ?_⟩
  have lens : us.length = ps.length := vals.length ▸ F.len q
  have b := hb s1 us I1.kIn (by rw [List.append_nil]; exact lens)
  rw [List.append_nil] at b
  refine wpAny_call (codeAny_mono (F.run gd room I1.env0 b vals q) ?_)
  rintro (e | fl) s' hq
  · exact passAt tk σ pins H1 s1 e s' I1 hq
  · cases fl with
    | ret u => exact I1.after hq
    | next => exact hq.elim
    | brk => exact hq.elim
    | cont => exact hq.elim
end
/-! ### the law's own call -/
section
variable {P : Program} {w : World} {K : PySem.W.Frag} {mg mb : Str → Option Value} {a : Addr} {s : Shared} {vs : List Value} {ns : List Int}
/-- the heap as it is known at first: the script alone, where it is not one of the module's own -/
theorem script_heap (inK : K.In s.heap) (ob : s.heap.get? a = some { cls := .type "list", data := .seq vs.toArray }) (whole : IntsAre vs ns) (few : ns.length ≤ sizeLine) :
    ∃ H : Hp, Only H ∧ SqL K H a (ns.map V.int) ∧ HOk P w H s.heap ∧ (∀ b, H b ≠ none → b = a) ∧ (H a ≠ none → K.lookup a = none) := by
  have rel := vals_ints whole
  cases known : K.lookup a with
  | some o =>
    have same := inK a o known
    rw [ob] at same
    injection same with same
    subst same
    refine ⟨fun _ => none, fun _ => Or.inl rfl, Or.inr ⟨_, vs.toArray, _, known, rfl, rfl, rfl, ?_, ?_⟩, ?_, ?_, ?_⟩
    · rw [List.size_toArray, whole.length]; exact few
    · rw [List.toList_toArray]; exact rel
    · intro b u e; cases e
    · intro b e; exact (e rfl).elim
    · intro e; exact (e rfl).elim
  | none =>
    let u : HO := .frz { cls := .type "list", data := .seq vs.toArray } (.lst (ns.map V.int))
    have yes : (fun b => if b = a then some u else none : Hp) a = some u := by simp
    have no : ∀ b, b ≠ a → (fun b => if b = a then some u else none : Hp) b = none := fun b h => by simp [h]
    refine ⟨fun b => if b = a then some u else none, fun b => ?_, Or.inl (Or.inr ⟨_, yes⟩), fun b v e => ?_, fun b e => ?_, fun _ => rfl⟩
    · rcases Decidable.em (b = a) with rfl | h
      · exact Or.inr ⟨_, _, yes⟩
      · exact Or.inl (no b h)
    · rcases Decidable.em (b = a) with rfl | h
      · rw [yes] at e
        cases e
        exact ⟨ob, by rw [List.length_map]; exact few, vs, _, rel, ob⟩
      · rw [no b h] at e; cases e
    · rcases Decidable.em (b = a) with h | h
      · exact h
      · exact (e (no b h)).elim
theorem law_callG {k : Nat} {fa : Addr} {fd : FuncData} {x : Str} {sp : Sp} (inK : K.In s.heap) (g : s.heap.Ns mainGlobals mg) (b : s.heap.Ns builtinsNs mb) (boot : ∀ x : Str, x ≠ "__name__" → mb x = bootBuiltins x) (lim : s.heap.NoLimit) (gens : s.gens = #[])
    (ob : s.heap.get? a = some { cls := .type "list", data := .seq vs.toArray }) (whole : IntsAre vs ns) (few : ns.length ≤ sizeLine) (room : Room k callerA)
    (F : ∀ base : Heap, K.In base → base.Ns mainGlobals mg → FnG P w K mg base (L2.CX P w) k fa fd [x] sp) (binds : ∀ (s : Shared) (u : Value), BindsTo s fd ⟨[u], []⟩ [(x, u)])
    (promise : ∀ H : Hp, Only H → SqL K H a (ns.map V.int) → sp [.ref a] H (fun v _ => v = .bl true) fun _ _ _ => False)
    (nothing : ∀ H e s', L2.CX P w [] H s (fun _ _ _ => False) e s' → False) :
    codeAny (model P w) callerA (.call (.ref fa) ⟨[.ref a], []⟩) (fun r s' => r = .ok (.ret (.bool true)) ∧ OldK s.heap s'.heap ∧ s'.os = s.os ∧ AllBare s'.gens) s := by
  obtain ⟨H, only, row_, hok, one, apart⟩ := script_heap (P := P) (w := w) inK ob whole few
  -- what is seen of the heap but the script
  have see : ∀ {c : Addr} {o : Obj}, s.heap.get? c = some o → H c = none → (hidT s.heap H).get? c = some o := fun e n => hidT_get e n
  have free : ∀ {c : Addr} {o : Obj}, s.heap.get? c = some o → (∀ its n, o.data ≠ .seq its n) → H c = none := by
    intro c o e nd
    cases q : H c with
    | none => rfl
    | some u =>
      have := one c (by rw [q]; exact fun z => by cases z)
      subst this
      rw [ob] at e
      cases e
      exact (nd _ _ rfl).elim
  have space : ∀ {c : Addr} {m : Str → Option Value}, s.heap.Ns c m → (hidT s.heap H).Ns c m := by
    rintro c m ⟨o, es, ep, e, d, r⟩
    exact ⟨o, es, ep, see e (free e fun its n z => by rw [d] at z; cases z), d, r⟩
  have kin : K.In (hidT s.heap H) := fun c o e => see (inK c o e) (by
    cases q : H c with
    | none => rfl
    | some u =>
      have ne : H c ≠ none := by rw [q]; exact fun z => by cases z
      have := one c ne
      subst this
      rw [apart ne] at e; cases e)
  have env0 : Env0 P w K mg (hidT s.heap H) callerA [] s H :=
    { frames := rfl
      mod := ⟨kin, space g, ⟨mb, space b, boot⟩, lim.imp fun mc h => ⟨space h.1, h.2⟩⟩
      bs := fun c o e => of_hidT e
      bsz := Nat.le_of_eq (hidT_size _ _)
      funs := trivial
      frf := by intro c hc; cases hc
      hok := hok
      bare := .of_eq gens }
  refine codeAny_mono ((F _ kin (space g)).run (us := [.ref a]) (vs := [.ref a]) rfl room env0 (binds s (.ref a)) (.cons rfl .nil) (promise H only row_)) ?_
  rintro (e | fl) s' out
  · exact (nothing H e s' out).elim
  · cases fl with
    | next => exact out.elim
    | brk => exact out.elim
    | cont => exact out.elim
    | ret u =>
      obtain ⟨v, H', os, bare, un, hok', rel, eq⟩ := out
      cases (show v = .bl true from eq)
      cases (show u = Value.bool true from rel)
      refine ⟨rfl, OldK.of_keep ?_, os, bare⟩
      intro c o e
      rcases only c with n | ⟨oc, xs, n⟩
      · exact un.keep c o e n (fun z => by cases z) (fun z => by cases z)
      · have before := (hok c _ n).1
        rw [e] at before
        cases before
        exact (hok' c _ (un.frzs c _ _ n)).1
end
/-- the row's goal, by the law's promise -/
theorem walk_ofG {l : PySem.W.OpenLaw} {n k : Nat} {q : Program} {loose : List Str} {XP : (Str → Option Value) → Heap → Prop} {YP : World → Heap → Prop} {d : DefRec} {K : Params → PySem.W.Frag} {sp : World → Sp} {x : Str}
    (most : l.most = some n) (few : n ≤ sizeLine) (dflt : d.params.defaults = []) (room : Room k callerA) (kin : ∀ (w : World) (h : Heap), YP w h → (K w.params).In h)
    (F : ∀ (w : World) (mg : Str → Option Value) (fa : Addr) (h : Heap), (K w.params).In h → h.Ns mainGlobals mg → mg d.name = some (.ref fa) →
      ∃ fd : FuncData, (∀ (s : Shared) (u : Value), BindsTo s fd ⟨[u], []⟩ [(x, u)]) ∧ ∀ base : Heap, (K w.params).In base → base.Ns mainGlobals mg → FnG l.prog w (K w.params) mg base (L2.CX l.prog w) k fa fd [x] (sp w))
    (promise : ∀ (w : World) (H : Hp) (a : Addr) (ns : List Int), ns.length ≤ n → Only H → SqL (K w.params) H a (ns.map V.int) → sp w [.ref a] H (fun v _ => v = .bl true) fun _ _ _ => False)
    (nothing : ∀ (w : World) (H : Hp) (s : Shared) (e : Value) (s' : Shared), L2.CX l.prog w [] H s (fun _ _ _ => False) e s' → False) :
    PySem.W.WalkO q loose XP YP l.row.toRowW d [] (fun f vs => PySem.call f vs) := by
  refine Att.attach_call most dflt ?_
  intro w s₀ s mg mb fa o pm cd doc a vs ns G Y ho hd hcd hmg hobj hints hlen hg
  obtain ⟨fd, binds, ok⟩ := F w mg fa _ (kin w _ Y) G.T.g hmg
  exact law_callG (kin w _ Y) G.T.g G.T.b G.T.builtins G.T.nolimit hg hobj hints (Nat.le_trans hlen few) room ok binds (fun H h1 h2 => promise w H a ns hlen h1 h2) fun H e s' => nothing w H s e s'
end U
end
/-! UD -/
section
set_option linter.all false
/-! UD: plain data and an evaluator's words over it; no program and no heap in sight. -/
namespace U
open PySem (PyData Str)

abbrev Ky := Sum Int Str
/-- data with what is one's own: z never changes any more; l, t, dk, dt: a list, a tuple, a dict that is held by one name alone; s: the script -/
inductive O where
  | z (d : PyData)
  | l (os : List O)
  | t (os : List O)
  | dk (kvs : List (Ky × O))
  | dt (kvs : List (List Ky × O))
  | s (ns : List Int)
  | x (c : Str) (d : PyData)

def kyD : Ky → PyData
  | .inl i => .int i
  | .inr s => .str s
mutual
def strip : O → PyData
  | .z d => d
  | .l os => .list (strips os)
  | .t os => .tuple (strips os)
  | .dk kvs => .dict (stripK kvs)
  | .dt kvs => .dict (stripT kvs)
  | .s ns => .list (ns.map .int)
  | .x _ _ => .dict []
def strips : List O → List PyData
  | [] => []
  | o :: os => strip o :: strips os
def stripK : List (Ky × O) → List (PyData × PyData)
  | [] => []
  | (k, o) :: r => (kyD k, strip o) :: stripK r
def stripT : List (List Ky × O) → List (PyData × PyData)
  | [] => []
  | (k, o) :: r => (.tuple (k.map kyD), strip o) :: stripT r
end
theorem strips_map : ∀ os, strips os = os.map strip
  | [] => rfl
  | o :: os => by rw [strips, strips_map os]; rfl
@[simp] theorem strip_z (d : PyData) : strip (.z d) = d := by rw [strip]
@[simp] theorem strip_l (os : List O) : strip (.l os) = .list (os.map strip) := by rw [strip, strips_map]
@[simp] theorem strip_t (os : List O) : strip (.t os) = .tuple (os.map strip) := by rw [strip, strips_map]

/-- not the script itself -/
def nS : O → Bool
  | .s _ => false
  | _ => true
mutual
/-- may be made data: no dict, no script within -/
def dz : O → Bool
  | .z _ => true
  | .l os => dzs os
  | .t os => dzs os
  | _ => false
def dzs : List O → Bool
  | [] => true
  | o :: os => dz o && dzs os
end
/-- what stands in a slot: one's own (or data), or lent (read alone), or the caller's own thing that is changed here -/
inductive Sl where
  | w (o : O)
  | r (o : O)
  | p (o : O)
abbrev Env := List (Option Sl)

inductive Res (α : Type) where
  | ok (a : α)
  | err (c : Str) (d : PyData)
  | bad
def Res.bind {α β : Type} : Res α → (α → Res β) → Res β
  | .ok a, f => f a
  | .err c d, _ => .err c d
  | .bad, _ => .bad
/-- where nothing may be raised -/
def Res.nox {α : Type} : Res α → Res α
  | .ok a => .ok a
  | _ => .bad
def Res.of {α : Type} : Option α → Res α
  | some a => .ok a
  | none => .bad
@[simp] theorem Res.bind_ok {α β : Type} (a : α) (f : α → Res β) : (Res.ok a).bind f = f a := (rfl)
@[simp] theorem Res.bind_err {α β : Type} (c : Str) (d : PyData) (f : α → Res β) : (Res.err c d : Res α).bind f = .err c d := (rfl)
@[simp] theorem Res.bind_bad {α β : Type} (f : α → Res β) : (Res.bad : Res α).bind f = .bad := (rfl)
@[simp] theorem Res.nox_ok {α : Type} (a : α) : (Res.ok a).nox = .ok a := (rfl)
@[simp] theorem Res.of_some {α : Type} (a : α) : Res.of (some a) = .ok a := (rfl)
@[simp] theorem Res.of_none {α : Type} : Res.of (none : Option α) = .bad := (rfl)
abbrev EV := Env → Res O
abbrev EB := Env → Res Bool
abbrev EA := Env → Res (List O)

/-- where a statement ends -/
inductive Out where
  | nx (ρ : Env)
  | bk (ρ : Env)
  | ct (ρ : Env)
  | rt (o : O)
  | err (c : Str) (d : PyData) (ρ : Env)
  | bad
abbrev ES := Env → Out

/-! ### names, constants -/
def eVar (i : Nat) : EV := fun ρ => match ρ[i]? with
  | some (some (.w o)) => .ok o
  | some (some (.r o)) => .ok o
  | some (some (.p o)) => .ok o
  | _ => .bad
def eC (d : PyData) : EV := fun _ => .ok (.z d)
/-- data alone -/
def gZ : O → Res O
  | .z d => .ok (.z d)
  | _ => .bad
def e1 (g : O → Res O) (f : EV) : EV := fun ρ => (f ρ).bind fun a => (g a).nox
def e2 (g : O → O → Res O) (f1 f2 : EV) : EV := fun ρ => (f1 ρ).bind fun a => (f2 ρ).bind fun b => (g a b).nox
def eZ (f : EV) : EV := e1 gZ f
/-- what is new is made data -/
def gFz (o : O) : Res O := if dz o then .ok (.z (strip o)) else .bad
def eFz (f : EV) : EV := e1 gFz f

/-! ### lists as they are seen -/
def lineMax : Nat := 16777216
/-- a list's parts -/
def seqO : O → Option (List O)
  | .z (.list ds) => some (ds.map .z)
  | .l os => some os
  | _ => none
def tupO : O → Option (List O)
  | .z (.tuple ds) => some (ds.map .z)
  | .t os => some os
  | _ => none
def allZ : List O → Option (List PyData)
  | [] => some []
  | .z d :: r => (allZ r).map (d :: ·)
  | _ :: _ => none
/-- a list of data -/
def lz (o : O) : Option (List PyData) := (seqO o).bind allZ
def tz (o : O) : Option (List PyData) := (tupO o).bind allZ
@[simp] theorem allZ_map : ∀ ds : List PyData, allZ (ds.map .z) = some ds
  | [] => rfl
  | d :: ds => by rw [List.map_cons, allZ, allZ_map ds]; rfl
/-- xs[i] -/
def at_ {α : Type} (xs : List α) (i : Int) : Option α :=
  if 0 ≤ i then xs[i.toNat]? else if 0 ≤ i + (xs.length : Int) then xs[(i + (xs.length : Int)).toNat]? else none
/-- a slice's bound -/
def bnd (n : Nat) : Int → Nat := fun i => if i < 0 then (i + (n : Int)).toNat else min i.toNat n
def cut {α : Type} (xs : List α) (lo hi : Option Int) : List α :=
  let a := (lo.map (bnd xs.length)).getD 0
  let b := (hi.map (bnd xs.length)).getD xs.length
  (xs.drop a).take (b - a)

/-! ### operators -/
def gI (g : Int → Int → Res PyData) : O → O → Res O := fun a b => match a, b with
  | .z (.int i), .z (.int j) => (g i j).bind fun d => .ok (.z d)
  | _, _ => .bad
def gAdd : O → O → Res O := fun a b => match a, b with
  | .z (.int i), .z (.int j) => .ok (.z (.int (i + j)))
  | a, b => match lz a, lz b with
    | some xs, some ys => if xs.length + ys.length ≤ lineMax then .ok (.l ((xs ++ ys).map .z)) else .bad
    | _, _ => .bad
def gSub : O → O → Res O := gI fun i j => .ok (.int (i - j))
def gMul : O → O → Res O := fun a b => match a, b with
  | .z (.int i), .z (.int j) => if (-(2 ^ 64) < i ∧ i < 2 ^ 64) ∨ (-(2 ^ 64) < j ∧ j < 2 ^ 64) then .ok (.z (.int (i * j))) else .bad
  | a, .z (.int k) => match lz a with
    | some xs => if -(2 ^ 63) ≤ k ∧ k < 2 ^ 63 ∧ xs.length * k.toNat ≤ lineMax then .ok (.l ((List.replicate k.toNat xs).flatten.map .z)) else .bad
    | none => .bad
  | _, _ => .bad
def gMod : O → O → Res O := gI fun i j => if j ≠ 0 then .ok (.int (i.fmod j)) else .bad
def gDiv : O → O → Res O := gI fun i j => if j ≠ 0 ∧ j.natAbs < 1073741824 then .ok (.int (i.fdiv j)) else .bad
def gPow : O → O → Res O := gI fun i j => if 0 ≤ j ∧ j ≤ 1000000 ∧ i.natAbs < 2 ^ 64 then .ok (.int (i ^ j.toNat)) else .bad
def gNeg : O → Res O
  | .z (.int i) => .ok (.z (.int (-i)))
  | _ => .bad

/-! ### comparisons -/
mutual
def eqD : PyData → PyData → Bool
  | .none, .none => true
  | .bool a, .bool b => a == b
  | .bool a, .int j => (if a then 1 else 0) == j
  | .int i, .bool b => i == (if b then 1 else 0)
  | .int i, .int j => i == j
  | .str x, .str y => x == y
  | .list xs, .list ys => eqDs xs ys
  | .tuple xs, .tuple ys => eqDs xs ys
  | _, _ => false
def eqDs : List PyData → List PyData → Bool
  | [], [] => true
  | x :: xs, y :: ys => eqD x y && eqDs xs ys
  | _, _ => false
end
/-- data that == may see: so deep at most, no dict, every text well made -/
def strFine (x : Str) : Bool := x.cps.all fun c => decide (c < 1114112)
mutual
def fine : Nat → PyData → Bool
  | _, .none => true
  | _, .bool _ => true
  | _, .int _ => true
  | _, .str x => strFine x
  | n + 1, .list xs => fines n xs
  | n + 1, .tuple xs => fines n xs
  | _, _ => false
def fines : Nat → List PyData → Bool
  | _, [] => true
  | n, x :: xs => fine n x && fines n xs
end
/-- texts as they are -/
def strO : O → Option Str
  | .z (.str x) => some x
  | _ => none
def gEqB (neg : Bool) : O → O → Res O := fun a b => match strO a, strO b with
  | some x, some y => .ok (.z (.bool ((x == y) != neg)))
  | _, _ => if fine 60 (strip a) = true ∧ fine 60 (strip b) = true then .ok (.z (.bool (eqD (strip a) (strip b) != neg))) else .bad
def gEq := gEqB false
def gNe := gEqB true
def isNone : O → Bool
  | .z .none => true
  | _ => false
def gIs : O → O → Res O := fun a b => match b with
  | .z .none => .ok (.z (.bool (isNone a)))
  | _ => .bad
def gIsnt : O → O → Res O := fun a b => match b with
  | .z .none => .ok (.z (.bool (!isNone a)))
  | _ => .bad
/-- none, a bool, a whole number, a text -/
def flat : PyData → Bool
  | .none => true
  | .bool _ => true
  | .int _ => true
  | .str _ => true
  | _ => false
def inD (d : PyData) (ds : List PyData) : Bool := ds.any fun e => eqD e d
def gMem (neg : Bool) : O → O → Res O := fun a b => match lz b with
  | some ds => if fine 60 (strip a) = true ∧ fine 60 (.list ds) = true then .ok (.z (.bool (inD (strip a) ds != neg))) else .bad
  | none => match tz b with
    | some ds => if flat (strip a) = true ∧ ds.all flat = true then .ok (.z (.bool (inD (strip a) ds != neg))) else .bad
    | none => .bad
def gIn := gMem false
def gNin := gMem true
/-- whole numbers in order; tuples of whole numbers, number by number -/
def ltI : List Int → List Int → Bool
  | [], [] => false
  | [], _ :: _ => true
  | _ :: _, [] => false
  | x :: xs, y :: ys => if x = y then ltI xs ys else decide (x < y)
def intsOf : List PyData → Option (List Int)
  | [] => some []
  | .int i :: r => (intsOf r).map (i :: ·)
  | _ :: _ => none
def tI (o : O) : Option (List Int) := (tz o).bind intsOf
def leI : List Int → List Int → Bool
  | [], _ => true
  | _ :: _, [] => false
  | x :: xs, y :: ys => if x = y then leI xs ys else decide (x ≤ y)
def gOrd (p : Int → Int → Bool) (q : List Int → List Int → Bool) : O → O → Res O := fun a b => match a, b with
  | .z (.int i), .z (.int j) => .ok (.z (.bool (p i j)))
  | a, b => match tI a, tI b with
    | some xs, some ys => .ok (.z (.bool (q xs ys)))
    | _, _ => .bad
def gLt := gOrd (fun i j => decide (i < j)) ltI
def gLe := gOrd (fun i j => decide (i ≤ j)) leI
def gGt : O → O → Res O := gI fun i j => .ok (.bool (decide (j < i)))
def gGe : O → O → Res O := gI fun i j => .ok (.bool (decide (j ≤ i)))
/-- a p b q c -/
def eCh (g g' : O → O → Res O) (f1 f2 f3 : EV) : EV := fun ρ => (f1 ρ).bind fun a => (f2 ρ).bind fun b => (g a b).nox.bind fun r => match r with
  | .z (.bool true) => (f3 ρ).bind fun c => (g' b c).nox
  | .z (.bool false) => .ok (.z (.bool false))
  | _ => .bad

/-! ### truth, tests -/
def truth : O → Res Bool
  | .z .none => .ok false
  | .z (.bool b) => .ok b
  | .z (.int i) => .ok (i != 0)
  | .z (.list ds) => .ok (!ds.isEmpty)
  | .z (.tuple ds) => .ok (!ds.isEmpty)
  | .l os => .ok (!os.isEmpty)
  | .t os => .ok (!os.isEmpty)
  | _ => .bad
/-- a bool alone -/
def bool1 : O → Res Bool
  | .z (.bool b) => .ok b
  | _ => .bad
def tB (f : EV) : EB := fun ρ => (f ρ).bind bool1
def tV (f : EV) : EB := fun ρ => (f ρ).bind truth
def tAnd (t u : EB) : EB := fun ρ => (t ρ).bind fun b => if b then u ρ else .ok false
def tOr (t u : EB) : EB := fun ρ => (t ρ).bind fun b => if b then .ok true else u ρ
def tNot (t : EB) : EB := fun ρ => (t ρ).bind fun b => .ok (!b)
/-- and, or, not as values -/
def eAnd (f g : EV) : EV := fun ρ => (f ρ).bind fun a => (truth a).bind fun b => if b then g ρ else .ok a
def eOr (f g : EV) : EV := fun ρ => (f ρ).bind fun a => (truth a).bind fun b => if b then .ok a else g ρ
def eNot (f : EV) : EV := fun ρ => (f ρ).bind fun a => (truth a).bind fun b => .ok (.z (.bool (!b)))
def eIf (t : EB) (f g : EV) : EV := fun ρ => (t ρ).bind fun b => if b then f ρ else g ρ

/-! ### subscripts, displays -/
def zOf : Option O → Res O
  | some (.z d) => .ok (.z d)
  | _ => .bad
def gIx : O → O → Res O := fun a b => match b with
  | .z (.int i) => match a with
    | .s ns => zOf ((at_ ns i).map fun n => .z (.int n))
    | a => match seqO a with
      | some os => zOf (at_ os i)
      | none => match tupO a with
        | some os => zOf (at_ os i)
        | none => .bad
  | _ => .bad
def aNil : EA := fun _ => .ok []
def aCons (f : EV) (g : EA) : EA := fun ρ => (f ρ).bind fun a => (g ρ).bind fun r => .ok (a :: r)
def eLst (g : EA) : EV := fun ρ => (g ρ).bind fun os => if os.length ≤ lineMax ∧ os.all nS = true then .ok (.l os) else .bad
def mkT (os : List O) : O := match allZ os with
  | some ds => .z (.tuple ds)
  | none => .t os
def eTup (g : EA) : EV := fun ρ => (g ρ).bind fun os => if os.length ≤ lineMax ∧ os.all nS = true then .ok (mkT os) else .bad
/-- a slice's part -/
def pNo : Env → Res (Option Int) := fun _ => .ok none
def pSo (f : EV) : Env → Res (Option Int) := fun ρ => (f ρ).bind fun o => match o with
  | .z (.int i) => .ok (some i)
  | _ => .bad
def gCut (a : O) (lo hi : Option Int) : Res O := match lz a with
  | some ds => .ok (.l ((cut ds lo hi).map .z))
  | none => match tz a with
    | some ds => .ok (.z (.tuple (cut ds lo hi)))
    | none => .bad
def eCut (f : EV) (lo hi : Env → Res (Option Int)) : EV := fun ρ => (f ρ).bind fun a => (lo ρ).bind fun i => (hi ρ).bind fun j => (gCut a i j).nox
/-- xs[::-1] -/
def gRev (a : O) : Res O := match lz a with
  | some ds => .ok (.l (ds.reverse.map .z))
  | none => .bad
def eRev (f : EV) : EV := e1 gRev f
/-- t[::-1] -/
def gRevT (a : O) : Res O := match tz a with
  | some ds => .ok (.z (.tuple ds.reverse))
  | none => .bad
def eRevT (f : EV) : EV := e1 gRevT f

/-! ### calls of what Python brings -/
def eK (g : List O → Res O) (f : EA) : EV := fun ρ => (f ρ).bind fun os => (g os).nox
def kLen : List O → Res O
  | [.s ns] => .ok (.z (.int ns.length))
  | [a] => match seqO a with
    | some os => .ok (.z (.int os.length))
    | none => match tupO a with
      | some os => .ok (.z (.int os.length))
      | none => .bad
  | _ => .bad
def kAbs : List O → Res O
  | [.z (.int i)] => .ok (.z (.int (if i < 0 then -i else i)))
  | _ => .bad
def kInt : List O → Res O
  | [.z (.int i)] => .ok (.z (.int i))
  | [.z (.bool b)] => .ok (.z (.int (if b then 1 else 0)))
  | _ => .bad
def kMin2 : List O → Res O
  | [.z (.int i), .z (.int j)] => .ok (.z (.int (if j < i then j else i)))
  | _ => .bad
def kMax2 : List O → Res O
  | [.z (.int i), .z (.int j)] => .ok (.z (.int (if j > i then j else i)))
  | _ => .bad
def kList : List O → Res O
  | [a] => match lz a with
    | some ds => .ok (.l (ds.map .z))
    | none => match tz a with
      | some ds => .ok (.l (ds.map .z))
      | none => .bad
  | _ => .bad
inductive Ty where
  | int | bool | list | tuple | str
def tyOf : PyData → Option Ty
  | .int _ => some .int
  | .bool _ => some .bool
  | .list _ => some .list
  | .tuple _ => some .tuple
  | .str _ => some .str
  | _ => none
def isTy : Ty → PyData → Bool
  | .int, .int _ => true
  | .int, .bool _ => true
  | .bool, .bool _ => true
  | .list, .list _ => true
  | .tuple, .tuple _ => true
  | .str, .str _ => true
  | _, _ => false
def gIsi (t : Ty) : O → Res O
  | .z d => .ok (.z (.bool (isTy t d)))
  | .l _ => .ok (.z (.bool (isTy t (.list []))))
  | .t _ => .ok (.z (.bool (isTy t (.tuple []))))
  | _ => .bad

def eIsi (t : Ty) (f : EV) : EV := e1 (gIsi t) f
/-! ### what is walked -/
abbrev EI := Env → Res (List O)
def iSeq (f : EV) : EI := fun ρ => (f ρ).bind fun a => match seqO a with
  | some os => .ok os
  | none => match tupO a with
    | some os => .ok os
    | none => .bad
/-- of data alone -/
def iSeqZ (f : EV) : EI := fun ρ => (f ρ).bind fun a => match a with
  | .z (.list ds) => .ok (ds.map .z)
  | .z (.tuple ds) => .ok (ds.map .z)
  | _ => .bad
def upTo (n : Nat) (lo : Int) : List O := (List.range n).map fun (i : Nat) => .z (.int (lo + (i : Int)))
def far (i : Int) : Bool := decide (-(2 ^ 62) ≤ i ∧ i < 2 ^ 62)
def iR1 (f : EV) : EI := fun ρ => (f ρ).bind fun a => match a with
  | .z (.int j) => if far j then .ok (upTo j.toNat 0) else .bad
  | _ => .bad
def iR2 (f g : EV) : EI := fun ρ => (f ρ).bind fun a => (g ρ).bind fun b => match a, b with
  | .z (.int i), .z (.int j) => if far i && far j then .ok (upTo (j - i).toNat i) else .bad
  | _, _ => .bad

/-! ### ways into one's own things -/
inductive Stp where
  | ix (i : Int)
  | k (k : Ky)
  | kt (k : List Ky)
/-- a dict's value at a key; put; taken out -/
def look {κ β : Type} [DecidableEq κ] : List (κ × β) → κ → Option β
  | [], _ => none
  | p :: r, k => if p.1 = k then some p.2 else look r k
def put {κ β : Type} [DecidableEq κ] : List (κ × β) → κ → β → List (κ × β)
  | [], k, b => [(k, b)]
  | p :: r, k, b => if p.1 = k then (p.1, b) :: r else p :: put r k b
def out {κ β : Type} [DecidableEq κ] (kvs : List (κ × β)) (k : κ) : List (κ × β) := kvs.filter fun p => decide (p.1 ≠ k)
/-- an index, whole -/
def ixO (n : Nat) (i : Int) : Option Nat :=
  if 0 ≤ i then (if i < (n : Int) then some i.toNat else none) else if 0 ≤ i + (n : Int) then some (i + (n : Int)).toNat else none
def getP : O → List Stp → Option O
  | o, [] => some o
  | .l os, .ix i :: p => (ixO os.length i).bind fun n => (os[n]?).bind fun o => getP o p
  | .dk kvs, .k k :: p => (look kvs k).bind fun o => getP o p
  | .dt kvs, .kt k :: p => (look kvs k).bind fun o => getP o p
  | _, _ => none
def setP : O → List Stp → O → O
  | _, [], q => q
  | .l os, .ix i :: p, q => match ixO os.length i with
    | some n => match os[n]? with
      | some o => .l (os.set n (setP o p q))
      | none => .l os
    | none => .l os
  | .dk kvs, .k k :: p, q => match look kvs k with
    | some o => .dk (put kvs k (setP o p q))
    | none => .dk kvs
  | .dt kvs, .kt k :: p, q => match look kvs k with
    | some o => .dt (put kvs k (setP o p q))
    | none => .dt kvs
  | o, _, _ => o
@[simp] theorem getP_nil (o : O) : getP o [] = some o := by cases o <;> rfl
@[simp] theorem setP_nil (o q : O) : setP o [] q = q := by cases o <;> rfl
/-- keys -/
def kyO : O → Option Ky
  | .z (.int i) => some (.inl i)
  | .z (.str x) => some (.inr x)
  | _ => none
def kysD : List PyData → Option (List Ky)
  | [] => some []
  | .int i :: r => (kysD r).map (.inl i :: ·)
  | .str x :: r => (kysD r).map (.inr x :: ·)
  | _ => none
def kytO (o : O) : Option (List Ky) := (tz o).bind kysD
/-- a slot's own thing -/
def ownAt (ρ : Env) (i : Nat) : Option O := match ρ[i]? with
  | some (some (.w o)) => some o
  | some (some (.p o)) => some o
  | _ => none
def setAtS (ρ : Env) (i : Nat) (o : O) : Env := match ρ[i]? with
  | some (some (.p _)) => ρ.set i (some (.p o))
  | _ => ρ.set i (some (.w o))

/-! ### targets -/
abbrev EG := O → Env → Option Env
def lent : O → Sl
  | .z d => .w (.z d)
  | o => .r o
/-- a name; in a comprehension what is not data is lent -/
def tN (i : Nat) : EG := fun o ρ => some (ρ.set i (some (.w o)))
def tNr (i : Nat) : EG := fun o ρ => some (ρ.set i (some (lent o)))
def tTs : List EG → List O → Env → Option Env
  | [], [], ρ => some ρ
  | g :: gs, o :: os, ρ => (g o ρ).bind fun ρ' => tTs gs os ρ'
  | _, _, _ => none
def tT (gs : List EG) : EG := fun o ρ => (tupO o).bind fun os => tTs gs os ρ

/-! ### comprehensions -/
def wipeE (ρ : Env) : List Nat → Env
  | [] => ρ
  | v :: vs => (wipeE ρ vs).set v none
def lend (ρ : Env) : Env := ρ.map fun s => match s with
  | some (.w o) => some (lent o)
  | some (.p o) => some (lent o)
  | s => s
/-- the turns of a comprehension: tg the target, ts the tests, el the element; from the items left and what is made -/
def lcGo (tg : EG) (ts : EB) (el : EV) (ρ : Env) : List O → List O → Res (List O)
  | [], acc => .ok acc
  | x :: xs, acc => match tg x ρ with
    | none => .bad
    | some ρ1 => (ts ρ1).nox.bind fun b => if b then (el ρ1).nox.bind fun o => if acc.length < lineMax ∧ nS o = true then lcGo tg ts el ρ xs (acc ++ [o]) else .bad else lcGo tg ts el ρ xs acc
def tYes : EB := fun _ => .ok true
def eLc (src : EI) (tg : EG) (ts : EB) (el : EV) (vs : List Nat) : EV := fun ρ => (src ρ).bind fun items => (lcGo tg ts el (lend (wipeE ρ vs)) items []).bind fun os => .ok (.l os)

/-! ### statements -/
def sPass : ES := fun ρ => .nx ρ
/-- then g -/
def Out.seq (r : Out) (g : ES) : Out := match r with
  | .nx ρ' => g ρ'
  | r => r
/-- a loop's turn is over: on with k -/
def Out.turn (r : Out) (k : ES) : Out := match r with
  | .nx ρ => k ρ
  | .ct ρ => k ρ
  | .bk ρ => .nx ρ
  | .rt o => .rt o
  | .err c d ρ => .err c d ρ
  | .bad => .bad
/-- a def's end -/
def Out.res (r : Out) : Res O := match r with
  | .rt o => .ok o
  | .nx _ => .ok (.z .none)
  | .err c d _ => .err c d
  | _ => .bad
def sSeq (f g : ES) : ES := fun ρ => (f ρ).seq g
def Res.out {α : Type} (r : Res α) (ρ : Env) (k : α → Out) : Out := match r with
  | .ok a => k a
  | .err c d => .err c d ρ
  | .bad => .bad
def sAsg (e : EV) (g : EG) : ES := fun ρ => (e ρ).out ρ fun o => match g o ρ with
  | some ρ' => .nx ρ'
  | none => .bad
/-- x op= e -/
def sAug (i : Nat) (g : Int → Int → Int) (e : EV) : ES := fun ρ => match ρ[i]? with
  | some (some (.w (.z (.int a)))) => (e ρ).out ρ fun b => match b with
    | .z (.int b) => .nx (ρ.set i (some (.w (.z (.int (g a b))))))
    | _ => .bad
  | _ => .bad
def sIf (t : EB) (f g : ES) : ES := fun ρ => (t ρ).out ρ fun b => if b then f ρ else g ρ
def sRet (e : EV) : ES := fun ρ => (e ρ).out ρ fun o => .rt o
/-- return x, x one's own -/
def sRetMv (i : Nat) : ES := fun ρ => match ρ[i]? with
  | some (some (.w o)) => .rt o
  | _ => .bad
def sRetN : ES := fun _ => .rt (.z .none)
def sBrk : ES := fun ρ => .bk ρ
def sCnt : ES := fun ρ => .ct ρ
def sDrop (e : EV) : ES := fun ρ => (e ρ).out ρ fun _ => .nx ρ
/-- a name's own thing becomes data (nothing runs) -/
def frz (i : Nat) (ρ : Env) : Env := match ρ[i]? with
  | some (some (.w o)) => if dz o then ρ.set i (some (.w (.z (strip o)))) else ρ
  | _ => ρ
def sFrz (i : Nat) (f : ES) : ES := fun ρ => f (frz i ρ)
/-- x.append(e) -/
def sApp (i : Nat) (e : EV) : ES := fun ρ => match ρ[i]? with
  | some (some (.w (.l os))) => (e ρ).out ρ fun o => if os.length < lineMax ∧ nS o = true then .nx (ρ.set i (some (.w (.l (os ++ [o]))))) else .bad
  | _ => .bad
/-- x[k] = e, x a list of one's own -/
def setAt (os : List O) (k : Int) (o : O) : Option (List O) :=
  if 0 ≤ k then (if k < os.length then some (os.set k.toNat o) else none) else if 0 ≤ k + (os.length : Int) then some (os.set (k + (os.length : Int)).toNat o) else none
def forGo (tg : EG) (body : ES) : List O → Env → Out
  | [], ρ => .nx ρ
  | x :: xs, ρ => match tg x ρ with
    | none => .bad
    | some ρ1 => (body ρ1).turn (forGo tg body xs)
/-- for: over data alone -/
def sFor (src : EI) (tg : EG) (body : ES) : ES := fun ρ => (src ρ).out ρ fun items => match allZ items with
  | some ds => forGo tg body (ds.map .z) ρ
  | none => .bad

/-! ### changes along ways -/
abbrev EP := Env → Res (List Stp)
def pN : EP := fun _ => .ok []
def pIx (p : EP) (e : EV) : EP := fun ρ => (p ρ).bind fun q => (e ρ).nox.bind fun o => match o with
  | .z (.int i) => .ok (q ++ [.ix i])
  | _ => .bad
def pK (p : EP) (e : EV) : EP := fun ρ => (p ρ).bind fun q => (e ρ).nox.bind fun o => match kyO o with
  | some k => .ok (q ++ [.k k])
  | none => .bad
/-- the cell at the end of the way changes by k -/
def chg (ρ : Env) (i : Nat) (q : List Stp) (k : O → Option O) : Out := match (ownAt ρ i).bind fun c => (getP c q).bind fun d => (k d).map fun d' => setAtS ρ i (setP c q d') with
  | some ρ' => .nx ρ'
  | none => .bad
def putL (j o : O) : O → Option O := fun d => match d, j with
  | .l os, .z (.int k) => if nS o = true then (ixO os.length k).map fun n => .l (os.set n o) else none
  | _, _ => none
def putD (j o : O) : O → Option O := fun d => match d with
  | .dk kvs => (kyO j).bind fun k => if kvs.length < lineMax ∧ nS o = true then some (.dk (put kvs k o)) else none
  | _ => none
def kysO : List O → Option (List Ky)
  | [] => some []
  | o :: r => (kyO o).bind fun k => (kysO r).map (k :: ·)
def putT (js : List O) (o : O) : O → Option O := fun d => match d with
  | .dt kvs => (kysO js).bind fun k => if kvs.length < lineMax ∧ js.length ≤ lineMax ∧ nS o = true then some (.dt (put kvs k o)) else none
  | _ => none
def addL (o : O) : O → Option O := fun d => match d with
  | .l os => if os.length < lineMax ∧ nS o = true then some (.l (os ++ [o])) else none
  | _ => none
def clrD : O → Option O := fun d => match d with
  | .dk _ => some (.dk [])
  | _ => none
def popD (j : O) : O → Option O := fun d => match d with
  | .dk kvs => (kyO j).bind fun k => if (look kvs k).isSome = true then some (.dk (out kvs k)) else none
  | _ => none
/-- x[k] = e: a list; a dict by whole numbers or texts; a dict by tuples -/
def sPutL (i : Nat) (p : EP) (e f : EV) : ES := fun ρ => (f ρ).out ρ fun o => (p ρ).nox.out ρ fun q => (e ρ).nox.out ρ fun j => chg ρ i q (putL j o)
def sPutD (i : Nat) (p : EP) (e f : EV) : ES := fun ρ => (f ρ).out ρ fun o => (p ρ).nox.out ρ fun q => (e ρ).nox.out ρ fun j => chg ρ i q (putD j o)
def sPutT (i : Nat) (p : EP) (e : EA) (f : EV) : ES := fun ρ => (f ρ).out ρ fun o => (p ρ).nox.out ρ fun q => (e ρ).nox.out ρ fun j => chg ρ i q (putT j o)
def okP (ρ : Env) (i : Nat) (q : List Stp) : Bool := match (ownAt ρ i).bind fun c => getP c q with
  | some (.l _) => true
  | _ => false
def sAddP (i : Nat) (p : EP) (f : EV) : ES := fun ρ => (p ρ).nox.out ρ fun q => if okP ρ i q then (f ρ).out ρ fun o => chg ρ i q (addL o) else .bad
def sClrD (i : Nat) (p : EP) : ES := fun ρ => (p ρ).nox.out ρ fun q => chg ρ i q clrD
def sPopD (i : Nat) (p : EP) (f : EV) : ES := fun ρ => (p ρ).nox.out ρ fun q => (f ρ).nox.out ρ fun o => chg ρ i q (popD o)

/-! ### dicts, read -/
def eNewK : EV := fun _ => .ok (.dk [])
def eNewT : EV := fun _ => .ok (.dt [])
/-- a value that is data, or another -/
def zOr (o : Option O) (x : O) : Res O := match o with
  | none => gZ x
  | some y => gZ y
/-- d.get((k, ..), x) -/
def eGet2T (fd : EV) (ks : EA) (fx : EV) : EV := fun ρ => (fd ρ).nox.bind fun d => match d with
  | .dt kvs => (ks ρ).nox.bind fun js => if js.length ≤ lineMax then (fx ρ).nox.bind fun x => match kysO js with
    | some k => zOr (look kvs k) x
    | none => .bad
    else .bad
  | _ => .bad
/-- d.get(k); d.get(k, x); d[k] -/
def eGet1K (fd fk : EV) : EV := fun ρ => (fd ρ).nox.bind fun d => match d with
  | .dk kvs => (fk ρ).nox.bind fun j => match kyO j with
    | some k => zOr (look kvs k) (.z .none)
    | none => .bad
  | _ => .bad
def eGet2K (fd fk fx : EV) : EV := fun ρ => (fd ρ).nox.bind fun d => match d with
  | .dk kvs => (fk ρ).nox.bind fun j => (fx ρ).nox.bind fun x => match kyO j with
    | some k => zOr (look kvs k) x
    | none => .bad
  | _ => .bad
def eDg (fd fk : EV) : EV := fun ρ => (fd ρ).nox.bind fun d => match d with
  | .dk kvs => (fk ρ).nox.bind fun j => match (kyO j).bind (look kvs) with
    | some y => gZ y
    | none => .bad
  | _ => .bad
def pairsD : List PyData → Option (List (Ky × PyData))
  | [] => some []
  | .tuple [k, v] :: r => (kyO (.z k)).bind fun j => (pairsD r).map ((j, v) :: ·)
  | _ :: _ => none
/-- dict(xs), xs a list of pairs -/
def kDict : List O → Res O
  | [a] => match (lz a).bind pairsD with
    | some ps => .ok (.dk (ps.foldl (fun kvs p => put kvs p.1 (.z p.2)) []))
    | none => .bad
  | _ => .bad
def boolsD : List PyData → Option (List Bool)
  | [] => some []
  | .bool b :: r => (boolsD r).map (b :: ·)
  | _ :: _ => none
def kAll : List O → Res O
  | [a] => match (lz a).bind boolsD with
    | some bs => .ok (.z (.bool (bs.all id)))
    | none => .bad
  | _ => .bad
def kAny : List O → Res O
  | [a] => match (lz a).bind boolsD with
    | some bs => .ok (.z (.bool (bs.any id)))
    | none => .bad
  | _ => .bad
/-! in order: whole numbers, bools, texts, lists and tuples of these, place by place -/
mutual
def ltD : PyData → PyData → Bool
  | .bool a, .bool b => !a && b
  | .int i, .int j => decide (i < j)
  | .str x, .str y => decide (x.cps.toList < y.cps.toList)
  | .list xs, .list ys => ltDs xs ys
  | .tuple xs, .tuple ys => ltDs xs ys
  | _, _ => false
def ltDs : List PyData → List PyData → Bool
  | [], [] => false
  | [], _ :: _ => true
  | _ :: _, [] => false
  | x :: xs, y :: ys => if eqD x y then ltDs xs ys else ltD x y
end
/-! of one build, place by place -/
mutual
def akin : PyData → PyData → Bool
  | .none, .none => true
  | .bool _, .bool _ => true
  | .int _, .int _ => true
  | .str _, .str _ => true
  | .list xs, .list ys => akins xs ys
  | .tuple xs, .tuple ys => akins xs ys
  | _, _ => false
def akins : List PyData → List PyData → Bool
  | x :: xs, y :: ys => akin x y && akins xs ys
  | _, _ => true
end
def heads : PyData → Bool
  | .tuple (_ :: _) => true
  | _ => false
def plains : PyData → Bool
  | .tuple _ => false
  | .none => false
  | _ => true
/-- fit to be put in order -/
def fit (ds : List PyData) : Prop := (∀ d ∈ ds, ∀ e ∈ ds, akin d e = true) ∧ ((∀ d ∈ ds, heads d = true) ∨ ∀ d ∈ ds, plains d = true) ∧ ∀ d ∈ ds, fine 60 d = true
open Classical in
/-- sorted(xs) -/
noncomputable def kSorted : List O → Res O
  | [a] => match lz a with
    | some ds => if fit ds ∧ ds.length ≤ lineMax then .ok (.l ((ds.mergeSort fun a b => !ltD b a).map .z)) else .bad
    | none => .bad
  | _ => .bad

/-- len(d), list(d) of a dict by whole numbers or texts -/
def kLenD : List O → Res O
  | [.dk kvs] => .ok (.z (.int kvs.length))
  | _ => .bad
def kListD : List O → Res O
  | [.dk kvs] => .ok (.l ((kvs.map fun p => kyD p.1).map .z))
  | _ => .bad

/-! ### repr -/
/-- a part that repr shows: data, or a dict of flat data -/
def flatO : O → Bool
  | .z d => flat d
  | _ => false
def boxed : PyData → Bool
  | .list _ => true
  | .tuple _ => true
  | _ => false
def shows : O → Bool
  | .z d => fine 59 d
  | .dt kvs => kvs.all fun p => flatO p.2
  | _ => false
def kRepr : List O → Res O
  | [.z d] => if fine 60 d = true ∧ d.showable = true ∧ d.shown.length ≤ lineMax ∧ boxed d = true then .ok (.z (.str d.shown)) else .bad
  | [.t os] => if os.all shows = true ∧ (strip (.t os)).showable = true ∧ (strip (.t os)).shown.length ≤ lineMax then .ok (.z (.str (strip (.t os)).shown)) else .bad
  | _ => .bad

/-! ### a def -/
def entry (n : Nat) (args : List O) : Env := args.map (fun o => some (lent o)) ++ List.replicate (n - args.length) none
/-- its value from its arguments; n: how many names it has -/
def run (n : Nat) (body : ES) (args : List O) : Res O := (body (entry n args)).res
/-- a call -/
def eCall (F : List O → Res O) (g : EA) : EV := fun ρ => (g ρ).bind F
end U
end
/-! UF -/
section
set_option linter.all false
/-! UF: more words: raise, try, while. -/
namespace U
open PySem (PyData Str)
/-- what is never reached -/
def sBad : ES := fun _ => .bad
/-- raise C(e) -/
def sRaise (c : Str) (f : EV) : ES := fun ρ => (f ρ).nox.out ρ fun o => match o with
  | .z d => .err c d ρ
  | _ => .bad
/-- try: fs; except D as e: return h; ks: the classes that are known, sub: those below D -/
def sTry (i : Nat) (ks : List Str) (sub : Str → Bool) (h : Str → PyData → O) (fs : ES) : ES := fun ρ => match fs ρ with
  | .err c d ρ' => if c ∈ ks ∧ i < ρ'.length then (if sub c then .rt (h c d) else .err c d ρ') else .bad
  | r => r
/-- a while, of n turns at most -/
def whGo (t : EB) (body : ES) : Nat → ES
  | 0 => fun _ => .bad
  | n + 1 => fun ρ => (t ρ).out ρ fun b => if b then (body ρ).turn (whGo t body n) else .nx ρ
def sWh (n : Nat) (t : EB) (body : ES) : ES := whGo t body n
/-- the classes' order here: all are below the one -/
def below (D c : Str) : Bool := c == D || D == ("OverpassesError" : Str)
/-! ### more changes of a cell at the end of a way -/
/-- x.m(): the cell changes by k -/
def sLm (i : Nat) (p : EP) (k : O → Option O) : ES := fun ρ => (p ρ).nox.out ρ fun q => chg ρ i q k
/-- x.m(e) -/
def sLe (i : Nat) (p : EP) (k : O → O → Option O) (f : EV) : ES := fun ρ => (p ρ).nox.out ρ fun q => if okP ρ i q then (f ρ).out ρ fun o => chg ρ i q (k o) else .bad
def revL : O → Option O
  | .l os => some (.l os.reverse)
  | _ => none
def clrL : O → Option O
  | .l _ => some (.l [])
  | _ => none
def popL : O → Option O
  | .l os => if 0 < os.length then some (.l os.dropLast) else none
  | _ => none
/-- extend, by data -/
def extL (o : O) : O → Option O
  | .l os => match lz o with
    | some ds => if os.length + ds.length ≤ lineMax then some (.l (os ++ ds.map .z)) else none
    | none => none
  | _ => none
def placeD (ds : List PyData) (d : PyData) : Option Nat := ds.findIdx? fun e => eqD e d
/-- remove, of data from data -/
def remL (o : O) : O → Option O
  | .l os => match o, allZ os with
    | .z d, some ds => if fine 60 d = true ∧ ds.all (fine 60) = true then (placeD ds d).map fun j => .l ((ds.eraseIdx j).map .z) else none
    | _, _ => none
  | _ => none
/-- min(xs), max(xs) of data in order -/
def minL : List PyData → Option PyData
  | [] => none
  | d :: ds => some (ds.foldl (fun a y => if ltD y a then y else a) d)
def maxL : List PyData → Option PyData
  | [] => none
  | d :: ds => some (ds.foldl (fun a y => if ltD a y then y else a) d)
open Classical in
noncomputable def kMin1 : List O → Res O
  | [a] => match lz a with
    | some ds => if fit ds then (match minL ds with
      | some d => .ok (.z d)
      | none => .bad) else .bad
    | none => .bad
  | _ => .bad
open Classical in
noncomputable def kMax1 : List O → Res O
  | [a] => match lz a with
    | some ds => if fit ds then (match maxL ds with
      | some d => .ok (.z d)
      | none => .bad) else .bad
    | none => .bad
  | _ => .bad
/-- tuple(xs) -/
def kTuple : List O → Res O
  | [a] => match lz a with
    | some ds => .ok (.z (.tuple ds))
    | none => match tz a with
      | some ds => .ok (.z (.tuple ds))
      | none => .bad
  | _ => .bad
/-! ### a def that changes its first argument, and gives nothing back -/
def entryP (n : Nat) (o : O) (ds : List PyData) : Env := some (.p o) :: (ds.map fun d => some (.w (.z d))) ++ List.replicate (n - (ds.length + 1)) none
def runP (n : Nat) (body : ES) : List O → Res O
  | o :: os => match allZ os with
    | some ds => match body (entryP n o ds) with
      | .nx (some (.p o') :: _) => .ok o'
      | _ => .bad
    | none => .bad
  | [] => .bad
/-- f(x, ..), x one's own -/
def sCallM (i : Nat) (F : List O → Res O) (g : EA) : ES := fun ρ => match ownAt ρ i with
  | some c => (g ρ).nox.out ρ fun os => match allZ os with
    | some ds => (F (c :: ds.map .z)).nox.out ρ fun o' => if nS o' = true then .nx (setAtS ρ i o') else .bad
    | none => .bad
  | none => .bad
/-- list(range(e)) -/
def eRl (f : EV) : EV := fun ρ => (f ρ).bind fun a => match a with
  | .z (.int j) => if far j = true ∧ j.toNat ≤ lineMax then .ok (.l (upTo j.toNat 0)) else .bad
  | _ => .bad
/-- a part, lent -/
def gIxB : O → O → Res O := fun a b => match b with
  | .z (.int i) => match seqO a with
    | some os => Res.of (at_ os i)
    | none => match tupO a with
      | some os => Res.of (at_ os i)
      | none => .bad
  | _ => .bad
def eIxB (f g : EV) : EV := fun ρ => (f ρ).bind fun a => (g ρ).bind fun b => (gIxB a b).nox
/-! ### errors as values -/
def eNewX (c : Str) (f : EV) : EV := fun ρ => (f ρ).nox.bind fun o => match o with
  | .z d => .ok (.x c d)
  | _ => .bad
def eAtX (f : EV) : EV := fun ρ => (f ρ).nox.bind fun o => match o with
  | .x _ d => .ok (.z d)
  | _ => .bad
def anyC : Str → Bool := fun _ => true
def eIsX (ks : List Str) (sub : Str → Bool) (f : EV) : EV := fun ρ => (f ρ).nox.bind fun o => match o with
  | .x c _ => if c ∈ ks then .ok (.z (.bool (sub c))) else .bad
  | _ => .bad
end U
end
/-! UW -/
section
set_option Elab.async false
set_option linter.all false
set_option maxRecDepth 100000
/-! UW: what UD's words are worth: rules of HandS under them. -/
namespace U
open PySem L2
abbrev Zs := Addr → Prop

mutual
/-- v is the data d, for good: its lists and dicts lie in Z -/
def RZ (H : Hp) (Z : Zs) (K : PySem.W.Frag) : PyData → V → Prop
  | .none, v => v = .non
  | .bool b, v => v = .bl b
  | .int i, v => v = .int i
  | .str s, v => v = .str s
  | .list ds, v => ∃ a vs, v = .ref a ∧ Z a ∧ H a = some (.lst vs) ∧ RZs H Z K ds vs
  | .tuple ds, v => ∃ a vs, v = .ref a ∧ SqT K H a vs ∧ RZs H Z K ds vs
  | .dict _, _ => False
def RZs (H : Hp) (Z : Zs) (K : PySem.W.Frag) : List PyData → List V → Prop
  | [], vs => vs = []
  | d :: ds, vs => ∃ v r, vs = v :: r ∧ RZ H Z K d v ∧ RZs H Z K ds r
end
/-- the script, as it may stand -/
def SqS (H : Hp) (K : PySem.W.Frag) (a : Addr) (vs : List V) : Prop := (∃ o, H a = some (.frz o (.lst vs))) ∨ SqL K (fun _ => none) a vs
/-- what is known of an error's class, from K alone -/
structure XC (K : PySem.W.Frag) (C : Addr) : Prop where
  xf : L2.XfC K C
  ec : L2.ExcC K C
  hno : PySem.W.findIn K (.ref C) "at" = some none
/-- an error as a value -/
def exv (a C dx : Addr) : HO := .ext fun h => ∃ (oe : Obj) (vs : Array Value), h.get? a = some oe ∧ L2.Zc (.ref C) (some dx) oe ∧ oe.data = .fields vs
mutual
/-- v is o; fp: the lists and dicts that are its own -/
def Own (H : Hp) (Z : Zs) (K : PySem.W.Frag) : O → V → List Addr → Prop
  | .z d, v, fp => fp = [] ∧ RZ H Z K d v
  | .l os, v, fp => ∃ a vs g, v = .ref a ∧ fp = a :: g ∧ H a = some (.lst vs) ∧ Owns H Z K os vs g
  | .t os, v, fp => ∃ a vs, v = .ref a ∧ SqT K H a vs ∧ Owns H Z K os vs fp
  | .dk kvs, v, fp => ∃ a vs g, v = .ref a ∧ fp = a :: g ∧ H a = some (.dK vs) ∧ (kvs.map (·.1)).Nodup ∧ OwnsK H Z K kvs vs g
  | .dt kvs, v, fp => ∃ a vs g, v = .ref a ∧ fp = a :: g ∧ H a = some (.dT vs) ∧ (kvs.map (·.1)).Nodup ∧ OwnsT H Z K kvs vs g
  | .s ns, v, fp => fp = [] ∧ ∃ a, v = .ref a ∧ SqS H K a (ns.map V.int)
  | .x c d, v, fp => fp = [] ∧ ∃ a C dx y, v = .ref a ∧ PySem.W.nsIn K mainGlobals c = some (some (.ref C)) ∧ XC K C ∧ Z a ∧ Z dx ∧ H a = some (exv a C dx) ∧ H dx = some (.xd [("at", y)]) ∧ RZ H Z K d y
def OwnsK (H : Hp) (Z : Zs) (K : PySem.W.Frag) : List (Ky × O) → List (Ky × V) → List Addr → Prop
  | [], vs, fp => vs = [] ∧ fp = []
  | (k, o) :: os, vs, fp => ∃ v r f g, vs = (k, v) :: r ∧ fp = f ++ g ∧ Own H Z K o v f ∧ OwnsK H Z K os r g ∧ nS o = true
def OwnsT (H : Hp) (Z : Zs) (K : PySem.W.Frag) : List (List Ky × O) → List (List Ky × V) → List Addr → Prop
  | [], vs, fp => vs = [] ∧ fp = []
  | (k, o) :: os, vs, fp => ∃ v r f g, vs = (k, v) :: r ∧ fp = f ++ g ∧ Own H Z K o v f ∧ OwnsT H Z K os r g ∧ nS o = true
def Owns (H : Hp) (Z : Zs) (K : PySem.W.Frag) : List O → List V → List Addr → Prop
  | [], vs, fp => vs = [] ∧ fp = []
  | o :: os, vs, fp => ∃ v r f g, vs = v :: r ∧ fp = f ++ g ∧ Own H Z K o v f ∧ Owns H Z K os r g ∧ nS o = true
end

/-- what stands for good still stands -/
structure Kp (H : Hp) (Z : Zs) (H' : Hp) (Z' : Zs) : Prop where
  zz : ∀ a, Z a → Z' a
  zk : ∀ a o, Z a → H a = some o → H' a = some o
  tup : ∀ a xs, Rd H a (.tup xs) → Rd H' a (.tup xs)
  frz : ∀ a o u, H a = some (.frz o u) → H' a = some (.frz o u)
/-- the heap has grown -/
structure Ext (H : Hp) (Z : Zs) (H' : Hp) (Z' : Zs) : Prop where
  keep : ∀ a o, H a = some o → H' a = some o
  zz : ∀ a, Z a → Z' a
  zn : ∀ a, Z' a → Z a ∨ H a = none
  zd : ∀ a, Z' a → H' a ≠ none
section
variable {H H' H1 H2 : Hp} {Z Z' Z1 Z2 : Zs} {K : PySem.W.Frag}
theorem Ext.kp (e : Ext H Z H' Z') : Kp H Z H' Z' := ⟨e.zz, fun a o _ h => e.keep a o h, fun a xs h => by
  rcases h with h | ⟨o, h⟩
  · exact .inl (e.keep _ _ h)
  · exact .inr ⟨o, e.keep _ _ h⟩, fun a o u h => e.keep _ _ h⟩
theorem Kp.refl : Kp H Z H Z := ⟨fun _ h => h, fun _ _ _ h => h, fun _ _ h => h, fun _ _ _ h => h⟩
theorem Kp.trans (a : Kp H Z H1 Z1) (b : Kp H1 Z1 H2 Z2) : Kp H Z H2 Z2 :=
  ⟨fun x h => b.zz x (a.zz x h), fun x o z h => b.zk x o (a.zz x z) (a.zk x o z h), fun x xs h => b.tup x xs (a.tup x xs h), fun x o u h => b.frz x o u (a.frz x o u h)⟩
theorem Ext.refl (hz : ∀ a, Z a → H a ≠ none) : Ext H Z H Z := ⟨fun _ _ h => h, fun _ h => h, fun _ h => .inl h, hz⟩
theorem Ext.trans (a : Ext H Z H1 Z1) (b : Ext H1 Z1 H2 Z2) : Ext H Z H2 Z2 :=
  ⟨fun x o h => b.keep x o (a.keep x o h), fun x h => b.zz x (a.zz x h), fun x h => (b.zn x h).elim (a.zn x) fun n => .inr (by
    cases q : H x with
    | none => rfl
    | some o => rw [a.keep x o q] at n; cases n), b.zd⟩
theorem Ext.back (a : Ext H Z H1 Z1) {x : Addr} (h : H1 x = none) : H x = none := by
  cases q : H x with
  | none => rfl
  | some o => rw [a.keep x o q] at h; cases h
theorem Ext.zd0 (e : Ext H Z H' Z') (hz : ∀ a, Z a → H a ≠ none) : True := trivial
/-- a new thing that is not data -/
theorem Ext.new {p : Addr} {o : HO} (hz : ∀ a, Z a → H a ≠ none) (h : H p = none) : Ext H Z (upd H p o) Z :=
  ⟨fun a u e => by rw [upd_ne (ne_of_none e h)]; exact e, fun _ h => h, fun _ h => .inl h, fun a z => by
    have := hz a z
    by_cases e : a = p
    · subst e; exact absurd h this
    · rw [upd_ne e]; exact this⟩
theorem SqT.kp {a : Addr} {xs : List V} (e : Kp H Z H' Z') (h : SqT K H a xs) : SqT K H' a xs := h.elim (fun h => .inl (e.tup _ _ h)) .inr
theorem SqL.ext {a : Addr} {xs : List V} (e : Ext H Z H' Z') (h : SqL K H a xs) : SqL K H' a xs := by
  rcases h with (h | ⟨o, h⟩) | h
  · exact .inl (.inl (e.keep _ _ h))
  · exact .inl (.inr ⟨o, e.keep _ _ h⟩)
  · exact .inr h
mutual
theorem RZ.kp (e : Kp H Z H' Z') : ∀ (d : PyData) (v : V), RZ H Z K d v → RZ H' Z' K d v
  | .none, v, h => h
  | .bool b, v, h => h
  | .int i, v, h => h
  | .str s, v, h => h
  | .list ds, v, h => by
    obtain ⟨a, vs, rfl, z, h1, h2⟩ := h
    exact ⟨a, vs, rfl, e.zz _ z, e.zk _ _ z h1, RZs.kp e ds vs h2⟩
  | .tuple ds, v, h => by
    obtain ⟨a, vs, rfl, h1, h2⟩ := h
    exact ⟨a, vs, rfl, SqT.kp e h1, RZs.kp e ds vs h2⟩
  | .dict _, _, h => h
theorem RZs.kp (e : Kp H Z H' Z') : ∀ (ds : List PyData) (vs : List V), RZs H Z K ds vs → RZs H' Z' K ds vs
  | [], vs, h => h
  | d :: ds, vs, h => by
    obtain ⟨v, r, rfl, h1, h2⟩ := h
    exact ⟨v, r, rfl, RZ.kp e d v h1, RZs.kp e ds r h2⟩
end
end
section
variable {H H' H1 H2 : Hp} {Z Z' Z1 Z2 : Zs} {K : PySem.W.Frag} {o : O} {v : V} {fp : List Addr}
theorem sqL_none {a : Addr} {vs : List V} (h : SqL K (fun _ => none) a vs) : SqL K H a vs := by
  rcases h with (h | ⟨o, h⟩) | h
  · cases h
  · cases h
  · exact .inr h
theorem SqS.sql {a : Addr} {vs : List V} (h : SqS H K a vs) : SqL K H a vs := by
  rcases h with ⟨o, h⟩ | h
  · exact .inl (.inr ⟨o, h⟩)
  · exact sqL_none h
theorem SqS.kp (e : Kp H Z H' Z') {a : Addr} {vs : List V} (h : SqS H K a vs) : SqS H' K a vs := by
  rcases h with ⟨o, h⟩ | h
  · exact .inl ⟨o, e.frz _ _ _ h⟩
  · exact .inr h
mutual
theorem Own.frame (e : Kp H Z H' Z') : ∀ (o : O) (v : V) (fp : List Addr), (∀ a ∈ fp, H' a = H a) → Own H Z K o v fp → Own H' Z' K o v fp
  | .z d, v, fp, _, h => ⟨h.1, RZ.kp e d v h.2⟩
  | .l os, v, fp, k, h => by
    obtain ⟨a, vs, g, rfl, rfl, h1, h2⟩ := h
    exact ⟨a, vs, g, rfl, rfl, (k a List.mem_cons_self).trans h1, Owns.frame e os vs g (fun b hb => k b (List.mem_cons_of_mem _ hb)) h2⟩
  | .t os, v, fp, k, h => by
    obtain ⟨a, vs, rfl, h1, h2⟩ := h
    exact ⟨a, vs, rfl, SqT.kp e h1, Owns.frame e os vs fp k h2⟩
  | .dk kvs, v, fp, k, h => by
    obtain ⟨a, vs, g, rfl, rfl, h1, nd, h2⟩ := h
    exact ⟨a, vs, g, rfl, rfl, (k a List.mem_cons_self).trans h1, nd, OwnsK.frame e kvs vs g (fun b hb => k b (List.mem_cons_of_mem _ hb)) h2⟩
  | .dt kvs, v, fp, k, h => by
    obtain ⟨a, vs, g, rfl, rfl, h1, nd, h2⟩ := h
    exact ⟨a, vs, g, rfl, rfl, (k a List.mem_cons_self).trans h1, nd, OwnsT.frame e kvs vs g (fun b hb => k b (List.mem_cons_of_mem _ hb)) h2⟩
  | .s ns, v, fp, _, h => by
    obtain ⟨e1, a, e2, h⟩ := h
    exact ⟨e1, a, e2, h.kp e⟩
  | .x c d, v, fp, _, h => by
    obtain ⟨e1, a, C, dx, y, rfl, hc, xc, za, zd, ha, hd, r⟩ := h
    exact ⟨e1, a, C, dx, y, rfl, hc, xc, e.zz a za, e.zz dx zd, e.zk _ _ za ha, e.zk _ _ zd hd, RZ.kp e d y r⟩
theorem OwnsK.frame (e : Kp H Z H' Z') : ∀ (os : List (Ky × O)) (vs : List (Ky × V)) (fp : List Addr), (∀ a ∈ fp, H' a = H a) → OwnsK H Z K os vs fp → OwnsK H' Z' K os vs fp
  | [], vs, fp, _, h => h
  | (q, o) :: os, vs, fp, k, h => by
    obtain ⟨v, r, f, g, rfl, rfl, h1, h2, h3⟩ := h
    exact ⟨v, r, f, g, rfl, rfl, Own.frame e o v f (fun b hb => k b (List.mem_append_left _ hb)) h1, OwnsK.frame e os r g (fun b hb => k b (List.mem_append_right _ hb)) h2, h3⟩
theorem OwnsT.frame (e : Kp H Z H' Z') : ∀ (os : List (List Ky × O)) (vs : List (List Ky × V)) (fp : List Addr), (∀ a ∈ fp, H' a = H a) → OwnsT H Z K os vs fp → OwnsT H' Z' K os vs fp
  | [], vs, fp, _, h => h
  | (q, o) :: os, vs, fp, k, h => by
    obtain ⟨v, r, f, g, rfl, rfl, h1, h2, h3⟩ := h
    exact ⟨v, r, f, g, rfl, rfl, Own.frame e o v f (fun b hb => k b (List.mem_append_left _ hb)) h1, OwnsT.frame e os r g (fun b hb => k b (List.mem_append_right _ hb)) h2, h3⟩
theorem Owns.frame (e : Kp H Z H' Z') : ∀ (os : List O) (vs : List V) (fp : List Addr), (∀ a ∈ fp, H' a = H a) → Owns H Z K os vs fp → Owns H' Z' K os vs fp
  | [], vs, fp, _, h => h
  | o :: os, vs, fp, k, h => by
    obtain ⟨v, r, f, g, rfl, rfl, h1, h2, h3⟩ := h
    exact ⟨v, r, f, g, rfl, rfl, Own.frame e o v f (fun b hb => k b (List.mem_append_left _ hb)) h1, Owns.frame e os r g (fun b hb => k b (List.mem_append_right _ hb)) h2, h3⟩
end
/-- a list or a dict, that may change -/
def MutO (u : Option HO) : Prop := (∃ vs, u = some (.lst vs)) ∨ (∃ vs, u = some (.dK vs)) ∨ ∃ vs, u = some (.dT vs)
theorem MutO.some {u : Option HO} (h : MutO u) : ∃ w, u = some w := by
  rcases h with ⟨vs, e⟩ | ⟨vs, e⟩ | ⟨vs, e⟩ <;> exact ⟨_, e⟩
theorem MutO.rd {a : Addr} {xs : List V} (h : MutO (H a)) (r : Rd H a (.tup xs)) : False := by
  rcases r with r | ⟨_, r⟩ <;> (rcases h with ⟨vs, e⟩ | ⟨vs, e⟩ | ⟨vs, e⟩ <;> (rw [e] at r; cases r))
theorem MutO.nofrz {a : Addr} {ob : Obj} {u : HO} (h : MutO (H a)) (r : H a = Option.some (HO.frz ob u)) : False := by
  rcases h with ⟨vs, e⟩ | ⟨vs, e⟩ | ⟨vs, e⟩ <;> (rw [e] at r; cases r)
mutual
/-- what is one's own is a list or a dict that stands -/
theorem Own.mut : ∀ (o : O) (v : V) (fp : List Addr), Own H Z K o v fp → ∀ a ∈ fp, MutO (H a)
  | .z d, v, fp, h, a, ha => by rw [h.1] at ha; cases ha
  | .l os, v, fp, h, a, ha => by
    obtain ⟨b, vs, g, rfl, rfl, h1, h2⟩ := h
    rcases List.mem_cons.mp ha with e | ha
    · exact .inl ⟨vs, e ▸ h1⟩
    · exact Owns.mut os vs g h2 a ha
  | .t os, v, fp, h, a, ha => by
    obtain ⟨b, vs, rfl, h1, h2⟩ := h
    exact Owns.mut os vs fp h2 a ha
  | .dk kvs, v, fp, h, a, ha => by
    obtain ⟨b, vs, g, rfl, rfl, h1, _, h2⟩ := h
    rcases List.mem_cons.mp ha with e | ha
    · exact .inr (.inl ⟨vs, e ▸ h1⟩)
    · exact OwnsK.mut kvs vs g h2 a ha
  | .dt kvs, v, fp, h, a, ha => by
    obtain ⟨b, vs, g, rfl, rfl, h1, _, h2⟩ := h
    rcases List.mem_cons.mp ha with e | ha
    · exact .inr (.inr ⟨vs, e ▸ h1⟩)
    · exact OwnsT.mut kvs vs g h2 a ha
  | .s ns, v, fp, h, a, ha => by rw [h.1] at ha; cases ha
  | .x _ _, v, fp, h, a, ha => by rw [h.1] at ha; cases ha
theorem OwnsK.mut : ∀ (os : List (Ky × O)) (vs : List (Ky × V)) (fp : List Addr), OwnsK H Z K os vs fp → ∀ a ∈ fp, MutO (H a)
  | [], vs, fp, h, a, ha => by rw [h.2] at ha; cases ha
  | (q, o) :: os, vs, fp, h, a, ha => by
    obtain ⟨v, r, f, g, rfl, rfl, h1, h2, h3⟩ := h
    rcases List.mem_append.mp ha with ha | ha
    · exact Own.mut o v f h1 a ha
    · exact OwnsK.mut os r g h2 a ha
theorem OwnsT.mut : ∀ (os : List (List Ky × O)) (vs : List (List Ky × V)) (fp : List Addr), OwnsT H Z K os vs fp → ∀ a ∈ fp, MutO (H a)
  | [], vs, fp, h, a, ha => by rw [h.2] at ha; cases ha
  | (q, o) :: os, vs, fp, h, a, ha => by
    obtain ⟨v, r, f, g, rfl, rfl, h1, h2, h3⟩ := h
    rcases List.mem_append.mp ha with ha | ha
    · exact Own.mut o v f h1 a ha
    · exact OwnsT.mut os r g h2 a ha
theorem Owns.mut : ∀ (os : List O) (vs : List V) (fp : List Addr), Owns H Z K os vs fp → ∀ a ∈ fp, MutO (H a)
  | [], vs, fp, h, a, ha => by rw [h.2] at ha; cases ha
  | o :: os, vs, fp, h, a, ha => by
    obtain ⟨v, r, f, g, rfl, rfl, h1, h2, h3⟩ := h
    rcases List.mem_append.mp ha with ha | ha
    · exact Own.mut o v f h1 a ha
    · exact Owns.mut os r g h2 a ha
end
theorem Own.dom (o : O) (v : V) (fp : List Addr) (h : Own H Z K o v fp) (a : Addr) (ha : a ∈ fp) : ∃ u, H a = some u := (Own.mut o v fp h a ha).some
theorem Owns.dom (o : List O) (v : List V) (fp : List Addr) (h : Owns H Z K o v fp) (a : Addr) (ha : a ∈ fp) : ∃ u, H a = some u := (Owns.mut o v fp h a ha).some
theorem Own.ne (h : Own H Z K o v fp) {a : Addr} (ha : a ∈ fp) : H a ≠ none := by
  obtain ⟨vs, e⟩ := Own.dom o v fp h a ha
  rw [e]; exact fun z => by cases z
theorem Owns.ne {os : List O} {vs : List V} (h : Owns H Z K os vs fp) {a : Addr} (ha : a ∈ fp) : H a ≠ none := by
  obtain ⟨vs, e⟩ := Owns.dom os vs fp h a ha
  rw [e]; exact fun z => by cases z
theorem Own.ext (e : Ext H Z H' Z') (h : Own H Z K o v fp) : Own H' Z' K o v fp := Own.frame e.kp o v fp (fun a ha => by
  obtain ⟨vs, q⟩ := Own.dom o v fp h a ha
  rw [q]; exact e.keep _ _ q) h
theorem Owns.ext (e : Ext H Z H' Z') {o : List O} {v : List V} (h : Owns H Z K o v fp) : Owns H' Z' K o v fp := Owns.frame e.kp o v fp (fun a ha => by
  obtain ⟨vs, q⟩ := Owns.dom o v fp h a ha
  rw [q]; exact e.keep _ _ q) h
theorem RZ.ext (e : Ext H Z H' Z') {d : PyData} {v : V} (h : RZ H Z K d v) : RZ H' Z' K d v := RZ.kp e.kp d v h
mutual
/-- what was one's own is data once its lists lie in Z -/
theorem Own.data (hz : ∀ a, Z a → Z' a) : ∀ (o : O) (v : V) (fp : List Addr), (∀ a ∈ fp, Z' a) → dz o = true → Own H Z K o v fp → RZ H Z' K (strip o) v
  | .z d, v, fp, _, _, h => by rw [strip]; exact RZ.kp ⟨hz, fun _ _ _ h => h, fun _ _ h => h, fun _ _ _ h => h⟩ d v h.2
  | .l os, v, fp, k, n, h => by
    obtain ⟨a, vs, g, rfl, rfl, h1, h2⟩ := h
    rw [strip]
    exact ⟨a, vs, rfl, k a List.mem_cons_self, h1, Owns.data hz os vs g (fun b hb => k b (List.mem_cons_of_mem _ hb)) (by rw [dz] at n; exact n) h2⟩
  | .t os, v, fp, k, n, h => by
    obtain ⟨a, vs, rfl, h1, h2⟩ := h
    rw [strip]
    exact ⟨a, vs, rfl, h1, Owns.data hz os vs fp k (by rw [dz] at n; exact n) h2⟩
  | .dk _, _, _, _, n, h => by simp [dz] at n
  | .dt _, _, _, _, n, h => by simp [dz] at n
  | .s ns, _, _, _, n, _ => by simp [dz] at n
theorem Owns.data (hz : ∀ a, Z a → Z' a) : ∀ (os : List O) (vs : List V) (fp : List Addr), (∀ a ∈ fp, Z' a) → dzs os = true → Owns H Z K os vs fp → RZs H Z' K (strips os) vs
  | [], vs, fp, _, _, h => h.1
  | o :: os, vs, fp, k, n, h => by
    rw [dzs, Bool.and_eq_true] at n
    obtain ⟨v, r, f, g, rfl, rfl, h1, h2, h3⟩ := h
    rw [strips]
    exact ⟨v, r, rfl, Own.data hz o v f (fun b hb => k b (List.mem_append_left _ hb)) n.1 h1, Owns.data hz os r g (fun b hb => k b (List.mem_append_right _ hb)) n.2 h2⟩
end
/-- data as own things -/
theorem RZs.owns : ∀ (ds : List PyData) (vs : List V), RZs H Z K ds vs → Owns H Z K (ds.map .z) vs []
  | [], vs, h => ⟨h, rfl⟩
  | d :: ds, vs, h => by
    obtain ⟨v, r, rfl, h1, h2⟩ := h
    exact ⟨v, r, [], [], rfl, rfl, ⟨rfl, h1⟩, RZs.owns ds r h2, rfl⟩
theorem Owns.length : ∀ {os : List O} {vs : List V} {fp : List Addr}, Owns H Z K os vs fp → vs.length = os.length
  | [], vs, fp, h => by rw [h.1]; rfl
  | o :: os, vs, fp, h => by
    obtain ⟨v, r, f, g, rfl, rfl, h1, h2, h3⟩ := h
    rw [List.length_cons, List.length_cons, Owns.length h2]
theorem Owns.get : ∀ {os : List O} {vs : List V} {fp : List Addr} {i : Nat} {o : O}, Owns H Z K os vs fp → os[i]? = some o → ∃ v g, vs[i]? = some v ∧ Own H Z K o v g ∧ nS o = true ∧ ∀ a ∈ g, a ∈ fp
  | [], _, _, _, _, _, e => by cases e
  | o :: os, vs, fp, i, o', h, e => by
    obtain ⟨v, r, f, g, rfl, rfl, h1, h2, h3⟩ := h
    cases i with
    | zero =>
      cases e
      exact ⟨v, f, rfl, h1, h3, fun a ha => List.mem_append_left _ ha⟩
    | succ i =>
      obtain ⟨v', g', e1, e2, e3, e4⟩ := Owns.get (i := i) h2 e
      exact ⟨v', g', e1, e2, e3, fun a ha => List.mem_append_right _ (e4 a ha)⟩
theorem allZ_eq : ∀ {os : List O} {ds : List PyData}, allZ os = some ds → os = ds.map .z
  | [], ds, h => by cases h; rfl
  | .z d :: r, ds, h => by
    rw [allZ] at h
    cases e : allZ r with
    | none => rw [e] at h; cases h
    | some es =>
      rw [e] at h
      cases h
      rw [allZ_eq e]; rfl
  | .l _ :: _, _, h => by cases h
  | .t _ :: _, _, h => by cases h
  | .dk _ :: _, _, h => by cases h
  | .dt _ :: _, _, h => by cases h
  | .s _ :: _, _, h => by cases h
theorem Owns.allz : ∀ {ds : List PyData} {vs : List V} {fp : List Addr}, Owns H Z K (ds.map .z) vs fp → fp = [] ∧ RZs H Z K ds vs
  | [], vs, fp, h => ⟨h.2, h.1⟩
  | d :: ds, vs, fp, h => by
    obtain ⟨v, r, f, g, rfl, rfl, h1, h2, h3⟩ := h
    obtain ⟨e, q⟩ := Owns.allz h2
    exact ⟨by rw [h1.1, e]; rfl, v, r, rfl, h1.2, q⟩
/-- a list, as it is seen -/
theorem Own.seq {os : List O} (h : Own H Z K o v fp) (e : seqO o = some os) : ∃ a vs g, v = .ref a ∧ H a = some (.lst vs) ∧ Owns H Z K os vs g ∧ ((Z a ∧ g = [] ∧ fp = []) ∨ fp = a :: g) := by
  unfold seqO at e
  split at e
  · cases e
    obtain ⟨rfl, a, vs, rfl, z, h1, h2⟩ := h
    exact ⟨a, vs, [], rfl, h1, RZs.owns _ _ h2, .inl ⟨z, rfl, rfl⟩⟩
  · cases e
    obtain ⟨a, vs, g, rfl, rfl, h1, h2⟩ := h
    exact ⟨a, vs, g, rfl, h1, h2, .inr rfl⟩
  · cases e
theorem Own.tup {os : List O} (h : Own H Z K o v fp) (e : tupO o = some os) : ∃ a vs, v = .ref a ∧ SqT K H a vs ∧ Owns H Z K os vs fp := by
  unfold tupO at e
  split at e
  · cases e
    obtain ⟨rfl, a, vs, rfl, h1, h2⟩ := h
    exact ⟨a, vs, rfl, h1, RZs.owns _ _ h2⟩
  · cases e
    exact h
  · cases e
theorem Own.lz {ds : List PyData} (h : Own H Z K o v fp) (e : lz o = some ds) : ∃ a vs, v = .ref a ∧ H a = some (.lst vs) ∧ RZs H Z K ds vs := by
  unfold U.lz at e
  cases q : seqO o with
  | none => rw [q] at e; cases e
  | some os =>
    rw [q] at e
    obtain ⟨a, vs, g, e1, e2, e3, _⟩ := h.seq q
    rw [allZ_eq e] at e3
    exact ⟨a, vs, e1, e2, e3.allz.2⟩
theorem Own.tz {ds : List PyData} (h : Own H Z K o v fp) (e : tz o = some ds) : ∃ a vs, v = .ref a ∧ SqT K H a vs ∧ RZs H Z K ds vs := by
  unfold U.tz at e
  cases q : tupO o with
  | none => rw [q] at e; cases e
  | some os =>
    rw [q] at e
    obtain ⟨a, vs, e1, e2, e3⟩ := h.tup q
    rw [allZ_eq e] at e3
    exact ⟨a, vs, e1, e2, e3.allz.2⟩
theorem RZs.length {ds : List PyData} {vs : List V} (h : RZs H Z K ds vs) : vs.length = ds.length := by
  have := (RZs.owns ds vs h).length
  rw [List.length_map] at this
  exact this
theorem RZs.app : ∀ {ds es : List PyData} {vs ws : List V}, RZs H Z K ds vs → RZs H Z K es ws → RZs H Z K (ds ++ es) (vs ++ ws)
  | [], es, vs, ws, h, h' => by rw [show vs = [] from h]; exact h'
  | d :: ds, es, vs, ws, h, h' => by
    obtain ⟨v, r, rfl, h1, h2⟩ := h
    exact ⟨v, r ++ ws, rfl, h1, RZs.app h2 h'⟩
theorem Owns.app : ∀ {os ps : List O} {vs ws : List V} {f g : List Addr}, Owns H Z K os vs f → Owns H Z K ps ws g → Owns H Z K (os ++ ps) (vs ++ ws) (f ++ g)
  | [], ps, vs, ws, f, g, h, h' => by rw [h.1, h.2]; exact h'
  | o :: os, ps, vs, ws, f, g, h, h' => by
    obtain ⟨v, r, f1, g1, rfl, rfl, h1, h2, h3⟩ := h
    exact ⟨v, r ++ ws, f1, g1 ++ g, rfl, by rw [List.append_assoc], h1, Owns.app h2 h', h3⟩
mutual
/-- HandS's data -/
theorem RZ.dp : ∀ (d : PyData) (v : V), RZ H Z K d v → Dp K H v d
  | .none, v, h => by rw [show v = .non from h]; exact .non
  | .bool b, v, h => by rw [show v = .bl b from h]; exact .bl b
  | .int i, v, h => by rw [show v = .int i from h]; exact .int i
  | .str s, v, h => by rw [show v = .str s from h]; exact .str s
  | .list ds, v, h => by
    obtain ⟨a, vs, rfl, z, h1, h2⟩ := h
    exact .lst (SqL.of h1) (RZs.dp ds vs h2)
  | .tuple ds, v, h => by
    obtain ⟨a, vs, rfl, h1, h2⟩ := h
    exact .tup h1 (RZs.dp ds vs h2)
  | .dict _, v, h => h.elim
theorem RZs.dp : ∀ (ds : List PyData) (vs : List V), RZs H Z K ds vs → DpAll K H vs ds
  | [], vs, h => by rw [show vs = [] from h]; exact .nil
  | d :: ds, vs, h => by
    obtain ⟨v, r, rfl, h1, h2⟩ := h
    exact .cons (RZ.dp d v h1) (RZs.dp ds r h2)
end
mutual
theorem Own.dp : ∀ (o : O) (v : V) (fp : List Addr), dz o = true → Own H Z K o v fp → Dp K H v (strip o)
  | .z d, v, fp, _, h => by rw [strip]; exact RZ.dp d v h.2
  | .l os, v, fp, n, h => by
    obtain ⟨a, vs, g, rfl, rfl, h1, h2⟩ := h
    rw [strip]
    exact .lst (SqL.of h1) (Owns.dp os vs g (by rw [dz] at n; exact n) h2)
  | .t os, v, fp, n, h => by
    obtain ⟨a, vs, rfl, h1, h2⟩ := h
    rw [strip]
    exact .tup h1 (Owns.dp os vs fp (by rw [dz] at n; exact n) h2)
  | .dk _, _, _, n, h => by simp [dz] at n
  | .dt _, _, _, n, h => by simp [dz] at n
  | .s ns, _, _, n, _ => by simp [dz] at n
theorem Owns.dp : ∀ (os : List O) (vs : List V) (fp : List Addr), dzs os = true → Owns H Z K os vs fp → DpAll K H vs (strips os)
  | [], vs, fp, _, h => by rw [h.1]; exact .nil
  | o :: os, vs, fp, n, h => by
    rw [dzs, Bool.and_eq_true] at n
    obtain ⟨v, r, f, g, rfl, rfl, h1, h2, h3⟩ := h
    rw [strips]
    exact .cons (Own.dp o v f n.1 h1) (Owns.dp os r g n.2 h2)
end
end

/-! ### the slots -/
/-- the entry's data, and the thing of the caller's that is changed here -/
structure Ent where
  z : Zs
  pin : V
def SlOk (H0 : Hp) (Z0 : Ent) (H : Hp) (Z : Zs) (K : PySem.W.Frag) : Option Sl → Option V → List Addr → Prop
  | none, _, fp => fp = []
  | some (.w o), w, fp => ∃ v, w = some v ∧ Own H Z K o v fp
  | some (.r o), w, fp => fp = [] ∧ ∃ v g, w = some v ∧ Own H0 Z0.z K o v g
  | some (.p o), w, fp => w = some Z0.pin ∧ Own H Z K o Z0.pin fp
def Sls (H0 : Hp) (Z0 : Ent) (H : Hp) (Z : Zs) (K : PySem.W.Frag) : Env → St → List Addr → Prop
  | [], σ, fp => σ = [] ∧ fp = []
  | s :: ρ, σ, fp => ∃ w τ f g, σ = w :: τ ∧ fp = f ++ g ∧ SlOk H0 Z0 H Z K s w f ∧ Sls H0 Z0 H Z K ρ τ g
/-- the state: H0, Z0 at the entry -/
structure SR (K : PySem.W.Frag) (H0 : Hp) (Z0 : Ent) (H : Hp) (Z : Zs) (σ : St) (ρ : Env) : Prop where
  ext : Ext H0 Z0.z H Z
  own : ∃ fp, Sls H0 Z0 H Z K ρ σ fp ∧ fp.Nodup ∧ ∀ a ∈ fp, ¬ Z a ∧ H0 a = none
section
variable {K : PySem.W.Frag} {H0 H H' : Hp} {Z0 : Ent} {Z Z' : Zs} {σ : St} {ρ : Env} {fp : List Addr}
theorem SlOk.mut : ∀ {s : Option Sl} {w : Option V} {fp : List Addr}, SlOk H0 Z0 H Z K s w fp → ∀ a ∈ fp, MutO (H a)
  | none, _, _, h, a, ha => by rw [show _ = [] from h] at ha; cases ha
  | some (.w o), _, _, h, a, ha => by
    obtain ⟨v, _, h⟩ := h
    exact Own.mut o v _ h a ha
  | some (.r o), _, _, h, a, ha => by rw [h.1] at ha; cases ha
  | some (.p o), _, _, h, a, ha => Own.mut o _ _ h.2 a ha
theorem Sls.mut : ∀ {ρ : Env} {σ : St} {fp : List Addr}, Sls H0 Z0 H Z K ρ σ fp → ∀ a ∈ fp, MutO (H a)
  | [], σ, fp, h, a, ha => by rw [h.2] at ha; cases ha
  | s :: ρ, σ, fp, h, a, ha => by
    obtain ⟨w, τ, f, g, rfl, rfl, h1, h2⟩ := h
    rcases List.mem_append.mp ha with ha | ha
    · exact SlOk.mut h1 a ha
    · exact Sls.mut h2 a ha
theorem Sls.dom {ρ : Env} {σ : St} {fp : List Addr} (h : Sls H0 Z0 H Z K ρ σ fp) (a : Addr) (ha : a ∈ fp) : ∃ u, H a = some u := (Sls.mut h a ha).some
theorem SlOk.frame (e : Kp H Z H' Z') : ∀ {s : Option Sl} {w : Option V} {fp : List Addr}, (∀ a ∈ fp, H' a = H a) → SlOk H0 Z0 H Z K s w fp → SlOk H0 Z0 H' Z' K s w fp
  | none, _, _, _, h => h
  | some (.w o), _, _, k, h => by
    obtain ⟨v, e1, h⟩ := h
    exact ⟨v, e1, Own.frame e o v _ k h⟩
  | some (.r o), _, _, _, h => h
  | some (.p o), _, _, k, h => ⟨h.1, Own.frame e o _ _ k h.2⟩
theorem Sls.frame (e : Kp H Z H' Z') : ∀ {ρ : Env} {σ : St} {fp : List Addr}, (∀ a ∈ fp, H' a = H a) → Sls H0 Z0 H Z K ρ σ fp → Sls H0 Z0 H' Z' K ρ σ fp
  | [], σ, fp, _, h => h
  | s :: ρ, σ, fp, k, h => by
    obtain ⟨w, τ, f, g, rfl, rfl, h1, h2⟩ := h
    exact ⟨w, τ, f, g, rfl, rfl, SlOk.frame e (fun a ha => k a (List.mem_append_left _ ha)) h1, Sls.frame e (fun a ha => k a (List.mem_append_right _ ha)) h2⟩
theorem Sls.len : ∀ {ρ : Env} {σ : St} {fp : List Addr}, Sls H0 Z0 H Z K ρ σ fp → σ.length = ρ.length
  | [], σ, fp, h => by rw [h.1]; rfl
  | s :: ρ, σ, fp, h => by
    obtain ⟨w, τ, f, g, rfl, rfl, h1, h2⟩ := h
    rw [List.length_cons, List.length_cons, Sls.len h2]
theorem SR.grow (S : SR K H0 Z0 H Z σ ρ) (e : Ext H Z H' Z') : SR K H0 Z0 H' Z' σ ρ := by
  obtain ⟨fp, h, nd, k⟩ := S.own
  have dm := Sls.dom h
  refine ⟨S.ext.trans e, fp, Sls.frame e.kp (fun a ha => ?_) h, nd, fun a ha => ⟨fun z => ?_, (k a ha).2⟩⟩
  · obtain ⟨vs, q⟩ := dm a ha
    rw [q]; exact e.keep _ _ q
  · rcases e.zn a z with z | z
    · exact (k a ha).1 z
    · obtain ⟨vs, q⟩ := dm a ha
      rw [q] at z; cases z
theorem Sls.get : ∀ {ρ : Env} {σ : St} {fp : List Addr} {i : Nat} {s : Option Sl}, Sls H0 Z0 H Z K ρ σ fp → ρ[i]? = some s → ∃ w f, σ[i]? = some w ∧ SlOk H0 Z0 H Z K s w f ∧ ∀ a ∈ f, a ∈ fp
  | [], _, _, _, _, _, e => by cases e
  | s :: ρ, σ, fp, i, s', h, e => by
    obtain ⟨w, τ, f, g, rfl, rfl, h1, h2⟩ := h
    cases i with
    | zero =>
      cases e
      exact ⟨w, f, rfl, h1, fun a ha => List.mem_append_left _ ha⟩
    | succ i =>
      obtain ⟨w', f', e1, e2, e3⟩ := Sls.get (i := i) h2 e
      exact ⟨w', f', e1, e2, fun a ha => List.mem_append_right _ (e3 a ha)⟩
theorem SR.getW (S : SR K H0 Z0 H Z σ ρ) {i : Nat} {o : O} (e : ρ[i]? = some (some (.w o))) : ∃ v f, σ[i]? = some (some v) ∧ Own H Z K o v f := by
  obtain ⟨fp, h, nd, k⟩ := S.own
  obtain ⟨w, f, e1, ⟨v, rfl, h2⟩, e3⟩ := Sls.get h e
  exact ⟨v, f, e1, h2⟩
theorem SR.getR (S : SR K H0 Z0 H Z σ ρ) {i : Nat} {o : O} (e : ρ[i]? = some (some (.r o))) : ∃ v f, σ[i]? = some (some v) ∧ Own H Z K o v f := by
  obtain ⟨fp, h, nd, k⟩ := S.own
  obtain ⟨w, f, e1, ⟨_, v, g, rfl, h2⟩, e3⟩ := Sls.get h e
  exact ⟨v, g, e1, h2.ext S.ext⟩
theorem SR.getP (S : SR K H0 Z0 H Z σ ρ) {i : Nat} {o : O} (e : ρ[i]? = some (some (.p o))) : ∃ v f, σ[i]? = some (some v) ∧ Own H Z K o v f := by
  obtain ⟨fp, h, nd, k⟩ := S.own
  obtain ⟨w, f, e1, ⟨rfl, h2⟩, e3⟩ := Sls.get h e
  exact ⟨_, f, e1, h2⟩
/-- the slots but one, and the one -/
theorem Sls.part : ∀ {ρ : Env} {σ : St} {fp : List Addr} {i : Nat} {s : Option Sl}, Sls H0 Z0 H Z K ρ σ fp → ρ[i]? = some s → ∃ w f g g', σ[i]? = some w ∧ SlOk H0 Z0 H Z K s w f ∧ fp = g ++ f ++ g' ∧
    ∀ (H' : Hp) (Z' : Zs) (s' : Option Sl) (w' : Option V) (f' : List Addr), Kp H Z H' Z' → (∀ a, a ∈ g ∨ a ∈ g' → H' a = H a) → SlOk H0 Z0 H' Z' K s' w' f' → Sls H0 Z0 H' Z' K (ρ.set i s') (σ.set i w') (g ++ f' ++ g')
  | [], _, _, _, _, _, e => by cases e
  | s :: ρ, σ, fp, i, s', h, e => by
    obtain ⟨w, τ, f, g, rfl, rfl, h1, h2⟩ := h
    cases i with
    | zero =>
      cases e
      exact ⟨w, f, [], g, rfl, h1, rfl, fun H' Z' s' w' f' kp k q => ⟨w', τ, f', g, rfl, rfl, q, Sls.frame kp (fun a ha => k a (.inr ha)) h2⟩⟩
    | succ i =>
      obtain ⟨w', f', g1, g2, e1, e2, rfl, q⟩ := Sls.part (i := i) h2 e
      refine ⟨w', f', f ++ g1, g2, e1, e2, by simp [List.append_assoc], fun H' Z' s' w'' f'' kp k z => ?_⟩
      refine ⟨w, τ.set i w'', f, g1 ++ f'' ++ g2, rfl, by simp [List.append_assoc], SlOk.frame kp (fun a ha => k a (.inl (List.mem_append_left _ ha))) h1, q H' Z' s' w'' f'' kp (fun a ha => k a ?_) z⟩
      rcases ha with ha | ha
      · exact .inl (List.mem_append_right _ ha)
      · exact .inr ha
/-- a slot is stored: o is new, or data -/
theorem SR.put (S : SR K H0 Z0 H Z σ ρ) (e : Ext H Z H' Z') {i : Nat} {o : O} {v : V} {f' : List Addr} (ho : Own H' Z' K o v f') (nd' : f'.Nodup) (fr : ∀ a ∈ f', ¬ Z' a ∧ H a = none) : SR K H0 Z0 H' Z' (σ.set i (some v)) (ρ.set i (some (.w o))) := by
  obtain ⟨fp, h, nd, k⟩ := S.own
  have dm := Sls.dom h
  have keep : ∀ a ∈ fp, H' a = H a := fun a ha => by
    obtain ⟨vs, q⟩ := dm a ha
    rw [q]; exact e.keep _ _ q
  have nz : ∀ a ∈ fp, ¬ Z' a := fun a ha z => by
    rcases e.zn a z with z | z
    · exact (k a ha).1 z
    · obtain ⟨vs, q⟩ := dm a ha
      rw [q] at z; cases z
  have dj : ∀ a ∈ f', ∀ b ∈ fp, a ≠ b := fun a ha b hb q => by
    obtain ⟨vs, q2⟩ := dm b hb
    rw [← q, (fr a ha).2] at q2; cases q2
  by_cases hi : i < ρ.length
  · obtain ⟨w, f, g, g', e1, e2, rfl, q⟩ := Sls.part h (List.getElem?_eq_getElem hi)
    have hf : ∀ a, a ∈ g ∨ a ∈ g' → a ∈ g ++ f ++ g' := fun a ha => by
      rcases ha with ha | ha
      · exact List.mem_append_left _ (List.mem_append_left _ ha)
      · exact List.mem_append_right _ ha
    refine ⟨S.ext.trans e, g ++ f' ++ g', q H' Z' _ _ f' e.kp (fun a ha => keep a (hf a ha)) ⟨v, rfl, ho⟩, ?_, fun a ha => ?_⟩
    · rw [List.append_assoc, List.nodup_append] at nd ⊢
      obtain ⟨n1, n2, n3⟩ := nd
      rw [List.nodup_append] at n2
      refine ⟨n1, List.nodup_append.mpr ⟨nd', n2.2.1, fun a ha b hb => dj a ha b (hf b (.inr hb))⟩, fun a ha b hb => ?_⟩
      rcases List.mem_append.mp hb with hb | hb
      · exact fun z => dj b hb a (hf a (.inl ha)) z.symm
      · exact n3 a ha b (List.mem_append_right _ hb)
    · rcases List.mem_append.mp ha with ha | ha
      · rcases List.mem_append.mp ha with ha | ha
        · exact ⟨nz a (hf a (.inl ha)), (k a (hf a (.inl ha))).2⟩
        · exact ⟨(fr a ha).1, S.ext.back (fr a ha).2⟩
      · exact ⟨nz a (hf a (.inr ha)), (k a (hf a (.inr ha))).2⟩
  · have hl := Sls.len h
    rw [List.set_eq_of_length_le (by omega), List.set_eq_of_length_le (by omega)]
    exact S.grow e
end

/-! ### the judgements -/
/-- what is asked where an error of the class named c comes out, that bears d -/
def ErrP (X : Cx) (W : WX) (σ : St) (H : Hp) (Z : Zs) (c : Str) (d : PyData) : Prop :=
  ∀ C dx v H' Z', X.mg c = some (.ref C) → Ext H Z H' Z' → H' dx = some (.xd [("at", v)]) → RZ H' Z' X.K d v → W (.ref C) (some dx) σ H'
/-- new: fp is all new -/
def New (H : Hp) (Z' : Zs) (g : List Addr) : Prop := g.Nodup ∧ ∀ a ∈ g, ¬ Z' a ∧ H a = none
theorem New.nil {H : Hp} {Z' : Zs} : New H Z' [] := ⟨List.nodup_nil, fun _ h => by cases h⟩
def PostE (X : Cx) (W : WX) (own : Prop) (σ : St) (H : Hp) (Z : Zs) (r : Res O) (Q : VK) : Prop := match r with
  | .ok o => ∀ v H' Z' g, Ext H Z H' Z' → Own H' Z' X.K o v g → (own → New H Z' g) → Q v H'
  | .err c d => ErrP X W σ H Z c d
  | .bad => False
def PostT (X : Cx) (W : WX) (σ : St) (H : Hp) (Z : Zs) (r : Res Bool) (Q : Bool → Hp → Prop) : Prop := match r with
  | .ok b => ∀ H' Z', Ext H Z H' Z' → Q b H'
  | .err c d => ErrP X W σ H Z c d
  | .bad => False
def OwnA (H : Hp) (Z : Zs) (K : PySem.W.Frag) : List O → List V → List Addr → Prop
  | [], vs, fp => vs = [] ∧ fp = []
  | o :: os, vs, fp => ∃ v r f g, vs = v :: r ∧ fp = f ++ g ∧ Own H Z K o v f ∧ OwnA H Z K os r g
def PostA (X : Cx) (W : WX) (own : Prop) (σ : St) (H : Hp) (Z : Zs) (r : Res (List O)) (Q : List V → Hp → Prop) : Prop := match r with
  | .ok os => ∀ vs H' Z' g, Ext H Z H' Z' → OwnA H' Z' X.K os vs g → (own → New H Z' g) → Q vs H'
  | .err c d => ErrP X W σ H Z c d
  | .bad => False
/-- a reading that does what f says -/
abbrev Sat (X : Cx) (W : WX) (own : Prop) (t : TE) (f : EV) : Prop := ∀ {H0 Z0 H Z σ ρ}, SR X.K H0 Z0 H Z σ ρ → ∀ Q, PostE X W own σ H Z (f ρ) Q → t σ H Q
abbrev SatT (X : Cx) (W : WX) (t : TT) (f : EB) : Prop := ∀ {H0 Z0 H Z σ ρ}, SR X.K H0 Z0 H Z σ ρ → ∀ Q, PostT X W σ H Z (f ρ) Q → t σ H Q
/-- an expression: its value's own things are new (own), or somebody's -/
structure PX (X : Cx) (W : WX) (own : Prop) (e : Expr) (f : EV) : Prop where
  ex : ∃ t : TE, PE X e t ∧ Sat X W own t f
abbrev PuE (X : Cx) (W : WX) := PX X W True
abbrev PuB (X : Cx) (W : WX) := PX X W False
structure PuT (X : Cx) (W : WX) (e : Expr) (f : EB) : Prop where
  ex : ∃ t : TT, PT X e t ∧ SatT X W t f
structure PAX (X : Cx) (W : WX) (own : Prop) (es : List Expr) (f : EA) : Prop where
  len : ∀ ρ os, f ρ = .ok os → os.length = es.length
  ex : ∃ t : TA, PA X es t ∧ ∀ {H0 Z0 H Z σ ρ}, SR X.K H0 Z0 H Z σ ρ → ∀ Q, PostA X W own σ H Z (f ρ) Q → t σ H Q
abbrev PuA (X : Cx) (W : WX) := PAX X W True
abbrev PuAB (X : Cx) (W : WX) := PAX X W False
section
variable {X : Cx} {W : WX} {own : Prop} {e a b c : Expr} {f fa fb fc : EV} {pos : Pos} {H0 H H' : Hp} {Z0 : Ent} {Z Z' : Zs} {σ : St} {ρ : Env}
theorem ErrP.grow {cn : Str} {d : PyData} (h : ErrP X W σ H Z cn d) (e : Ext H Z H' Z') : ErrP X W σ H' Z' cn d := fun C dx v H2 Z2 m e2 h2 r => h C dx v H2 Z2 m (e.trans e2) h2 r
theorem New.grow {Z1 : Zs} {H1 : Hp} {g : List Addr} (h : New H1 Z1 g) (e : Ext H Z H1 Z') : New H Z1 g := ⟨h.1, fun a ha => ⟨(h.2 a ha).1, e.back (h.2 a ha).2⟩⟩
/-- what was new stays new while the heap grows -/
theorem New.later {H1 H2 : Hp} {Z1 Z2 : Zs} {g : List Addr} {K : PySem.W.Frag} (h : New H Z1 g) (dm : ∀ a ∈ g, H1 a ≠ none) (e : Ext H1 Z1 H2 Z2) : New H Z2 g := ⟨h.1, fun a ha => ⟨fun z => by
  rcases e.zn a z with z | z
  · exact (h.2 a ha).1 z
  · exact dm a ha z, (h.2 a ha).2⟩⟩
theorem New.app {Z1 : Zs} {H1 : Hp} {g g' : List Addr} (h : New H Z1 g) (dm : ∀ a ∈ g, H1 a ≠ none) (h' : New H1 Z1 g') (e : ∀ a, H1 a = none → H a = none) : New H Z1 (g ++ g') :=
  ⟨List.nodup_append.mpr ⟨h.1, h'.1, fun a ha b hb q => dm a ha (by rw [q]; exact (h'.2 b hb).2)⟩, fun a ha => by
    rcases List.mem_append.mp ha with ha | ha
    · exact h.2 a ha
    · exact ⟨(h'.2 a ha).1, e a (h'.2 a ha).2⟩⟩
/-- lent, where it is new -/
theorem PX.br (h : PuE X W e f) : PuB X W e f := by
  obtain ⟨t, ht, q⟩ := h.ex
  refine ⟨t, ht, fun S Q p => q S Q ?_⟩
  revert p
  unfold PostE
  cases f _ with
  | ok o => exact fun p v H' Z' g e1 e2 _ => p v H' Z' g e1 e2 False.elim
  | err c d => exact id
  | bad => exact id
/-! #### names, constants -/
theorem pu_var (i : Nat) {x : Str} (hN : X.N[i]? = some x) (hv : Vis X.env.scope x) (hd : (x == ("__debug__" : Str)) = false) (hcd : (x == ("__classdict__" : Str)) = false) : PuB X W (.Name x pos) (eVar i) := by
  refine ⟨tVar i, pe_var hN hv hd hcd, fun {H0 Z0 H Z σ ρ} S Q p => ?_⟩
  unfold PostE eVar at p
  cases hr : ρ[i]? with
  | none => rw [hr] at p; exact p.elim
  | some s =>
    rw [hr] at p
    cases s with
    | none => exact p.elim
    | some s =>
      cases s with
      | w o =>
        obtain ⟨v, g, e1, e2⟩ := S.getW hr
        exact ⟨v, e1, p v H Z g (Ext.refl S.ext.zd) e2 False.elim⟩
      | r o =>
        obtain ⟨v, g, e1, e2⟩ := S.getR hr
        exact ⟨v, e1, p v H Z g (Ext.refl S.ext.zd) e2 False.elim⟩
      | p o =>
        obtain ⟨v, g, e1, e2⟩ := S.getP hr
        exact ⟨v, e1, p v H Z g (Ext.refl S.ext.zd) e2 False.elim⟩
/-- an expression from a borrowed one, by what is done with it -/
theorem pu_c {v : V} {d : PyData} (h : PE X e (tC v)) (hd : ∀ H Z, RZ H Z X.K d v) : PuE X W e (eC d) :=
  ⟨tC v, h, fun {H0 Z0 H Z σ ρ} S Q p => p v H Z [] (Ext.refl S.ext.zd) ⟨rfl, hd H Z⟩ fun _ => New.nil⟩
theorem pu_int {i : Int} {j : Nat} : PuE X W (.Constant (.int i) j pos) (eC (.int i)) := pu_c pe_int fun _ _ => rfl
theorem pu_bl {b : Bool} {j : Nat} : PuE X W (.Constant (.bool b) j pos) (eC (.bool b)) := pu_c pe_bl fun _ _ => rfl
theorem pu_non {j : Nat} : PuE X W (.Constant .none j pos) (eC .none) := pu_c pe_non fun _ _ => rfl
theorem pu_str {x : Str} {j : Nat} : PuE X W (.Constant (.str x) j pos) (eC (.str x)) := pu_c pe_str fun _ _ => rfl
/-- data alone -/
theorem pu_z (h : PuB X W e f) : PuE X W e (eZ f) := by
  obtain ⟨t, ht, q⟩ := h.ex
  refine ⟨t, ht, fun {H0 Z0 H Z σ ρ} S Q p => q S Q ?_⟩
  revert p
  unfold PostE eZ e1 gZ
  cases f ρ with
  | ok o =>
    cases o with
    | z d => exact fun p v H' Z' g e1 e2 _ => p v H' Z' [] e1 (by rw [e2.1] at e2; exact e2) fun _ => New.nil
    | _ => exact fun p => p.elim
  | err c d => exact id
  | bad => exact id
/-- what is new is made data -/
theorem pu_fz (h : PuE X W e f) : PuE X W e (eFz f) := by
  obtain ⟨t, ht, q⟩ := h.ex
  refine ⟨t, ht, fun {H0 Z0 H Z σ ρ} S Q p => q S Q ?_⟩
  revert p
  unfold PostE eFz e1
  cases f ρ with
  | ok o =>
    unfold gFz
    by_cases hn : dz o = true
    · rw [Res.bind_ok, if_pos hn]
      refine fun p v H' Z' g e1 e2 n => p v H' (fun a => Z' a ∨ a ∈ g) [] ⟨e1.keep, fun a z => .inl (e1.zz a z), fun a z => ?_, fun a z => ?_⟩ ⟨rfl, ?_⟩ fun _ => New.nil
      · rcases z with z | z
        · exact e1.zn a z
        · exact .inr ((n trivial).2 a z).2
      · rcases z with z | z
        · exact e1.zd a z
        · exact e2.ne z
      · exact Own.data (fun a z => .inl z) o v g (fun a ha => .inr ha) hn e2
    · rw [Res.bind_ok, if_neg hn]
      exact fun p => p.elim
  | err c d => exact id
  | bad => exact id
end

/-! ### operators by values -/
def PostG (H : Hp) (Z : Zs) (K : PySem.W.Frag) (r : Res O) (Q : VK) : Prop := match r with
  | .ok q => ∀ v H' Z' g, Ext H Z H' Z' → Own H' Z' K q v g → New H Z' g → Q v H'
  | _ => False
def GR2 (K : PySem.W.Frag) (r : R2) (g : O → O → Res O) : Prop :=
  ∀ {H : Hp} {Z : Zs} {x y : V} {o p : O} {f1 f2 : List Addr}, (∀ a, Z a → H a ≠ none) → Own H Z K o x f1 → Own H Z K p y f2 → ∀ Q : VK, PostG H Z K (g o p) Q → r x y H Q
def GR1 (K : PySem.W.Frag) (r : V → Hp → VK → Prop) (g : O → Res O) : Prop :=
  ∀ {H : Hp} {Z : Zs} {x : V} {o : O} {f1 : List Addr}, (∀ a, Z a → H a ≠ none) → Own H Z K o x f1 → ∀ Q : VK, PostG H Z K (g o) Q → r x H Q
section
variable {X : Cx} {W : WX} {own : Prop} {e a b c : Expr} {f fa fb fc : EV} {pos : Pos} {K : PySem.W.Frag} {r r' : R2} {g g' : O → O → Res O} {H : Hp} {Z : Zs}
theorem PostG.z {d : PyData} {Q : VK} (hz : ∀ a, Z a → H a ≠ none) {v : V} (h : RZ H Z K d v) (p : PostG H Z K (.ok (.z d)) Q) : Q v H := p v H Z [] (Ext.refl hz) ⟨rfl, h⟩ New.nil
theorem rz_int {i : Int} : RZ H Z K (.int i) (.int i) := rfl
theorem rz_bl {b : Bool} : RZ H Z K (.bool b) (.bl b) := rfl
/-- a new list -/
theorem PostG.lst {ds : List PyData} {Q : VK} (hz : ∀ a, Z a → H a ≠ none) {vs : List V} (h : RZs H Z K ds vs) (p : PostG H Z K (.ok (.l (ds.map .z))) Q) {q : Addr} (hq : H q = none) : Q (.ref q) (upd H q (.lst vs)) := by
  have e := Ext.new (Z := Z) (o := .lst vs) hz hq
  refine p (.ref q) _ Z [q] e ⟨q, vs, [], rfl, rfl, upd_same, Owns.ext e (RZs.owns _ _ h)⟩ ⟨by simp, fun a ha => ?_⟩
  have ea : a = q := by simpa using ha
  subst ea
  exact ⟨fun z => hz a z hq, hq⟩
theorem sat_2 {ta tb : TE} (qa : Sat X W False ta fa) (qb : Sat X W False tb fb) (G : GR2 X.K r g) : Sat X W True (tOp r ta tb) (e2 g fa fb) := by
  intro H0 Z0 H Z σ ρ S Q p
  unfold tOp
  refine qa S _ ?_
  revert p
  unfold e2 PostE
  cases fa ρ with
  | bad => exact fun p => p
  | err cn d => exact fun p => p
  | ok o =>
    intro p v1 H1 Z1 g1 e1 o1 _
    refine qb (S.grow e1) _ ?_
    revert p
    show PostE X W True σ H Z ((fb ρ).bind fun b => (g o b).nox) Q → PostE X W False σ H1 Z1 (fb ρ) _
    cases fb ρ with
    | bad => exact fun p => p
    | err cn d => exact fun p => ErrP.grow p e1
    | ok o' =>
      intro p v2 H2 Z2 g2 e2 o2 _
      refine G e2.zd (o1.ext e2) o2 Q ?_
      revert p
      show PostE X W True σ H Z (g o o').nox Q → PostG H2 Z2 X.K (g o o') Q
      cases g o o' with
      | ok q => exact fun p v3 H3 Z3 g3 e3 o3 n3 => p v3 H3 Z3 g3 ((e1.trans e2).trans e3) o3 fun _ => n3.grow (e1.trans e2)
      | err _ _ => exact fun p => p
      | bad => exact fun p => p
theorem pu_op {op : Operator} (ho : OpR X (binaryOp op) r) (G : GR2 X.K r g) (ha : PuB X W a fa) (hb : PuB X W b fb) : PuE X W (.BinOp a op b pos) (e2 g fa fb) := by
  obtain ⟨ta, pa, qa⟩ := ha.ex
  obtain ⟨tb, pb, qb⟩ := hb.ex
  exact ⟨_, pe_op ho pa pb, sat_2 qa qb G⟩
theorem pu_cmp {op : CmpOp} (ho : OpR X (compareOp op) r) (G : GR2 X.K r g) (hm : behindInMarks op b = false) (ha : PuB X W a fa) (hb : PuB X W b fb) : PuE X W (.Compare a [op] [b] pos) (e2 g fa fb) := by
  obtain ⟨ta, pa, qa⟩ := ha.ex
  obtain ⟨tb, pb, qb⟩ := hb.ex
  exact ⟨_, pe_cmpR ho pa pb hm, sat_2 qa qb G⟩
theorem sat_t {own : Prop} {t : TE} (q : Sat X W own t f) : SatT X W (tTest t) (U.tB f) := by
  intro H0 Z0 H Z σ ρ S Q p
  refine q S _ ?_
  revert p
  unfold U.tB PostE PostT
  cases f ρ with
  | bad => exact fun p => p
  | err cn d => exact fun p => p
  | ok o =>
    cases o with
    | z d =>
      cases d with
      | bool k => exact fun p v H' Z' g e o _ => ⟨k, o.2, p H' Z' e⟩
      | _ => exact fun p => p.elim
    | _ => exact fun p => p.elim
theorem pt_cmp' {op : CmpOp} (ho : OpR X (compareOp op) r) (G : GR2 X.K r g) (hm : behindInMarks op b = false) (ha : PuB X W a fa) (hb : PuB X W b fb) : PuT X W (.Compare a [op] [b] pos) (U.tB (e2 g fa fb)) := by
  obtain ⟨ta, pa, qa⟩ := ha.ex
  obtain ⟨tb, pb, qb⟩ := hb.ex
  exact ⟨_, pt_cmpR ho pa pb hm, sat_t (sat_2 qa qb G)⟩
theorem pu_ix (hs : PlainIx b) (hr : IxR X r) (G : GR2 X.K r g) (ha : PuB X W a fa) (hb : PuB X W b fb) : PuE X W (.Subscript a b pos) (e2 g fa fb) := by
  obtain ⟨ta, pa, qa⟩ := ha.ex
  obtain ⟨tb, pb, qb⟩ := hb.ex
  exact ⟨_, pe_ix hr pa pb hs, sat_2 qa qb G⟩
theorem GR2.or (h : GR2 K r g) (h' : GR2 K r' g) : GR2 K (fun x y H Q => r x y H Q ∨ r' x y H Q) g := fun hz o1 o2 Q p => .inl (h hz o1 o2 Q p)
/-- whole numbers -/
theorem gr_I {C : Int → Int → Prop} {k : Int → Int → Int} {q : Int → Int → Res PyData} (hq : ∀ i j d, q i j = .ok d → C i j ∧ d = .int (k i j)) : GR2 K (rI C fun i j => .int (k i j)) (gI q) := fun {H Z x y o p f1 f2} hz o1 o2 Q => by
  unfold gI
  split
  · rename_i i j
    obtain ⟨_, rfl⟩ := o1
    obtain ⟨_, rfl⟩ := o2
    cases e : q i j with
    | ok d =>
      obtain ⟨hc, rfl⟩ := hq i j d e
      exact fun p => ⟨i, j, rfl, rfl, hc, PostG.z hz rz_int p⟩
    | err _ _ => exact fun p => p.elim
    | bad => exact fun p => p.elim
  · exact fun p => p.elim
theorem gr_sub : GR2 K (rI0 fun i j => .int (i - j)) gSub := fun {H Z x y o p f1 f2} hz o1 o2 Q pq => by
  obtain ⟨i, j, e1, e2, _, q⟩ := gr_I (C := fun _ _ => True) (k := fun i j => i - j) (fun i j d h => by cases h; exact ⟨trivial, rfl⟩) hz o1 o2 Q pq
  exact ⟨i, j, e1, e2, q⟩
theorem gr_mod : GR2 K (rI (fun _ j => j ≠ 0) fun i j => .int (i.fmod j)) gMod := gr_I fun i j d h => by
  by_cases hj : j ≠ 0
  · rw [if_pos hj] at h; cases h; exact ⟨hj, rfl⟩
  · rw [if_neg hj] at h; cases h
theorem gr_div : GR2 K (rI CDivN fun i j => .int (i.fdiv j)) gDiv := gr_I fun i j d h => by
  by_cases hj : j ≠ 0 ∧ j.natAbs < 1073741824
  · rw [if_pos hj] at h; cases h; exact ⟨hj, rfl⟩
  · rw [if_neg hj] at h; cases h
theorem gr_pow : GR2 K (rI CPow fun i j => .int (i ^ j.toNat)) gPow := gr_I fun i j d h => by
  by_cases hj : 0 ≤ j ∧ j ≤ 1000000 ∧ i.natAbs < 2 ^ 64
  · rw [if_pos hj] at h; cases h; exact ⟨hj, rfl⟩
  · rw [if_neg hj] at h; cases h
theorem line_eq : lineMax = sizeLine := by rw [sizeLine_eq]; rfl
theorem gr_add : GR2 K (fun x y H Q => rI0 (fun i j => .int (i + j)) x y H Q ∨ rCat x y H Q) gAdd := fun {H Z x y o p f1 f2} hz o1 o2 Q => by
  unfold gAdd
  split
  · obtain ⟨_, rfl⟩ := o1
    obtain ⟨_, rfl⟩ := o2
    exact fun p => .inl ⟨_, _, rfl, rfl, PostG.z hz rz_int p⟩
  · cases e : lz o with
    | none => exact fun p => p.elim
    | some xs =>
      cases e' : lz p with
      | none => exact fun p => p.elim
      | some ys =>
        dsimp only
        by_cases hl : xs.length + ys.length ≤ lineMax
        · rw [if_pos hl]
          obtain ⟨a, vs, rfl, h1, h2⟩ := o1.lz e
          obtain ⟨b, ws, rfl, h3, h4⟩ := o2.lz e'
          exact fun p => .inr ⟨a, b, vs, ws, rfl, rfl, h1, h3, by rw [h2.length, h4.length, ← line_eq]; exact hl, fun q hq => PostG.lst hz (h2.app h4) p hq⟩
        · rw [if_neg hl]
          exact fun p => p.elim
theorem op_addU : OpR X (binaryOp .Add) (fun x y H Q => rI0 (fun i j => .int (i + j)) x y H Q ∨ rCat x y H Q) := op_add.or op_cat
end

section
variable {X : Cx} {W : WX} {own : Prop} {e a b c : Expr} {f fa fb fc : EV} {pos : Pos} {K : PySem.W.Frag} {r r' : R2} {g g' : O → O → Res O} {H : Hp} {Z : Zs}
def rMul : R2 := fun x y H Q => rI CMul (fun i j => .int (i * j)) x y H Q ∨ rRep x y H Q
theorem op_mulU : OpR X (binaryOp .Mult) rMul := op_mul.or op_rep
theorem RZs.rep {ds : List PyData} {vs : List V} (h : RZs H Z K ds vs) : ∀ n : Nat, RZs H Z K (List.replicate n ds).flatten (List.replicate n vs).flatten
  | 0 => rfl
  | n + 1 => by
    rw [List.replicate_succ, List.replicate_succ, List.flatten_cons, List.flatten_cons]
    exact h.app (RZs.rep h n)
theorem gr_mul : GR2 K rMul gMul := fun {H Z x y o p f1 f2} hz o1 o2 Q => by
  unfold gMul
  split
  · rename_i i j
    obtain ⟨_, rfl⟩ := o1
    obtain ⟨_, rfl⟩ := o2
    by_cases hc : (-(2 ^ 64) < i ∧ i < 2 ^ 64) ∨ (-(2 ^ 64) < j ∧ j < 2 ^ 64)
    · rw [if_pos hc]
      exact fun p => .inl ⟨_, _, rfl, rfl, hc, PostG.z hz rz_int p⟩
    · rw [if_neg hc]
      exact fun p => p.elim
  · rename_i k _
    obtain ⟨_, rfl⟩ := o2
    cases e : lz o with
    | none => exact fun p => p.elim
    | some xs =>
      dsimp only
      by_cases hl : -(2 ^ 63) ≤ k ∧ k < 2 ^ 63 ∧ xs.length * k.toNat ≤ lineMax
      · rw [if_pos hl]
        obtain ⟨a, vs, rfl, h1, h2⟩ := o1.lz e
        exact fun p => .inr ⟨a, k, vs, rfl, rfl, h1, hl.1, hl.2.1, by rw [h2.length, ← line_eq]; exact hl.2.2, fun q hq => PostG.lst hz (h2.rep k.toNat) p hq⟩
      · rw [if_neg hl]
        exact fun p => p.elim
  · exact fun p => p.elim
/-! ### == and != -/
mutual
theorem eqD_eq : ∀ a b : PyData, eqD a b = PyData.eqv a b
  | .list xs, .list ys => by rw [eqD, PyData.eqv, eqDs_eq xs ys]
  | .tuple xs, .tuple ys => by rw [eqD, PyData.eqv, eqDs_eq xs ys]
  | .none, b => by cases b <;> simp [eqD, PyData.eqv]
  | .bool _, b => by cases b <;> simp [eqD, PyData.eqv]
  | .int _, b => by cases b <;> simp [eqD, PyData.eqv]
  | .str _, b => by cases b <;> simp [eqD, PyData.eqv]
  | .dict _, b => by cases b <;> simp [eqD, PyData.eqv]
  | .list _, .none => by simp [eqD, PyData.eqv]
  | .list _, .bool _ => by simp [eqD, PyData.eqv]
  | .list _, .int _ => by simp [eqD, PyData.eqv]
  | .list _, .str _ => by simp [eqD, PyData.eqv]
  | .list _, .tuple _ => by simp [eqD, PyData.eqv]
  | .list _, .dict _ => by simp [eqD, PyData.eqv]
  | .tuple _, .none => by simp [eqD, PyData.eqv]
  | .tuple _, .bool _ => by simp [eqD, PyData.eqv]
  | .tuple _, .int _ => by simp [eqD, PyData.eqv]
  | .tuple _, .str _ => by simp [eqD, PyData.eqv]
  | .tuple _, .list _ => by simp [eqD, PyData.eqv]
  | .tuple _, .dict _ => by simp [eqD, PyData.eqv]
theorem eqDs_eq : ∀ a b : List PyData, eqDs a b = PyData.eqvAll a b
  | [], [] => by rw [eqDs, PyData.eqvAll]
  | x :: xs, y :: ys => by rw [eqDs, PyData.eqvAll, eqD_eq x y, eqDs_eq xs ys]
  | [], _ :: _ => by rw [PyData.eqvAll, eqDs]; all_goals simp
  | _ :: _, [] => by rw [PyData.eqvAll, eqDs]; all_goals simp
end
end

mutual
theorem fine_lay : ∀ (n : Nat) (d : PyData), fine n d = true → d.canLay0 = true ∧ d.depth ≤ n
  | n, .none, h => ⟨by simp [PyData.canLay0], by simp [PyData.depth]⟩
  | n, .bool _, h => ⟨by simp [PyData.canLay0], by simp [PyData.depth]⟩
  | n, .int _, h => ⟨by simp [PyData.canLay0], by simp [PyData.depth]⟩
  | n, .str x, h => ⟨by
    have h : strFine x = true := by cases n <;> exact h
    rw [PyData.canLay0]
    exact h, by simp [PyData.depth]⟩
  | n + 1, .list xs, h => by
    obtain ⟨h1, h2⟩ := fines_lay n xs (by rw [fine] at h; exact h)
    exact ⟨by rw [PyData.canLay0]; exact h1, by rw [PyData.depth]; omega⟩
  | n + 1, .tuple xs, h => by
    obtain ⟨h1, h2⟩ := fines_lay n xs (by rw [fine] at h; exact h)
    exact ⟨by rw [PyData.canLay0]; exact h1, by rw [PyData.depth]; omega⟩
  | 0, .list xs, h => by simp [fine] at h
  | 0, .tuple xs, h => by simp [fine] at h
  | n, .dict _, h => by cases n <;> simp [fine] at h
theorem fines_lay : ∀ (n : Nat) (ds : List PyData), fines n ds = true → PyData.canLayAll0 ds = true ∧ PyData.depthAll ds ≤ n
  | n, [], h => ⟨by simp [PyData.canLayAll0], by simp [PyData.depthAll]⟩
  | n, x :: xs, h => by
    rw [fines, Bool.and_eq_true] at h
    obtain ⟨h1, h2⟩ := fine_lay n x h.1
    obtain ⟨h3, h4⟩ := fines_lay n xs h.2
    exact ⟨by rw [PyData.canLayAll0, h1, h3]; rfl, by rw [PyData.depthAll]; omega⟩
end
theorem fine_shaped {d : PyData} (h : fine 60 d = true) : SeqAt.shaped d = true := by
  obtain ⟨h1, h2⟩ := fine_lay 60 d h
  show (d.canLay0 && decide (d.depth ≤ 64)) = true
  rw [h1, Bool.true_and]
  exact decide_eq_true (by omega)
mutual
def dzN : O → Bool
  | .z _ => true
  | .l os => dzsN os
  | .t os => dzsN os
  | _ => false
def dzsN : List O → Bool
  | [] => true
  | o :: os => (!nS o || dzN o) && dzsN os
end
theorem fine_nS {o : O} (h : fine 60 (strip o) = true) : nS o = true ∨ ∃ ns, o = .s ns := by
  cases o with
  | s ns => exact .inr ⟨ns, rfl⟩
  | _ => exact .inl rfl
section
variable {X : Cx} {W : WX} {own : Prop} {e a b c : Expr} {f fa fb fc : EV} {pos : Pos} {K : PySem.W.Frag} {r r' : R2} {g g' : O → O → Res O} {H : Hp} {Z : Zs}
theorem ints_dp : ∀ ns : List Int, DpAll K H (ns.map V.int) (ns.map .int)
  | [] => .nil
  | n :: ns => .cons (.int n) (ints_dp ns)
mutual
theorem fine_dz : ∀ (n : Nat) (o : O), fine n (strip o) = true → nS o = true → dzN o = true
  | n, .z d, _, _ => by rw [dzN]
  | n, .l os, h, _ => by
    rw [strip] at h
    cases n with
    | zero => simp [fine] at h
    | succ n => rw [fine] at h; rw [dzN]; exact fines_dz n os h
  | n, .t os, h, _ => by
    rw [strip] at h
    cases n with
    | zero => simp [fine] at h
    | succ n => rw [fine] at h; rw [dzN]; exact fines_dz n os h
  | n, .dk _, h, _ => by rw [strip] at h; cases n <;> simp [fine] at h
  | n, .dt _, h, _ => by rw [strip] at h; cases n <;> simp [fine] at h
  | n, .s _, _, h => by cases h
theorem fines_dz : ∀ (n : Nat) (os : List O), fines n (strips os) = true → dzsN os = true
  | n, [], _ => rfl
  | n, o :: os, h => by
    rw [strips, fines, Bool.and_eq_true] at h
    rw [dzsN]
    cases hs : nS o with
    | true => rw [fine_dz n o h.1 hs, fines_dz n os h.2]; rfl
    | false => rw [fines_dz n os h.2]; simp
end
mutual
theorem Own.dpN : ∀ (o : O) (v : V) (fp : List Addr), dzN o = true → Own H Z K o v fp → Dp K H v (strip o)
  | .z d, v, fp, _, h => by rw [strip]; exact RZ.dp d v h.2
  | .l os, v, fp, n, h => by
    obtain ⟨a, vs, g, rfl, rfl, h1, h2⟩ := h
    rw [strip]
    exact .lst (SqL.of h1) (Owns.dpN os vs g (by rw [dzN] at n; exact n) h2)
  | .t os, v, fp, n, h => by
    obtain ⟨a, vs, rfl, h1, h2⟩ := h
    rw [strip]
    exact .tup h1 (Owns.dpN os vs fp (by rw [dzN] at n; exact n) h2)
  | .dk _, _, _, n, h => by simp [dzN] at n
  | .dt _, _, _, n, h => by simp [dzN] at n
  | .s ns, _, _, n, _ => by simp [dzN] at n
theorem Owns.dpN : ∀ (os : List O) (vs : List V) (fp : List Addr), dzsN os = true → Owns H Z K os vs fp → DpAll K H vs (strips os)
  | [], vs, fp, _, h => by rw [h.1]; exact .nil
  | o :: os, vs, fp, n, h => by
    obtain ⟨v, r, f, g, rfl, rfl, h1, h2, h3⟩ := h
    rw [dzsN, h3] at n
    rw [strips]
    simp at n
    exact .cons (Own.dpN o v f n.1 h1) (Owns.dpN os r g n.2 h2)
end
theorem Own.dpS {o : O} {v : V} {fp : List Addr} (h : Own H Z K o v fp) {n : Nat} (hf : fine n (strip o) = true) : Dp K H v (strip o) := by
  cases o with
  | s ns =>
    obtain ⟨_, a, rfl, q⟩ := h
    rw [strip]
    exact .lst q.sql (ints_dp ns)
  | _ => exact Own.dpN _ v fp (fine_dz n _ hf rfl) h
theorem strO_own {o : O} {v : V} {fp : List Addr} {x : Str} (h : Own H Z K o v fp) (e : strO o = some x) : v = .str x := by
  unfold strO at e
  split at e
  · cases e; exact h.2
  · cases e
def rEqU (K : PySem.W.Frag) : R2 := fun x y H Q => rEq x y H Q ∨ rEqD K x y H Q
def rNeU (K : PySem.W.Frag) : R2 := fun x y H Q => rNe x y H Q ∨ rNeD K x y H Q
theorem op_eqU (hu : X.A.units + 64 < cLine) : OpR X (compareOp .Eq) (rEqU X.K) := op_eq.or (op_eqD hu)
theorem op_neU (hu : X.A.units + 64 < cLine) : OpR X (compareOp .NotEq) (rNeU X.K) := op_ne.or (op_neD hu)
theorem str_beq (x y : Str) : (x == y) = decide (V.str x = V.str y) := by
  by_cases h : x = y
  · subst h; simp
  · have h2 : ¬ V.str x = V.str y := fun e => h (by cases e; rfl)
    simp [h, h2]
theorem bne_f (b : Bool) : (b != false) = b := by cases b <;> rfl
theorem bne_t (b : Bool) : (b != true) = !b := by cases b <;> rfl
theorem gr_eq : GR2 K (rEqU K) gEq := fun {H Z x y o p f1 f2} hz o1 o2 Q => by
  unfold gEq gEqB
  split
  · rename_i a b ea eb
    rw [strO_own o1 ea, strO_own o2 eb, bne_f, str_beq]
    exact fun q => .inl ⟨rfl, PostG.z hz rz_bl q⟩
  · by_cases h : fine 60 (strip o) = true ∧ fine 60 (strip p) = true
    · rw [if_pos h, bne_f]
      exact fun q => .inr ⟨_, _, o1.dpS h.1, o2.dpS h.2, fine_shaped h.1, fine_shaped h.2, by rw [← eqD_eq]; exact PostG.z hz rz_bl q⟩
    · rw [if_neg h]
      exact fun q => q.elim
theorem gr_ne : GR2 K (rNeU K) gNe := fun {H Z x y o p f1 f2} hz o1 o2 Q => by
  unfold gNe gEqB
  split
  · rename_i a b ea eb
    rw [strO_own o1 ea, strO_own o2 eb, bne_t, str_beq]
    exact fun q => .inl ⟨rfl, PostG.z hz rz_bl q⟩
  · by_cases h : fine 60 (strip o) = true ∧ fine 60 (strip p) = true
    · rw [if_pos h, bne_t]
      exact fun q => .inr ⟨_, _, o1.dpS h.1, o2.dpS h.2, fine_shaped h.1, fine_shaped h.2, by rw [← eqD_eq]; exact PostG.z hz rz_bl q⟩
    · rw [if_neg h]
      exact fun q => q.elim
end

section
variable {X : Cx} {W : WX} {own : Prop} {e a b c : Expr} {f fa fb fc : EV} {pos : Pos} {K : PySem.W.Frag} {r r' : R2} {g g' : O → O → Res O} {H : Hp} {Z : Zs}
theorem own_non {o : O} {v : V} {fp : List Addr} (h : Own H Z K o v fp) : decide (v = .non) = isNone o := by
  cases o with
  | z d =>
    obtain ⟨_, h⟩ := h
    cases d with
    | none => rw [show v = .non from h]; rfl
    | bool _ => rw [show v = .bl _ from h]; rfl
    | int _ => rw [show v = .int _ from h]; rfl
    | str _ => rw [show v = .str _ from h]; rfl
    | list _ => obtain ⟨a, vs, rfl, _⟩ := h; rfl
    | tuple _ => obtain ⟨a, vs, rfl, _⟩ := h; rfl
    | dict _ => exact h.elim
  | l _ => obtain ⟨a, vs, g, rfl, _⟩ := h; rfl
  | t _ => obtain ⟨a, vs, rfl, _⟩ := h; rfl
  | dk _ => obtain ⟨a, vs, g, rfl, _⟩ := h; rfl
  | dt _ => obtain ⟨a, vs, g, rfl, _⟩ := h; rfl
  | s _ => obtain ⟨_, a, rfl, _⟩ := h; rfl
  | x _ _ => obtain ⟨_, a, C, dx, y, rfl, _⟩ := h; rfl
theorem gr_is : GR2 K (fun x y H Q => y = .non ∧ Q (.bl (decide (x = .non))) H) gIs := fun {H Z x y o p f1 f2} hz o1 o2 Q => by
  unfold gIs
  split
  · obtain ⟨_, e⟩ := o2
    exact fun p => ⟨e, by rw [own_non o1]; exact PostG.z hz rz_bl p⟩
  · exact fun p => p.elim
theorem gr_isnt : GR2 K (fun x y H Q => y = .non ∧ Q (.bl (!decide (x = .non))) H) gIsnt := fun {H Z x y o p f1 f2} hz o1 o2 Q => by
  unfold gIsnt
  split
  · obtain ⟨_, e⟩ := o2
    exact fun p => ⟨e, by rw [own_non o1]; exact PostG.z hz rz_bl p⟩
  · exact fun p => p.elim
/-! ### order -/
theorem intsOf_eq : ∀ {ds : List PyData} {ns : List Int}, intsOf ds = some ns → ds = ns.map .int
  | [], ns, h => by cases h; rfl
  | .int i :: r, ns, h => by
    rw [intsOf] at h
    cases e : intsOf r with
    | none => rw [e] at h; cases h
    | some ms =>
      rw [e] at h
      cases h
      rw [intsOf_eq e]; rfl
  | .none :: _, _, h => by cases h
  | .bool _ :: _, _, h => by cases h
  | .str _ :: _, _, h => by cases h
  | .list _ :: _, _, h => by cases h
  | .tuple _ :: _, _, h => by cases h
  | .dict _ :: _, _, h => by cases h
theorem rzs_ints : ∀ {ns : List Int} {vs : List V}, RZs H Z K (ns.map .int) vs → vs = ns.map V.int
  | [], vs, h => h
  | n :: ns, vs, h => by
    obtain ⟨v, r, rfl, h1, h2⟩ := h
    rw [show v = .int n from h1, rzs_ints h2]; rfl
theorem Own.tI {o : O} {v : V} {fp : List Addr} {ns : List Int} (h : Own H Z K o v fp) (e : tI o = some ns) : ∃ a, v = .ref a ∧ SqT K H a (ns.map V.int) := by
  unfold U.tI at e
  cases q : U.tz o with
  | none => rw [q] at e; cases e
  | some ds =>
    rw [q] at e
    obtain ⟨a, vs, rfl, h1, h2⟩ := h.tz q
    rw [intsOf_eq e] at h2
    rw [rzs_ints h2] at h1
    exact ⟨a, rfl, h1⟩
theorem ltI_eq : ∀ a b : List Int, ltI a b = HT.lexLt a b
  | [], [] => rfl
  | [], _ :: _ => rfl
  | _ :: _, [] => rfl
  | x :: xs, y :: ys => by rw [ltI, HT.lexLt_cons, ltI_eq xs ys]
theorem lexAt_shift (e r : Nat → Bool) (z : Bool) : ∀ (k i : Nat), Ob.lexAt e r z (i + 1) k = Ob.lexAt (fun j => e (j + 1)) (fun j => r (j + 1)) z i k
  | 0, i => rfl
  | k + 1, i => by rw [Ob.lexAt_succ, Ob.lexAt_succ, lexAt_shift e r z k (i + 1)]
theorem leI_eq : ∀ ns ms : List Int, leI ns ms = Ob.lexAt (fun j => decide (ns.getD j 0 = ms.getD j 0)) (fun j => decide (ns.getD j 0 ≤ ms.getD j 0)) (decide (ns.length ≤ ms.length)) 0 (min ns.length ms.length)
  | [], ms => by simp [leI, Ob.lexAt_zero]
  | _ :: _, [] => by simp [leI, Ob.lexAt_zero]
  | x :: xs, y :: ys => by
    rw [leI, List.length_cons, List.length_cons, show min (xs.length + 1) (ys.length + 1) = min xs.length ys.length + 1 by omega, Ob.lexAt_succ, lexAt_shift]
    have e := leI_eq xs ys
    by_cases h : x = y
    · rw [if_pos h, if_pos (by simp [h]), e]
      simp
    · rw [if_neg h, if_neg (by simp [h])]
      simp
def rOrd (K : PySem.W.Frag) (p : Int → Int → Bool) (q : List Int → List Int → Bool) : R2 := fun x y H Q => rI0 (fun i j => .bl (p i j)) x y H Q ∨ ∃ a b ns ms, x = .ref a ∧ y = .ref b ∧ SqT K H a (ns.map V.int) ∧ SqT K H b (ms.map V.int) ∧ Q (.bl (q ns ms)) H
theorem op_ltU (hu : X.A.units < cLine) : OpR X (compareOp .Lt) (rOrd X.K (fun i j => decide (i < j)) ltI) := op_lt.or (by
  intro pins s σ H x y v u Q I rx ry ⟨a, b, ns, ms, h1, h2, h3, h4, q⟩
  exact op_ltT hu pins s σ H x y v u Q I rx ry ⟨a, b, ns, ms, h1, h2, h3, h4, by rw [← ltI_eq]; exact q⟩)
theorem op_leU (hu : X.A.units < cLine) : OpR X (compareOp .LtE) (rOrd X.K (fun i j => decide (i ≤ j)) leI) := op_le.or (by
  intro pins s σ H x y v u Q I rx ry ⟨a, b, ns, ms, h1, h2, h3, h4, q⟩
  exact op_leT hu pins s σ H x y v u Q I rx ry ⟨a, b, ns, ms, h1, h2, h3, h4, by rw [← leI_eq]; exact q⟩)
theorem gr_ord {p : Int → Int → Bool} {q : List Int → List Int → Bool} : GR2 K (rOrd K p q) (gOrd p q) := fun {H Z x y o p' f1 f2} hz o1 o2 Q => by
  unfold gOrd
  split
  · obtain ⟨_, rfl⟩ := o1
    obtain ⟨_, rfl⟩ := o2
    exact fun p => .inl ⟨_, _, rfl, rfl, PostG.z hz rz_bl p⟩
  · cases e : U.tI o with
    | none => exact fun p => p.elim
    | some xs =>
      cases e' : U.tI p' with
      | none => exact fun p => p.elim
      | some ys =>
        obtain ⟨a, rfl, h1⟩ := o1.tI e
        obtain ⟨b, rfl, h2⟩ := o2.tI e'
        exact fun p => .inr ⟨a, b, xs, ys, rfl, rfl, h1, h2, PostG.z hz rz_bl p⟩
theorem gr_IB {k : Int → Int → Bool} : GR2 K (rI0 fun i j => .bl (k i j)) (gI fun i j => .ok (.bool (k i j))) := fun {H Z x y o p f1 f2} hz o1 o2 Q => by
  unfold gI
  split
  · obtain ⟨_, rfl⟩ := o1
    obtain ⟨_, rfl⟩ := o2
    exact fun p => ⟨_, _, rfl, rfl, PostG.z hz rz_bl p⟩
  · exact fun p => p.elim
end

section
variable {X : Cx} {W : WX} {own : Prop} {e a b c : Expr} {f fa fb fc : EV} {pos : Pos} {K : PySem.W.Frag} {r r' : R2} {g g' : O → O → Res O} {H : Hp} {Z : Zs} {ta tb : EB}
/-! ### in -/
theorem xf (b : Bool) : (b != false) = b := by cases b <;> rfl
theorem xt (b : Bool) : (b != true) = !b := by cases b <;> rfl
theorem Own.lzS {o : O} {v : V} {fp : List Addr} {ds : List PyData} (h : Own H Z K o v fp) (e : U.lz o = some ds) : Dp K H v (.list ds) := by
  obtain ⟨a, vs, rfl, h1, h2⟩ := h.lz e
  exact .lst (SqL.of h1) (RZs.dp ds vs h2)
theorem flat_rz : ∀ {d : PyData} {v : V}, flat d = true → RZ H Z K d v → flatV v = true
  | .none, v, _, h => by rw [show v = .non from h]; rfl
  | .bool _, v, _, h => by rw [show v = .bl _ from h]; rfl
  | .int _, v, _, h => by rw [show v = .int _ from h]; rfl
  | .str _, v, _, h => by rw [show v = .str _ from h]; rfl
  | .list _, _, e, _ => by cases e
  | .tuple _, _, e, _ => by cases e
  | .dict _, _, e, _ => by cases e
theorem flat_rzs : ∀ {ds : List PyData} {vs : List V}, ds.all flat = true → RZs H Z K ds vs → vs.all flatV = true
  | [], vs, _, h => by rw [show vs = [] from h]; rfl
  | d :: ds, vs, e, h => by
    obtain ⟨v, r, rfl, h1, h2⟩ := h
    rw [List.all_cons, Bool.and_eq_true] at e
    rw [List.all_cons, flat_rz e.1 h1, flat_rzs e.2 h2]; rfl
theorem eqV_eq : ∀ {d e : PyData} {v w : V}, flat d = true → flat e = true → RZ H Z K d v → RZ H Z K e w → eqV v w = eqD d e := by
  intro d e v w hd he h1 h2
  cases d <;> cases e <;> first
    | (cases hd; done)
    | (cases he; done)
    | (rw [show v = _ from h1, show w = _ from h2]; simp [eqV, eqD])
theorem inV_eq {d : PyData} {v : V} (hd : flat d = true) (h : RZ H Z K d v) : ∀ {ds : List PyData} {vs : List V}, ds.all flat = true → RZs H Z K ds vs → inV v vs = inD d ds
  | [], vs, _, hv => by rw [show vs = [] from hv]; rfl
  | d' :: ds, vs, e, hv => by
    obtain ⟨v', r, rfl, h1, h2⟩ := hv
    rw [List.all_cons, Bool.and_eq_true] at e
    have ih := inV_eq hd h e.2 h2
    unfold inV at ih ⊢
    unfold inD at ih ⊢
    rw [List.any_cons, List.any_cons, ih, eqV_eq e.1 hd h1 h]
theorem own_flat {o : O} {v : V} {fp : List Addr} (h : Own H Z K o v fp) (e : flat (strip o) = true) : RZ H Z K (strip o) v := by
  cases o with
  | z d => rw [strip_z]; exact h.2
  | l _ => rw [strip_l] at e; cases e
  | t _ => rw [strip_t] at e; cases e
  | dk _ => rw [strip] at e; cases e
  | dt _ => rw [strip] at e; cases e
  | s _ => rw [strip] at e; cases e
  | x _ _ => rw [strip] at e; cases e
def rMem (K : PySem.W.Frag) (neg : Bool) : R2 := fun x y H Q => (∃ d ds, Dp K H x d ∧ Dp K H y (.list ds) ∧ SeqAt.shaped d = true ∧ SeqAt.shaped (.list ds) = true ∧ Q (.bl ((ds.any fun z => PyData.eqv z d) != neg)) H) ∨ rIn K neg x y H Q
theorem op_memU (hu : X.A.units + 65 < cLine) : OpR X (compareOp .In) (rMem X.K false) := by
  intro pins s σ H x y v u Q I rx ry h
  rcases h with ⟨d, ds, h1, h2, h3, h4, q⟩ | h
  · exact op_inD hu pins s σ H x y v u Q I rx ry ⟨d, ds, h1, h2, h3, h4, by rw [xf] at q; exact q⟩
  · exact op_in_seq pins s σ H x y v u Q I rx ry h
theorem op_nmemU (hu : X.A.units + 65 < cLine) : OpR X (compareOp .NotIn) (rMem X.K true) := by
  intro pins s σ H x y v u Q I rx ry h
  rcases h with ⟨d, ds, h1, h2, h3, h4, q⟩ | h
  · exact op_notInD hu pins s σ H x y v u Q I rx ry ⟨d, ds, h1, h2, h3, h4, by rw [xt] at q; exact q⟩
  · exact op_notIn_seq pins s σ H x y v u Q I rx ry h
theorem gr_mem {neg : Bool} : GR2 K (rMem K neg) (gMem neg) := fun {H Z x y o p f1 f2} hz o1 o2 Q => by
  unfold gMem
  cases e : lz p with
  | some ds =>
    dsimp only
    by_cases h : fine 60 (strip o) = true ∧ fine 60 (.list ds) = true
    · rw [if_pos h]
      refine fun q => .inl ⟨_, ds, o1.dpS h.1, o2.lzS e, fine_shaped h.1, fine_shaped h.2, ?_⟩
      have e2 : (ds.any fun z => PyData.eqv z (strip o)) = inD (strip o) ds := by
        unfold inD
        congr 1
        funext z
        rw [eqD_eq]
      rw [e2]
      exact PostG.z hz rz_bl q
    · rw [if_neg h]
      exact fun q => q.elim
  | none =>
    dsimp only
    cases e' : tz p with
    | none => exact fun q => q.elim
    | some ds =>
      dsimp only
      by_cases h : flat (strip o) = true ∧ ds.all flat = true
      · rw [if_pos h]
        obtain ⟨t, vs, rfl, h1, h2⟩ := o2.tz e'
        have hx := own_flat o1 h.1
        refine fun q => .inr ⟨t, vs, rfl, .inr h1, flat_rz h.1 hx, flat_rzs h.2 h2, ?_⟩
        rw [inV_eq h.1 hx h.2 h2]
        cases neg with
        | false => rw [xf] at q; exact PostG.z hz rz_bl q
        | true => rw [xt] at q; exact PostG.z hz rz_bl q
      · rw [if_neg h]
        exact fun q => q.elim
/-! ### one-place operations -/
theorem pu_1 {r : V → Hp → VK → Prop} {g : O → Res O} {t : TE → TE} (ht : ∀ ta, PE X a ta → PE X e (t ta)) (hq : ∀ ta σ H Q, t ta σ H Q = tUn r ta σ H Q) (G : GR1 X.K r g) (ha : PuB X W a fa) : PuE X W e (e1 g fa) := by
  obtain ⟨ta, pa, qa⟩ := ha.ex
  refine ⟨t ta, ht _ pa, fun {H0 Z0 H Z σ ρ} S Q p => ?_⟩
  rw [hq]
  refine qa S _ ?_
  revert p
  unfold e1 PostE
  cases fa ρ with
  | bad => exact fun p => p
  | err cn d => exact fun p => p
  | ok o =>
    intro p v1 H1 Z1 g1 e1 o1 _
    refine G e1.zd o1 Q ?_
    revert p
    show PostE X W True σ H Z (g o).nox Q → PostG H1 Z1 X.K (g o) Q
    cases g o with
    | ok q => exact fun p v3 H3 Z3 g3 e3 o3 n3 => p v3 H3 Z3 g3 (e1.trans e3) o3 fun _ => n3.grow e1
    | err _ _ => exact fun p => p
    | bad => exact fun p => p
theorem gr_neg : GR1 K (rU fun i => .int (-i)) gNeg := fun {H Z x o f1} hz o1 Q => by
  unfold gNeg
  split
  · obtain ⟨_, rfl⟩ := o1
    exact fun p => ⟨_, rfl, PostG.z hz rz_int p⟩
  · exact fun p => p.elim
theorem pu_neg (ha : PuB X W a fa) : PuE X W (.UnaryOp .USub a pos) (e1 gNeg fa) := pu_1 (t := tUn (rU fun i => .int (-i))) (fun _ => pe_un un_neg) (fun _ _ _ _ => rfl) gr_neg ha
/-! ### chains -/
theorem sat_ch {ta tb tc : TE} (qa : Sat X W False ta fa) (qb : Sat X W False tb fb) (qc : Sat X W False tc fc) (G : GR2 X.K r g) (G' : GR2 X.K r' g') : Sat X W True (tChain r r' ta tb tc) (eCh g g' fa fb fc) := by
  intro H0 Z0 H Z σ ρ S Q p
  unfold tChain
  refine qa S _ ?_
  revert p
  unfold eCh PostE
  cases fa ρ with
  | bad => exact fun p => p
  | err cn d => exact fun p => p
  | ok o =>
    intro p v1 H1 Z1 g1 e1 o1 _
    refine qb (S.grow e1) _ ?_
    revert p
    rw [Res.bind_ok]
    unfold PostE
    cases fb ρ with
    | bad => exact fun p => p
    | err cn d => exact fun p => ErrP.grow p e1
    | ok o' =>
      intro p v2 H2 Z2 g2 e2 o2 _
      refine G e2.zd (o1.ext e2) o2 _ ?_
      revert p
      rw [Res.bind_ok]
      cases g o o' with
      | bad => exact fun p => p
      | err _ _ => exact fun p => p
      | ok q =>
        intro p v3 H3 Z3 g3 e3 o3 n3
        revert p
        rw [Res.nox_ok, Res.bind_ok]
        cases q with
        | z d =>
          cases d with
          | bool k =>
            obtain ⟨_, rfl⟩ := o3
            cases k with
            | true =>
              refine fun p => ⟨true, rfl, ?_⟩
              rw [if_pos rfl]
              refine qc (((S.grow e1).grow e2).grow e3) _ ?_
              revert p
              unfold PostE
              cases fc ρ with
              | bad => exact fun p => p
              | err cn d => exact fun p => ErrP.grow p ((e1.trans e2).trans e3)
              | ok o4 =>
                intro p v4 H4 Z4 g4 e4 o4' _
                refine G' e4.zd (o2.ext (e3.trans e4)) o4' Q ?_
                revert p
                rw [Res.bind_ok]
                cases g' o' o4 with
                | ok q5 => exact fun p v5 H5 Z5 g5 e5 o5 n5 => p v5 H5 Z5 g5 ((((e1.trans e2).trans e3).trans e4).trans e5) o5 fun _ => n5.grow (((e1.trans e2).trans e3).trans e4)
                | err _ _ => exact fun p => p
                | bad => exact fun p => p
            | false =>
              refine fun p => ⟨false, rfl, ?_⟩
              rw [if_neg Bool.false_ne_true]
              exact p (.bl false) H3 Z3 [] ((e1.trans e2).trans e3) ⟨rfl, rfl⟩ fun _ => New.nil
          | _ => exact fun p => p.elim
        | _ => exact fun p => p.elim
theorem pu_ch {op op' : CmpOp} (ho : OpR X (compareOp op) r) (ho' : OpR X (compareOp op') r') (G : GR2 X.K r g) (G' : GR2 X.K r' g') (hm : lastMarks [op, op'] [b, c] = false) (ha : PuB X W a fa) (hb : PuB X W b fb) (hc : PuB X W c fc) :
    PuE X W (.Compare a [op, op'] [b, c] pos) (eCh g g' fa fb fc) := by
  obtain ⟨ta, pa, qa⟩ := ha.ex
  obtain ⟨tb, pb, qb⟩ := hb.ex
  obtain ⟨tc, pc, qc⟩ := hc.ex
  exact ⟨_, pe_chain ho ho' pa pb pc hm, sat_ch qa qb qc G G'⟩
theorem pt_ch {op op' : CmpOp} (ho : OpR X (compareOp op) r) (ho' : OpR X (compareOp op') r') (G : GR2 X.K r g) (G' : GR2 X.K r' g') (hm : lastMarks [op, op'] [b, c] = false) (ha : PuB X W a fa) (hb : PuB X W b fb) (hc : PuB X W c fc) :
    PuT X W (.Compare a [op, op'] [b, c] pos) (U.tB (eCh g g' fa fb fc)) := by
  obtain ⟨ta, pa, qa⟩ := ha.ex
  obtain ⟨tb, pb, qb⟩ := hb.ex
  obtain ⟨tc, pc, qc⟩ := hc.ex
  exact ⟨_, pt_chain ho ho' pa pb pc hm, sat_t (sat_ch qa qb qc G G')⟩
/-! ### truth -/
theorem own_true {o : O} {v : V} {fp : List Addr} {k : Bool} (h : Own H Z K o v fp) (e : truth o = .ok k) : TruV K v H k := by
  cases o with
  | z d =>
    obtain ⟨_, h⟩ := h
    cases d with
    | none => rw [show v = .non from h]; cases e; rfl
    | bool b => rw [show v = .bl b from h]; cases e; rfl
    | int i => rw [show v = .int i from h]; cases e; rfl
    | str _ => cases e
    | list ds =>
      obtain ⟨a, vs, rfl, _, h1, h2⟩ := h
      cases e
      refine .inl ⟨vs, SqL.of h1, ?_⟩
      cases ds with
      | nil => rw [show vs = [] from h2]; rfl
      | cons d ds => obtain ⟨_, _, rfl, _⟩ := h2; rfl
    | tuple ds =>
      obtain ⟨a, vs, rfl, h1, h2⟩ := h
      cases e
      refine .inr (.inl ⟨vs, h1, ?_⟩)
      cases ds with
      | nil => rw [show vs = [] from h2]; rfl
      | cons d ds => obtain ⟨_, _, rfl, _⟩ := h2; rfl
    | dict _ => exact h.elim
  | l os =>
    obtain ⟨a, vs, g, rfl, rfl, h1, h2⟩ := h
    cases e
    refine .inl ⟨vs, SqL.of h1, ?_⟩
    cases os with
    | nil => rw [h2.1]; rfl
    | cons o os => obtain ⟨_, _, _, _, rfl, _⟩ := h2; rfl
  | t os =>
    obtain ⟨a, vs, rfl, h1, h2⟩ := h
    cases e
    refine .inr (.inl ⟨vs, h1, ?_⟩)
    cases os with
    | nil => rw [h2.1]; rfl
    | cons o os => obtain ⟨_, _, _, _, rfl, _⟩ := h2; rfl
  | dk _ => cases e
  | dt _ => cases e
  | s _ => cases e
  | x _ _ => cases e
theorem truth_noerr {o : O} {cn : Str} {d : PyData} : truth o ≠ .err cn d := by
  intro h
  cases o with
  | z d => cases d <;> cases h
  | _ => cases h
theorem pt_v (he : ∀ whole, isTrue a X.env whole = (do let v ← whole; standAt a.pos; holding [v] (truthy v))) (ha : PX X W own a fa) : PuT X W a (tV fa) := by
  obtain ⟨t, pa, qa⟩ := ha.ex
  refine ⟨_, pt_truth pa he, ?_⟩
  intro H0 Z0 H Z σ ρ S Q p
  refine qa S _ ?_
  revert p
  unfold tV PostE PostT
  cases fa ρ with
  | bad => exact fun p => p
  | err cn d => exact fun p => p
  | ok o =>
    rw [Res.bind_ok]
    cases e : truth o with
    | bad => exact fun p => p.elim
    | err _ _ => exact absurd e truth_noerr
    | ok k => exact fun p v H' Z' g e1 o1 _ => ⟨k, own_true o1 e, p H' Z' e1⟩
section
variable {rest : List Expr} {tb' : EB}
theorem pw_and1' (ha : PuT X W a ta) : ∃ t, PW X (.BoolOp .And [a] pos) t ∧ SatT X W t ta := by
  obtain ⟨t, p, q⟩ := ha.ex
  exact ⟨t, pw_and1 p, q⟩
theorem pw_or1' (ha : PuT X W a ta) : ∃ t, PW X (.BoolOp .Or [a] pos) t ∧ SatT X W t ta := by
  obtain ⟨t, p, q⟩ := ha.ex
  exact ⟨t, pw_or1 p, q⟩
theorem pw_and' (ha : PuT X W a ta) (hb : ∃ t, PW X (.BoolOp .And (b :: rest) pos) t ∧ SatT X W t tb') : ∃ t, PW X (.BoolOp .And (a :: b :: rest) pos) t ∧ SatT X W t (U.tAnd ta tb') := by
  obtain ⟨t, p, q⟩ := ha.ex
  obtain ⟨u, p', q'⟩ := hb
  refine ⟨_, pw_and p p', ?_⟩
  intro H0 Z0 H Z σ ρ S Q h
  unfold L2.tAnd
  refine q S _ ?_
  revert h
  unfold U.tAnd PostT
  cases ta ρ with
  | bad => exact fun p => p
  | err cn d => exact fun p => p
  | ok k =>
    cases k with
    | true =>
      intro h H' Z' e
      rw [if_pos rfl]
      refine q' (S.grow e) Q ?_
      revert h
      rw [Res.bind_ok, if_pos rfl]
      unfold PostT
      cases tb' ρ with
      | bad => exact fun p => p
      | err cn d => exact fun p => ErrP.grow p e
      | ok k => exact fun p H2 Z2 e2 => p H2 Z2 (e.trans e2)
    | false =>
      intro h H' Z' e
      rw [if_neg Bool.false_ne_true]
      exact h H' Z' e
theorem pw_or' (ha : PuT X W a ta) (hb : ∃ t, PW X (.BoolOp .Or (b :: rest) pos) t ∧ SatT X W t tb') : ∃ t, PW X (.BoolOp .Or (a :: b :: rest) pos) t ∧ SatT X W t (U.tOr ta tb') := by
  obtain ⟨t, p, q⟩ := ha.ex
  obtain ⟨u, p', q'⟩ := hb
  refine ⟨_, pw_or p p', ?_⟩
  intro H0 Z0 H Z σ ρ S Q h
  unfold L2.tOr
  refine q S _ ?_
  revert h
  unfold U.tOr PostT
  cases ta ρ with
  | bad => exact fun p => p
  | err cn d => exact fun p => p
  | ok k =>
    cases k with
    | false =>
      intro h H' Z' e
      rw [if_neg Bool.false_ne_true]
      refine q' (S.grow e) Q ?_
      revert h
      rw [Res.bind_ok, if_neg Bool.false_ne_true]
      unfold PostT
      cases tb' ρ with
      | bad => exact fun p => p
      | err cn d => exact fun p => ErrP.grow p e
      | ok k => exact fun p H2 Z2 e2 => p H2 Z2 (e.trans e2)
    | true =>
      intro h H' Z' e
      rw [if_pos rfl]
      exact h H' Z' e
theorem pt_w (h : ∃ t, PW X e t ∧ SatT X W t ta) : PuT X W e ta := by
  obtain ⟨t, p, q⟩ := h
  exact ⟨t, p.pt, q⟩
theorem pt_not' (ha : PuT X W a ta) : PuT X W (.UnaryOp .Not a pos) (U.tNot ta) := by
  obtain ⟨t, p, q⟩ := ha.ex
  refine ⟨_, pt_not p, ?_⟩
  intro H0 Z0 H Z σ ρ S Q h
  unfold L2.tNot
  refine q S _ ?_
  revert h
  unfold U.tNot PostT
  cases ta ρ with
  | bad => exact fun p => p
  | err cn d => exact fun p => p
  | ok k => exact fun h H' Z' e => h H' Z' e
end
end

/-! ### values by truth -/
section
variable {X : Cx} {W : WX} {own : Prop} {e a b c : Expr} {f fa fb fc : EV} {pos : Pos} {K : PySem.W.Frag} {r r' : R2} {g g' : O → O → Res O} {H : Hp} {Z : Zs} {ta tb : EB} {rest : List Expr}
theorem PostE.grow {H H' : Hp} {Z Z' : Zs} {σ : St} {r : Res O} {Q : VK} (p : PostE X W own σ H Z r Q) (e : Ext H Z H' Z') : PostE X W own σ H' Z' r Q := by
  revert p
  unfold PostE
  cases r with
  | bad => exact id
  | err cn d => exact fun p => ErrP.grow p e
  | ok o => exact fun p v H2 Z2 g e2 o2 n2 => p v H2 Z2 g (e.trans e2) o2 fun h => (n2 h).grow e
theorem pu_one {op : BoolOp} (ha : PX X W own a fa) : PX X W own (.BoolOp op [a] pos) fa := by
  obtain ⟨t, p, q⟩ := ha.ex
  exact ⟨t, pe_one p, q⟩
theorem pu_and (ha : PX X W own a fa) (hb : PX X W own (.BoolOp .And (b :: rest) pos) fb) : PX X W own (.BoolOp .And (a :: b :: rest) pos) (eAnd fa fb) := by
  obtain ⟨t, p, q⟩ := ha.ex
  obtain ⟨u, p', q'⟩ := hb.ex
  refine ⟨_, pe_andT p p', ?_⟩
  intro H0 Z0 H Z σ ρ S Q h
  unfold tAndT
  refine q S _ ?_
  revert h
  unfold eAnd PostE
  cases fa ρ with
  | bad => exact id
  | err cn d => exact id
  | ok o =>
    rw [Res.bind_ok]
    cases et : truth o with
    | bad => exact fun h => h.elim
    | err _ _ => exact absurd et truth_noerr
    | ok k =>
      intro h v H1 Z1 g1 e1 o1 n1
      refine ⟨k, own_true o1 et, ?_⟩
      rw [Res.bind_ok] at h
      cases k with
      | true =>
        rw [if_pos rfl] at h ⊢
        exact q' (S.grow e1) Q (PostE.grow h e1)
      | false =>
        rw [if_neg Bool.false_ne_true] at h ⊢
        exact h v H1 Z1 g1 e1 o1 n1
theorem pu_or (ha : PX X W own a fa) (hb : PX X W own (.BoolOp .Or (b :: rest) pos) fb) : PX X W own (.BoolOp .Or (a :: b :: rest) pos) (eOr fa fb) := by
  obtain ⟨t, p, q⟩ := ha.ex
  obtain ⟨u, p', q'⟩ := hb.ex
  refine ⟨_, pe_orT p p', ?_⟩
  intro H0 Z0 H Z σ ρ S Q h
  unfold tOrT
  refine q S _ ?_
  revert h
  unfold eOr PostE
  cases fa ρ with
  | bad => exact id
  | err cn d => exact id
  | ok o =>
    rw [Res.bind_ok]
    cases et : truth o with
    | bad => exact fun h => h.elim
    | err _ _ => exact absurd et truth_noerr
    | ok k =>
      intro h v H1 Z1 g1 e1 o1 n1
      refine ⟨k, own_true o1 et, ?_⟩
      rw [Res.bind_ok] at h
      cases k with
      | false =>
        rw [if_neg Bool.false_ne_true] at h ⊢
        exact q' (S.grow e1) Q (PostE.grow h e1)
      | true =>
        rw [if_pos rfl] at h ⊢
        exact h v H1 Z1 g1 e1 o1 n1
theorem pu_not (ha : PX X W own a fa) : PuE X W (.UnaryOp .Not a pos) (eNot fa) := by
  obtain ⟨t, p, q⟩ := ha.ex
  refine ⟨_, pe_notT p, ?_⟩
  intro H0 Z0 H Z σ ρ S Q h
  unfold tNotT
  refine q S _ ?_
  revert h
  unfold eNot PostE
  cases fa ρ with
  | bad => exact id
  | err cn d => exact id
  | ok o =>
    rw [Res.bind_ok]
    cases et : truth o with
    | bad => exact fun h => h.elim
    | err _ _ => exact absurd et truth_noerr
    | ok k =>
      exact fun h v H1 Z1 g1 e1 o1 n1 => ⟨k, own_true o1 et, h _ H1 Z1 [] e1 ⟨rfl, rfl⟩ fun _ => New.nil⟩
theorem pu_if (hc : PuT X W c ta) (ha : PX X W own a fa) (hb : PX X W own b fb) : PX X W own (.IfExp c a b pos) (eIf ta fa fb) := by
  obtain ⟨tc, pc, qc⟩ := hc.ex
  obtain ⟨t, p, q⟩ := ha.ex
  obtain ⟨u, p', q'⟩ := hb.ex
  refine ⟨_, pe_ifExp pc p p', ?_⟩
  intro H0 Z0 H Z σ ρ S Q h
  unfold tIf
  refine qc S _ ?_
  revert h
  unfold eIf PostT
  cases ta ρ with
  | bad => exact id
  | err cn d => exact id
  | ok k =>
    intro h H1 Z1 e1
    rw [Res.bind_ok] at h
    cases k with
    | true =>
      rw [if_pos rfl] at h ⊢
      exact q (S.grow e1) Q (PostE.grow h e1)
    | false =>
      rw [if_neg Bool.false_ne_true] at h ⊢
      exact q' (S.grow e1) Q (PostE.grow h e1)
/-! ### arguments, displays -/
variable {es : List Expr} {fs : EA}
theorem OwnA.ext {H H' : Hp} {Z Z' : Zs} (e : Ext H Z H' Z') : ∀ {os : List O} {vs : List V} {fp : List Addr}, OwnA H Z K os vs fp → OwnA H' Z' K os vs fp
  | [], vs, fp, h => h
  | o :: os, vs, fp, h => by
    obtain ⟨v, r, f, g, rfl, rfl, h1, h2⟩ := h
    exact ⟨v, r, f, g, rfl, rfl, h1.ext e, OwnA.ext e h2⟩
theorem OwnA.owns : ∀ {os : List O} {vs : List V} {fp : List Addr}, os.all nS = true → OwnA H Z K os vs fp → Owns H Z K os vs fp
  | [], vs, fp, _, h => h
  | o :: os, vs, fp, n, h => by
    rw [List.all_cons, Bool.and_eq_true] at n
    obtain ⟨v, r, f, g, rfl, rfl, h1, h2⟩ := h
    exact ⟨v, r, f, g, rfl, rfl, h1, OwnA.owns n.2 h2, n.1⟩
theorem OwnA.len : ∀ {os : List O} {vs : List V} {fp : List Addr}, OwnA H Z K os vs fp → vs.length = os.length
  | [], vs, fp, h => by rw [h.1]; rfl
  | o :: os, vs, fp, h => by
    obtain ⟨v, r, f, g, rfl, rfl, h1, h2⟩ := h
    rw [List.length_cons, List.length_cons, OwnA.len h2]
theorem OwnA.ne : ∀ {os : List O} {vs : List V} {fp : List Addr}, OwnA H Z K os vs fp → ∀ a ∈ fp, H a ≠ none
  | [], vs, fp, h, a, ha => by rw [h.2] at ha; cases ha
  | o :: os, vs, fp, h, a, ha => by
    obtain ⟨v, r, f, g, rfl, rfl, h1, h2⟩ := h
    rcases List.mem_append.mp ha with ha | ha
    · exact h1.ne ha
    · exact OwnA.ne h2 a ha
theorem pa_nil' : PAX X W own [] aNil := ⟨fun ρ os h => by cases h; rfl, _, pa_nil, fun S Q p => p [] _ _ [] (Ext.refl S.ext.zd) ⟨rfl, rfl⟩ fun _ => New.nil⟩
theorem pa_cons' (ha : PX X W own e f) (hs : PAX X W own es fs) (he : starEach (e :: es) X.env = (false, eval e X.env) :: starEach es X.env) : PAX X W own (e :: es) (aCons f fs) := by
  obtain ⟨t, p, q⟩ := ha.ex
  obtain ⟨u, p', q'⟩ := hs.ex
  refine ⟨fun ρ os h => ?_, _, pa_cons p p' he, ?_⟩
  · unfold aCons at h
    cases ef : f ρ with
    | bad => rw [ef] at h; cases h
    | err _ _ => rw [ef] at h; cases h
    | ok o =>
      rw [ef, Res.bind_ok] at h
      cases eg : fs ρ with
      | bad => rw [eg] at h; cases h
      | err _ _ => rw [eg] at h; cases h
      | ok r =>
        rw [eg] at h
        cases h
        rw [List.length_cons, List.length_cons, hs.len ρ r eg]
  intro H0 Z0 H Z σ ρ S Q h
  unfold tCons
  refine q S _ ?_
  revert h
  unfold aCons PostA PostE
  cases f ρ with
  | bad => exact id
  | err cn d => exact id
  | ok o =>
    intro h v1 H1 Z1 g1 e1 o1 n1
    refine q' (S.grow e1) _ ?_
    revert h
    rw [Res.bind_ok]
    unfold PostA
    cases fs ρ with
    | bad => exact id
    | err cn d => exact fun h => ErrP.grow h e1
    | ok os =>
      intro h vs H2 Z2 g2 e2 o2 n2
      refine h (v1 :: vs) H2 Z2 (g1 ++ g2) (e1.trans e2) ⟨v1, vs, g1, g2, rfl, rfl, o1.ext e2, o2⟩ fun ho => ?_
      have m1 := (n1 ho).later (K := X.K) (fun a ha => o1.ne ha) e2
      exact m1.app (fun a ha => o1.ne ha) (n2 ho) fun a ha => e1.back ha
end

section
variable {X : Cx} {W : WX} {own : Prop} {e a b c : Expr} {f fa fb fc : EV} {pos : Pos} {K : PySem.W.Frag} {r r' : R2} {g g' : O → O → Res O} {H : Hp} {Z : Zs} {ta tb : EB} {rest es : List Expr} {fs : EA}
theorem pu_lst (ha : PuA X W es fs) : PuE X W (.List es pos) (eLst fs) := by
  obtain ⟨t, p, q⟩ := ha.ex
  refine ⟨_, pe_lst p, ?_⟩
  intro H0 Z0 H Z σ ρ S Q h
  unfold tLst
  refine q S _ ?_
  revert h
  unfold eLst PostA PostE
  cases fs ρ with
  | bad => exact id
  | err cn d => exact id
  | ok os =>
    rw [Res.bind_ok]
    by_cases hc : os.length ≤ lineMax ∧ os.all nS = true
    · rw [if_pos hc]
      intro h vs H1 Z1 g1 e1 o1 n1
      refine ⟨by rw [o1.len, ← line_eq]; exact hc.1, fun q hq => ?_⟩
      have e2 := Ext.new (Z := Z1) (o := .lst vs) e1.zd hq
      refine h (.ref q) _ Z1 (q :: g1) (e1.trans e2) ⟨q, vs, g1, rfl, rfl, upd_same, Owns.ext e2 (OwnA.owns hc.2 o1)⟩ fun _ => ?_
      have m := n1 trivial
      refine ⟨List.nodup_cons.mpr ⟨fun z => OwnA.ne o1 q z hq, m.1⟩, fun a ha => ?_⟩
      rcases List.mem_cons.mp ha with z | ha
      · subst z
        exact ⟨fun z => e1.zd _ z hq, e1.back hq⟩
      · exact m.2 a ha
    · rw [if_neg hc]
      exact fun h => h.elim
theorem mkT_own {os : List O} {a : Addr} {vs : List V} {g : List Addr} (h : SqT K H a vs) (ho : Owns H Z K os vs g) : Own H Z K (mkT os) (.ref a) g := by
  unfold mkT
  cases e : allZ os with
  | none => exact ⟨a, vs, rfl, h, ho⟩
  | some ds =>
    rw [allZ_eq e] at ho
    obtain ⟨e1, e2⟩ := ho.allz
    exact ⟨e1, a, vs, rfl, h, e2⟩
theorem pu_tup {k : Nat} (ha : PAX X W own es fs) : PX X W own (.Tuple es k pos) (eTup fs) := by
  obtain ⟨t, p, q⟩ := ha.ex
  refine ⟨_, pe_tup p, ?_⟩
  intro H0 Z0 H Z σ ρ S Q h
  unfold tTup
  refine q S _ ?_
  revert h
  unfold eTup PostA PostE
  cases fs ρ with
  | bad => exact id
  | err cn d => exact id
  | ok os =>
    rw [Res.bind_ok]
    by_cases hc : os.length ≤ lineMax ∧ os.all nS = true
    · rw [if_pos hc]
      intro h vs H1 Z1 g1 e1 o1 n1
      refine ⟨by rw [o1.len, ← line_eq]; exact hc.1, fun q hq => ?_⟩
      have e2 := Ext.new (Z := Z1) (o := .tup vs) e1.zd hq
      exact h (.ref q) _ Z1 g1 (e1.trans e2) (mkT_own (SqT.of upd_same) (Owns.ext e2 (OwnA.owns hc.2 o1))) n1
    · rw [if_neg hc]
      exact fun h => h.elim
/-! ### slices -/
theorem bnd_eq (n : Nat) (o : Option Int) (d : Nat) : HT.sIx n d o = (o.map (bnd n)).getD d := by cases o <;> rfl
theorem cut_eq (vs : List V) (lo hi : Option Int) : cutV vs lo hi = cut vs lo hi := by
  unfold cutV cut
  rw [bnd_eq, bnd_eq]
theorem RZs.get : ∀ {ds : List PyData} {vs : List V}, RZs H Z K ds vs → ∀ n, RZs H Z K (ds.take n) (vs.take n) ∧ RZs H Z K (ds.drop n) (vs.drop n)
  | [], vs, h, n => by rw [show vs = [] from h]; simp [RZs]
  | d :: ds, vs, h, n => by
    obtain ⟨v, r, rfl, h1, h2⟩ := h
    cases n with
    | zero => exact ⟨rfl, v, r, rfl, h1, h2⟩
    | succ n =>
      obtain ⟨q1, q2⟩ := RZs.get h2 n
      exact ⟨⟨v, _, rfl, h1, q1⟩, q2⟩
theorem RZs.cut {ds : List PyData} {vs : List V} (h : RZs H Z K ds vs) (lo hi : Option Int) : RZs H Z K (U.cut ds lo hi) (U.cut vs lo hi) := by
  unfold U.cut
  rw [h.length]
  exact (((h.get _).2).get _).1
structure PO' (X : Cx) (W : WX) (e : Option Expr) (p : Env → Res (Option Int)) : Prop where
  ex : ∃ t : TO, PO X e t ∧ ∀ {H0 Z0 H Z σ ρ}, SR X.K H0 Z0 H Z σ ρ → ∀ Q : Option Int → Hp → Prop, (match p ρ with
    | .ok i => ∀ H' Z', Ext H Z H' Z' → Q i H'
    | .err c d => ErrP X W σ H Z c d
    | .bad => False) → t σ H Q
theorem po_no : PO' X W none pNo := ⟨_, po_none, fun S Q h => h _ _ (Ext.refl S.ext.zd)⟩
theorem po_so (ha : PuB X W a fa) : PO' X W (some a) (pSo fa) := by
  obtain ⟨t, p, q⟩ := ha.ex
  refine ⟨_, po_some p, ?_⟩
  intro H0 Z0 H Z σ ρ S Q h
  unfold tPart
  refine q S _ ?_
  revert h
  unfold pSo PostE
  cases fa ρ with
  | bad => exact id
  | err cn d => exact id
  | ok o =>
    cases o with
    | z d =>
      cases d with
      | int i => exact fun h v H1 Z1 g1 e1 o1 _ => ⟨i, o1.2, h H1 Z1 e1⟩
      | _ => exact fun h => h.elim
    | _ => exact fun h => h.elim
def rCut (K : PySem.W.Frag) : V → Option Int → Option Int → Hp → VK → Prop := fun x lo hi H Q => rSlL K x lo hi H Q ∨ rSlA K x lo hi H Q
theorem gr_cut {o : O} {v : V} {fp : List Addr} {lo hi : Option Int} (hz : ∀ a, Z a → H a ≠ none) (o1 : Own H Z K o v fp) (Q : VK) (p : PostG H Z K (gCut o lo hi) Q) : rCut K v lo hi H Q := by
  revert p
  unfold gCut
  cases e : lz o with
  | some ds =>
    obtain ⟨a, vs, rfl, h1, h2⟩ := o1.lz e
    exact fun p => .inl ⟨a, vs, rfl, SqL.of h1, fun q hq => PostG.lst hz (by rw [cut_eq]; exact h2.cut lo hi) p hq⟩
  | none =>
    cases e' : tz o with
    | none => exact fun p => p.elim
    | some ds =>
      obtain ⟨a, vs, rfl, h1, h2⟩ := o1.tz e'
      refine fun p => .inr ⟨a, vs, rfl, h1, fun hw => ?_, fun _ q hq => ?_⟩
      · have e2 : U.cut vs lo hi = vs := by
          rw [← cut_eq]
          unfold cutV
          rw [hw.1, hw.2]
          simp
        have h3 := h2.cut lo hi
        rw [e2] at h3
        exact PostG.z hz (d := .tuple (U.cut ds lo hi)) ⟨a, vs, rfl, h1, h3⟩ p
      · rw [cut_eq]
        have e2 := Ext.new (Z := Z) (o := .tup (U.cut vs lo hi)) hz hq
        exact p (.ref q) _ Z [] e2 ⟨rfl, q, U.cut vs lo hi, rfl, SqT.of upd_same, RZs.kp e2.kp _ _ (h2.cut lo hi)⟩ New.nil
theorem pu_cut {lo hi : Option Expr} {p2 : Pos} {pl pr : Env → Res (Option Int)} (ha : PuB X W a fa) (hl : PO' X W lo pl) (hh : PO' X W hi pr) : PuE X W (.Subscript a (.Slice lo hi none p2) pos) (eCut fa pl pr) := by
  obtain ⟨t, p, q⟩ := ha.ex
  obtain ⟨t1, p1, q1⟩ := hl.ex
  obtain ⟨t2, p2', q2⟩ := hh.ex
  refine ⟨_, pe_slice (r := rCut X.K) (sl_list.or sl_tupA) p p1 p2', ?_⟩
  intro H0 Z0 H Z σ ρ S Q h
  unfold tSl
  refine q S _ ?_
  revert h
  unfold eCut PostE
  cases fa ρ with
  | bad => exact id
  | err cn d => exact id
  | ok o =>
    intro h v H1 Z1 g1 e1 o1 _
    refine q1 (S.grow e1) _ ?_
    revert h
    rw [Res.bind_ok]
    cases pl ρ with
    | bad => exact id
    | err cn d => exact fun h => ErrP.grow h e1
    | ok i =>
      intro h H2 Z2 e2
      refine q2 ((S.grow e1).grow e2) _ ?_
      revert h
      rw [Res.bind_ok]
      cases pr ρ with
      | bad => exact id
      | err cn d => exact fun h => ErrP.grow h (e1.trans e2)
      | ok j =>
        intro h H3 Z3 e3
        refine gr_cut e3.zd (o1.ext (e2.trans e3)) Q ?_
        revert h
        rw [Res.bind_ok]
        cases gCut o i j with
        | ok q => exact fun p v4 H4 Z4 g4 e4 o4 n4 => p v4 H4 Z4 g4 (((e1.trans e2).trans e3).trans e4) o4 fun _ => n4.grow ((e1.trans e2).trans e3)
        | err _ _ => exact fun p => p
        | bad => exact fun p => p
/-! ### what Python brings, called -/
def GRL (K : PySem.W.Frag) (r : List V → Hp → VK → Prop) (g : List O → Res O) : Prop :=
  ∀ {H : Hp} {Z : Zs} {vs : List V} {os : List O} {fp : List Addr}, (∀ a, Z a → H a ≠ none) → OwnA H Z K os vs fp → ∀ Q : VK, PostG H Z K (g os) Q → r vs H Q
theorem sat_k {t : TA} {r : List V → Hp → VK → Prop} {g : List O → Res O} (q : ∀ {H0 Z0 H Z σ ρ}, SR X.K H0 Z0 H Z σ ρ → ∀ Q, PostA X W False σ H Z (fs ρ) Q → t σ H Q) (G : GRL X.K r g) : Sat X W True (tCB r t) (eK g fs) := by
  intro H0 Z0 H Z σ ρ S Q h
  unfold tCB
  refine q S _ ?_
  revert h
  unfold eK PostA PostE
  cases fs ρ with
  | bad => exact id
  | err cn d => exact id
  | ok os =>
    intro h vs H1 Z1 g1 e1 o1 _
    refine G e1.zd o1 Q ?_
    revert h
    rw [Res.bind_ok]
    cases g os with
    | ok q => exact fun p v4 H4 Z4 g4 e4 o4 n4 => p v4 H4 Z4 g4 (e1.trans e4) o4 fun _ => n4.grow e1
    | err _ _ => exact fun p => p
    | bad => exact fun p => p
theorem pu_kb {id : String} {x : Str} {p : Pos} {r : List V → Hp → VK → Prop} {g : List O → Res O} (hc : CallR X (.builtin id) r) (G : GRL X.K r g) (hg : Gl X x) (hm : X.mg x = none) (hv : bootBuiltins x = some (.builtin id)) (hn : x ≠ "__name__") (hdb : (x == ("__debug__" : Str)) = false)
    (he : starEach (e :: es) X.env = (false, eval e X.env) :: starEach es X.env) (hpl : (backTo pos (starEach es X.env)).any (·.1) = false) (ha : PuAB X W (e :: es) fs) : PuE X W (.Call (.Name x p) (e :: es) [] pos) (eK g fs) := by
  obtain ⟨t, p, q⟩ := ha.ex
  exact ⟨_, pe_callB hc hg hm hv p hn hdb he hpl, sat_k q G⟩
theorem pu_kt {T : String} {x : Str} {p : Pos} {r : List V → Hp → VK → Prop} {g : List O → Res O} (hc : CallR X (.type T) r) (G : GRL X.K r g) (hg : Gl X x) (hm : X.mg x = none) (hv : bootBuiltins x = some (.type T)) (hn : x ≠ "__name__") (hdb : (x == ("__debug__" : Str)) = false)
    (he : starEach (e :: es) X.env = (false, eval e X.env) :: starEach es X.env) (hpl : (backTo pos (starEach es X.env)).any (·.1) = false) (ha : PuAB X W (e :: es) fs) : PuE X W (.Call (.Name x p) (e :: es) [] pos) (eK g fs) := by
  obtain ⟨t, p, q⟩ := ha.ex
  exact ⟨_, pe_callTy hc hg hm hv p hn hdb he hpl, sat_k q G⟩
theorem ownA1 {o : O} {vs : List V} {fp : List Addr} (h : OwnA H Z K [o] vs fp) : ∃ v, vs = [v] ∧ ∃ g, Own H Z K o v g := by
  obtain ⟨v, r, f, g, rfl, rfl, h1, h2, h3⟩ := h
  exact ⟨v, by rw [h2], f, h1⟩
theorem ownA2 {o p : O} {vs : List V} {fp : List Addr} (h : OwnA H Z K [o, p] vs fp) : ∃ v w, vs = [v, w] ∧ (∃ g, Own H Z K o v g) ∧ ∃ g, Own H Z K p w g := by
  obtain ⟨v, r, f, g, rfl, rfl, h1, h2⟩ := h
  obtain ⟨w, e, h2⟩ := ownA1 h2
  exact ⟨v, w, by rw [e], ⟨f, h1⟩, h2⟩
theorem gr_len : GRL K (fun xs H Q => ∃ p ys, xs = [.ref p] ∧ (SqL K H p ys ∨ SqT K H p ys) ∧ Q (.int ys.length) H) kLen := fun {H Z vs os fp} hz oA Q => by
  unfold kLen
  split
  · obtain ⟨v, rfl, g, _, a, rfl, h⟩ := ownA1 oA
    refine fun p => ⟨a, _, rfl, .inl h.sql, ?_⟩
    rw [List.length_map]
    exact PostG.z hz rz_int p
  · rename_i o _
    obtain ⟨v, rfl, g, h⟩ := ownA1 oA
    cases e : seqO o with
    | some os =>
      obtain ⟨a, vs, g', rfl, h1, h2, _⟩ := h.seq e
      refine fun p => ⟨a, vs, rfl, .inl (SqL.of h1), ?_⟩
      rw [h2.length]
      exact PostG.z hz rz_int p
    | none =>
      dsimp only
      cases e' : tupO o with
      | none => exact fun p => p.elim
      | some os =>
        obtain ⟨a, vs, rfl, h1, h2⟩ := h.tup e'
        refine fun p => ⟨a, vs, rfl, .inr h1, ?_⟩
        rw [h2.length]
        exact PostG.z hz rz_int p
  · exact fun p => p.elim
theorem gr_abs : GRL K (fun xs H Q => ∃ i, xs = [.int i] ∧ Q (.int (if i < 0 then -i else i)) H) kAbs := fun {H Z vs os fp} hz oA Q => by
  unfold kAbs
  split
  · obtain ⟨v, rfl, g, _, rfl⟩ := ownA1 oA
    exact fun p => ⟨_, rfl, PostG.z hz rz_int p⟩
  · exact fun p => p.elim
theorem gr_int : GRL K (fun xs H Q => (∃ i, xs = [.int i] ∧ Q (.int i) H) ∨ ∃ k, xs = [.bl k] ∧ Q (.int (if k then 1 else 0)) H) kInt := fun {H Z vs os fp} hz oA Q => by
  unfold kInt
  split
  · obtain ⟨v, rfl, g, _, rfl⟩ := ownA1 oA
    exact fun p => .inl ⟨_, rfl, PostG.z hz rz_int p⟩
  · obtain ⟨v, rfl, g, _, rfl⟩ := ownA1 oA
    exact fun p => .inr ⟨_, rfl, PostG.z hz rz_int p⟩
  · exact fun p => p.elim
theorem gr_min2 : GRL K (fun xs H Q => ∃ i j, xs = [.int i, .int j] ∧ Q (.int (if j < i then j else i)) H) kMin2 := fun {H Z vs os fp} hz oA Q => by
  unfold kMin2
  split
  · obtain ⟨v, w, rfl, ⟨_, _, rfl⟩, ⟨_, _, rfl⟩⟩ := ownA2 oA
    exact fun p => ⟨_, _, rfl, PostG.z hz rz_int p⟩
  · exact fun p => p.elim
theorem gr_max2 : GRL K (fun xs H Q => ∃ i j, xs = [.int i, .int j] ∧ Q (.int (if j > i then j else i)) H) kMax2 := fun {H Z vs os fp} hz oA Q => by
  unfold kMax2
  split
  · obtain ⟨v, w, rfl, ⟨_, _, rfl⟩, ⟨_, _, rfl⟩⟩ := ownA2 oA
    exact fun p => ⟨_, _, rfl, PostG.z hz rz_int p⟩
  · exact fun p => p.elim
theorem gr_list : GRL K (fun xs H Q => ∃ p ys, xs = [.ref p] ∧ (SqL K H p ys ∨ SqT K H p ys) ∧ ∀ l, H l = none → Q (.ref l) (upd H l (.lst ys))) kList := fun {H Z vs os fp} hz oA Q => by
  unfold kList
  split
  · rename_i o
    obtain ⟨v, rfl, g, h⟩ := ownA1 oA
    cases e : lz o with
    | some ds =>
      obtain ⟨a, vs, rfl, h1, h2⟩ := h.lz e
      exact fun p => ⟨a, vs, rfl, .inl (SqL.of h1), fun l hl => PostG.lst hz h2 p hl⟩
    | none =>
      dsimp only
      cases e' : tz o with
      | none => exact fun p => p.elim
      | some ds =>
        obtain ⟨a, vs, rfl, h1, h2⟩ := h.tz e'
        exact fun p => ⟨a, vs, rfl, .inr h1, fun l hl => PostG.lst hz h2 p hl⟩
  · exact fun p => p.elim
end

section
variable {X : Cx} {W : WX} {own : Prop} {e a b c : Expr} {f fa fb fc : EV} {pos : Pos} {K : PySem.W.Frag} {r r' : R2} {g g' : O → O → Res O} {H : Hp} {Z : Zs} {ta tb : EB} {rest es : List Expr} {fs : EA}
/-! ### isinstance -/
def tyS : Ty → String
  | .int => "int" | .bool => "bool" | .list => "list" | .tuple => "tuple" | .str => "str"
theorem kitTy {K : PySem.W.Frag} {a b : String} {r : Bool} (h : kitB a b = some r) : PySem.W.kitOne K (.type a) (.type b) = some r := kit_ty h
theorem tyx_sqt {a : Addr} {vs : List V} (h : SqT K H a vs) : TyX K H (.ref a) (.type "tuple") := by
  rcases h with (h | ⟨o, h⟩) | ⟨o, its, n, hk, hc, _⟩
  · exact .base (.tup h)
  · exact .fTuple h
  · exact .kTuple hk hc
theorem isi_b (t : Ty) : kitB "bool" (tyS t) = some (isTy t (.bool true)) := by cases t <;> decide +kernel
theorem isi_i (t : Ty) : kitB "int" (tyS t) = some (isTy t (.int 0)) := by cases t <;> decide +kernel
theorem isi_s (t : Ty) : kitB "str" (tyS t) = some (isTy t (.str ⟨#[]⟩)) := by cases t <;> decide +kernel
theorem isi_l (t : Ty) : kitB "list" (tyS t) = some (isTy t (.list [])) := by cases t <;> decide +kernel
theorem isi_t (t : Ty) : kitB "tuple" (tyS t) = some (isTy t (.tuple [])) := by cases t <;> decide +kernel
theorem isi_n (t : Ty) : kitB "NoneType" (tyS t) = some (isTy t .none) := by cases t <;> decide +kernel
theorem own_ty {o : O} {v : V} {fp : List Addr} {t : Ty} {b : Bool} (h : Own H Z K o v fp) (e : gIsi t o = .ok (.z (.bool b))) : ∃ T, TyX K H v (.type T) ∧ kitB T (tyS t) = some b := by
  cases o with
  | z d =>
    obtain ⟨_, h⟩ := h
    cases d with
    | none => rw [show v = .non from h]; cases e; exact ⟨_, .base .non, isi_n t⟩
    | bool b => rw [show v = .bl b from h]; cases e; exact ⟨_, .base (.bl b), by rw [isi_b]; cases t <;> rfl⟩
    | int i => rw [show v = .int i from h]; cases e; exact ⟨_, .base (.int i), by rw [isi_i]; cases t <;> rfl⟩
    | str x => rw [show v = .str x from h]; cases e; exact ⟨_, .base (.str x), by rw [isi_s]; cases t <;> rfl⟩
    | list ds =>
      obtain ⟨a, vs, rfl, _, h1, h2⟩ := h
      cases e
      exact ⟨_, .base (.lst h1), by rw [isi_l]; cases t <;> rfl⟩
    | tuple ds =>
      obtain ⟨a, vs, rfl, h1, h2⟩ := h
      cases e
      exact ⟨_, tyx_sqt h1, by rw [isi_t]; cases t <;> rfl⟩
    | dict _ => exact h.elim
  | l os =>
    obtain ⟨a, vs, g, rfl, rfl, h1, h2⟩ := h
    cases e
    exact ⟨_, .base (.lst h1), isi_l t⟩
  | t os =>
    obtain ⟨a, vs, rfl, h1, h2⟩ := h
    cases e
    exact ⟨_, tyx_sqt h1, isi_t t⟩
  | dk _ => cases e
  | dt _ => cases e
  | s _ => cases e
  | x _ _ => cases e
theorem gIsi_ok {t : Ty} {o : O} : gIsi t o = .bad ∨ ∃ b, gIsi t o = .ok (.z (.bool b)) := by
  cases o with
  | z d => exact .inr ⟨_, rfl⟩
  | l _ => exact .inr ⟨_, rfl⟩
  | t _ => exact .inr ⟨_, rfl⟩
  | dk _ => exact .inl rfl
  | dt _ => exact .inl rfl
  | s _ => exact .inl rfl
  | x _ _ => exact .inl rfl
theorem pu_isi (t : Ty) {x : Str} {p p2 : Pos} (hgI : Gl X "isinstance") (hmI : X.mg "isinstance" = none) (hgT : Gl X x) (hmT : X.mg x = none) (hv : bootBuiltins x = some (.type (tyS t))) (hn : x ≠ "__name__") (hd : (x == ("__debug__" : Str)) = false)
    (he : starEach [a, .Name x p2] X.env = (false, eval a X.env) :: starEach [.Name x p2] X.env) (he2 : starEach [.Name x p2] X.env = (false, eval (.Name x p2) X.env) :: starEach [] X.env) (hpl : (backTo pos (starEach [.Name x p2] X.env)).any (·.1) = false)
    (ha : PuB X W a fa) : PuE X W (.Call (.Name "isinstance" p) [a, .Name x p2] [] pos) (eIsi t fa) := by
  obtain ⟨ta, pa, qa⟩ := ha.ex
  have pT : PE X (.Name x p2) (tC (.ty (tyS t))) := pe_bltn hgT hmT hv rfl hn hd
  refine ⟨_, pe_callB call_isi hgI hmI PyProof.Rows.boot_isinstance (pa_cons pa (pa_cons pT pa_nil he2) he) (by decide) (by decide) he hpl, ?_⟩
  intro H0 Z0 H Z σ ρ S Q h
  show ta σ H fun x H1 => rIsi X.K [x, .ty (tyS t)] H1 Q
  refine qa S _ ?_
  revert h
  unfold eIsi e1 PostE
  cases fa ρ with
  | bad => exact id
  | err cn d => exact id
  | ok o =>
    intro h v H1 Z1 g1 e1 o1 _
    rw [Res.bind_ok] at h
    rcases gIsi_ok (t := t) (o := o) with q | ⟨b, q⟩
    · rw [q] at h
      exact h.elim
    · rw [q] at h
      obtain ⟨T, h1, h2⟩ := own_ty o1 q
      exact ⟨v, _, _, _, b, rfl, .ty _, h1, kit_ty h2, h (.bl b) H1 Z1 [] e1 ⟨rfl, rfl⟩ fun _ => New.nil⟩
end
/-! ### statements -/
def PostS (X : Cx) (W : WX) (H0 : Hp) (Z0 : Ent) (H : Hp) (Z : Zs) (D : Ends) : Out → Prop
  | .nx ρ' => ∀ σ' H' Z', Kp H Z H' Z' → SR X.K H0 Z0 H' Z' σ' ρ' → D.nx σ' H'
  | .bk ρ' => ∀ σ' H' Z', Kp H Z H' Z' → SR X.K H0 Z0 H' Z' σ' ρ' → D.bk σ' H'
  | .ct ρ' => ∀ σ' H' Z', Kp H Z H' Z' → SR X.K H0 Z0 H' Z' σ' ρ' → D.ct σ' H'
  | .rt o => ∀ v H' Z' g, Ext H0 Z0.z H' Z' → Own H' Z' X.K o v g → New H0 Z' g → D.rt v H'
  | .err c d ρ' => ∀ C dx v σ' H' Z', X.mg c = some (.ref C) → Kp H Z H' Z' → SR X.K H0 Z0 H' Z' σ' ρ' → H' dx = some (.xd [("at", v)]) → RZ H' Z' X.K d v → W (.ref C) (some dx) σ' H'
  | .bad => False
abbrev SatS (X : Cx) (W : WX) (t : TS) (f : ES) : Prop := ∀ {H0 Z0 H Z σ ρ}, SR X.K H0 Z0 H Z σ ρ → ∀ D, PostS X W H0 Z0 H Z D (f ρ) → t D σ H
structure PuS (X : Cx) (W : WX) (st : Stmt) (f : ES) : Prop where
  ex : ∃ t : TS, PS X st t ∧ SatS X W t f
structure PuSs (X : Cx) (W : WX) (st : List Stmt) (f : ES) : Prop where
  ex : ∃ t : TS, PSs X st t ∧ SatS X W t f
section
variable {X : Cx} {W : WX} {own : Prop} {e a b c : Expr} {f fa fb fc : EV} {pos : Pos} {H0 H H' : Hp} {Z0 : Ent} {Z Z' : Zs} {σ : St} {ρ : Env} {ta tb : EB} {st : Stmt} {sts sts' : List Stmt} {fs gs : ES} {D : Ends}
theorem PostS.grow {r : Out} (p : PostS X W H0 Z0 H Z D r) (e : Kp H Z H' Z') : PostS X W H0 Z0 H' Z' D r := by
  cases r with
  | nx ρ' => exact fun σ' H2 Z2 k => p σ' H2 Z2 (e.trans k)
  | bk ρ' => exact fun σ' H2 Z2 k => p σ' H2 Z2 (e.trans k)
  | ct ρ' => exact fun σ' H2 Z2 k => p σ' H2 Z2 (e.trans k)
  | rt o => exact p
  | err c d ρ' => exact fun C dx v σ' H2 Z2 m k => p C dx v σ' H2 Z2 m (e.trans k)
  | bad => exact p
/-- an error of an expression -/
theorem PostS.errE {cn : Str} {d : PyData} (S : SR X.K H0 Z0 H Z σ ρ) (p : PostS X W H0 Z0 H Z D (.err cn d ρ)) : ErrP X W σ H Z cn d :=
  fun C dx v H2 Z2 m e h r => p C dx v σ H2 Z2 m e.kp (S.grow e) h r
theorem ps_pass' : PuS X W (.Pass pos) sPass := ⟨_, ps_pass, fun S D p => p _ _ _ Kp.refl S⟩
theorem ps_brk : PuS X W (.Break pos) sBrk := ⟨_, ps_break, fun S D p => p _ _ _ Kp.refl S⟩
theorem ps_cnt : PuS X W (.Continue pos) sCnt := ⟨_, ps_continue, fun S D p => p _ _ _ Kp.refl S⟩
theorem ps_doc' {x j pos'} : PuS X W (.Expr (.Constant (.str x) j pos) pos') sPass := ⟨_, ps_doc, fun S D p => p _ _ _ Kp.refl S⟩
theorem pss_nil' : PuSs X W [] sPass := ⟨_, pss_nil, fun S D p => p _ _ _ Kp.refl S⟩
theorem pss_one' (h : PuS X W st fs) : PuSs X W [st] fs := by
  obtain ⟨t, p, q⟩ := h.ex
  exact ⟨t, pss_one p, q⟩
theorem pss_cons' (h : PuS X W st fs) (h' : PuSs X W sts gs) : PuSs X W (st :: sts) (sSeq fs gs) := by
  obtain ⟨t, p, q⟩ := h.ex
  obtain ⟨u, p', q'⟩ := h'.ex
  refine ⟨_, pss_cons p p', ?_⟩
  intro H0 Z0 H Z σ ρ S D h
  unfold tSeq
  refine q S _ ?_
  revert h
  unfold sSeq
  cases fs ρ with
  | nx ρ' => exact fun h σ' H2 Z2 k S2 => q' S2 D (PostS.grow h k)
  | bk ρ' => exact id
  | ct ρ' => exact id
  | rt o => exact id
  | err c d ρ' => exact id
  | bad => exact id
theorem ps_frz {i : Nat} (h : PuS X W st fs) : PuS X W st (sFrz i fs) := by
  obtain ⟨t, p, q⟩ := h.ex
  refine ⟨t, p, ?_⟩
  intro H0 Z0 H Z σ ρ S D h
  unfold sFrz frz at h
  revert h
  cases hr : ρ[i]? with
  | none => exact fun h => q S D h
  | some s =>
    cases s with
    | none => exact fun h => q S D h
    | some s =>
      cases s with
      | r o => exact fun h => q S D h
      | p o => exact fun h => q S D h
      | w o =>
        dsimp only
        by_cases hn : dz o = true
        · rw [if_pos hn]
          intro h
          obtain ⟨fp, hs, nd, k⟩ := S.own
          obtain ⟨w, f, g, g', e1, ⟨v, rfl, e2⟩, rfl, q2⟩ := Sls.part hs hr
          have mem : ∀ a, a ∈ f → a ∈ g ++ f ++ g' := fun a ha => List.mem_append_left _ (List.mem_append_right _ ha)
          have kp : Kp H Z H (fun a => Z a ∨ a ∈ f) := ⟨fun a z => .inl z, fun a o z e => e, fun _ _ h => h, fun _ _ _ h => h⟩
          have q3 := q2 H (fun a => Z a ∨ a ∈ f) (some (.w (.z (strip o)))) (some v) [] kp (fun _ _ => rfl) ⟨v, rfl, rfl, Own.data (fun a z => .inl z) o v f (fun a ha => .inr ha) hn e2⟩
          have hσ : σ.set i (some v) = σ := by
            have hi : i < σ.length := (List.getElem?_eq_some_iff.mp e1).1
            apply List.ext_getElem?
            intro j
            rw [List.getElem?_set]
            split
            · rename_i hj
              subst hj
              rw [e1]
            · rfl
          rw [hσ] at q3
          rw [List.append_assoc, List.nodup_append] at nd
          obtain ⟨n1, n2, n3⟩ := nd
          rw [List.nodup_append] at n2
          refine q (ρ := ρ.set i (some (.w (.z (strip o))))) (Z := fun a => Z a ∨ a ∈ f) ⟨⟨S.ext.keep, fun a z => .inl (S.ext.zz a z), fun a z => ?_, fun a z => ?_⟩, g ++ [] ++ g', q3, ?_, fun a ha => ?_⟩ D (PostS.grow h kp)
          · rcases z with z | z
            · exact S.ext.zn a z
            · exact .inr (k a (mem a z)).2
          · rcases z with z | z
            · exact S.ext.zd a z
            · exact e2.ne z
          · rw [List.append_nil]
            exact List.nodup_append.mpr ⟨n1, n2.2.1, fun a ha b hb => n3 a ha b (List.mem_append_right _ hb)⟩
          · rw [List.append_nil] at ha
            rcases List.mem_append.mp ha with ha | ha
            · refine ⟨fun z => ?_, (k a (List.mem_append_left _ (List.mem_append_left _ ha))).2⟩
              rcases z with z | z
              · exact (k a (List.mem_append_left _ (List.mem_append_left _ ha))).1 z
              · exact n3 a ha a (List.mem_append_left _ z) rfl
            · refine ⟨fun z => ?_, (k a (List.mem_append_right _ ha)).2⟩
              rcases z with z | z
              · exact (k a (List.mem_append_right _ ha)).1 z
              · exact n2.2.2 a z a ha rfl
        · rw [if_neg hn]
          exact fun h => q S D h
theorem ps_ret' (h : PuE X W e f) : PuS X W (.Return (some e) pos) (sRet f) := by
  obtain ⟨t, p, q⟩ := h.ex
  refine ⟨_, ps_ret p, ?_⟩
  intro H0 Z0 H Z σ ρ S D h
  unfold tRet
  refine q S _ ?_
  revert h
  unfold sRet PostE Res.out
  cases f ρ with
  | bad => exact id
  | err cn d => exact fun h => PostS.errE S h
  | ok o => exact fun h v H1 Z1 g1 e1 o1 n1 => h v H1 Z1 g1 (S.ext.trans e1) o1 ((n1 trivial).grow S.ext)
theorem ps_retN' : PuS X W (.Return none pos) sRetN := ⟨_, ps_retN, fun S D h => h .non _ _ [] S.ext ⟨rfl, rfl⟩ New.nil⟩
theorem ps_drop' (hs : swapsWith e none pos.line X.env = pure false) (h : PX X W own e f) : PuS X W (.Expr e pos) (sDrop f) := by
  obtain ⟨t, p, q⟩ := h.ex
  refine ⟨_, ps_expr p hs, ?_⟩
  intro H0 Z0 H Z σ ρ S D h
  unfold tDrop
  refine q S _ ?_
  revert h
  unfold sDrop PostE Res.out
  cases f ρ with
  | bad => exact id
  | err cn d => exact fun h => PostS.errE S h
  | ok o => exact fun h v H1 Z1 g1 e1 o1 n1 => h σ H1 Z1 e1.kp (S.grow e1)
theorem ps_if' (hc : PuT X W c ta) (h1 : PuSs X W sts fs) (h2 : PuSs X W sts' gs) : PuS X W (.If c sts sts' pos) (sIf ta fs gs) := by
  obtain ⟨tc, pc, qc⟩ := hc.ex
  obtain ⟨t, p, q⟩ := h1.ex
  obtain ⟨u, p', q'⟩ := h2.ex
  refine ⟨_, ps_if pc p p', ?_⟩
  intro H0 Z0 H Z σ ρ S D h
  unfold tIfS
  refine qc S _ ?_
  revert h
  unfold sIf PostT Res.out
  cases ta ρ with
  | bad => exact id
  | err cn d => exact fun h => PostS.errE S h
  | ok k =>
    intro h H1 Z1 e1
    cases k with
    | true =>
      rw [if_pos rfl]
      exact q (S.grow e1) D (PostS.grow h e1.kp)
    | false =>
      rw [if_neg Bool.false_ne_true]
      exact q' (S.grow e1) D (PostS.grow h e1.kp)
/-- return x, x one's own -/
theorem ps_mv (i : Nat) {x : Str} {p : Pos} (hN : X.N[i]? = some x) (hv : Vis X.env.scope x) (hd : (x == ("__debug__" : Str)) = false) (hcd : (x == ("__classdict__" : Str)) = false) : PuS X W (.Return (some (.Name x p)) pos) (sRetMv i) := by
  refine ⟨_, ps_ret (pe_var hN hv hd hcd), ?_⟩
  intro H0 Z0 H Z σ ρ S D h
  unfold sRetMv at h
  revert h
  cases hr : ρ[i]? with
  | none => exact fun h => h.elim
  | some s =>
    cases s with
    | none => exact fun h => h.elim
    | some s =>
      cases s with
      | r o => exact fun h => h.elim
      | p o => exact fun h => h.elim
      | w o =>
        intro h
        obtain ⟨fp, hs, nd, k⟩ := S.own
        obtain ⟨w, f, g, g', e1, ⟨v, rfl, e2⟩, rfl, q2⟩ := Sls.part hs hr
        refine ⟨v, e1, h v H Z f S.ext e2 ⟨?_, fun a ha => k a (List.mem_append_left _ (List.mem_append_right _ ha))⟩⟩
        rw [List.append_assoc, List.nodup_append] at nd
        exact (List.nodup_append.mp nd.2.1).1
end

/-! ### what is walked -/
def iSq (K : PySem.W.Frag) (tl : TE) : TI := fun σ H R => tl σ H fun x H1 => (∃ a, x = .ref a ∧ (∃ xs, SqL K H1 a xs) ∧ R (Itl K a) H1) ∨ ∃ a, x = .ref a ∧ (∃ xs, SqT K H1 a xs) ∧ R (Itt K a) H1
theorem pi_sq {X : Cx} {tg l : Expr} {tl : TE} (hl : PE X l tl) : PI X tg l (iSq X.K tl) := by
  refine ⟨fun pins s σ H R I h => thn (hl.run pins s σ H _ I h) fun v s1 ⟨x, H1, I1, r1, q1⟩ => ?_⟩
  rcases q1 with ⟨a, rfl, ⟨xs, hq⟩, q⟩ | ⟨a, rfl, ⟨xs, hq⟩, q⟩ <;> cases r1
  · obtain ⟨its, rv, p, hz⟩ := I1.list hq
    refine wpAny_pyIter_list p.isList ⟨s1.heap.objs.size, [s1.heap.objs.size], _, _, H1, rfl, I1.kept (t' := s1.toks) fun b o e => Heap.get?_push_of_some _ e, turn_list a _, ⟨_, Heap.get?_push_size _ rfl, rfl, rfl⟩, fun b hb => ?_, q⟩
    obtain rfl : b = s1.heap.objs.size := by simpa using hb
    exact I1.fpOk (Nat.le_refl _) (I1.hok.fresh (Nat.le_refl _))
  · obtain ⟨its, rv, p, hz⟩ := I1.tuple hq
    refine wpAny_pyIter_tuple (show s1.heap.IsTuple a its.toArray from p) ⟨s1.heap.objs.size, [s1.heap.objs.size], _, _, H1, rfl, I1.kept (t' := s1.toks) fun b o e => Heap.get?_push_of_some _ e, turn_tuple a _, ⟨_, Heap.get?_push_size _ rfl, rfl, rfl⟩, fun b hb => ?_, q⟩
    obtain rfl : b = s1.heap.objs.size := by simpa using hb
    exact I1.fpOk (Nat.le_refl _) (I1.hok.fresh (Nat.le_refl _))
/-- the iterator J gives the items, from H, Z on: while the heap grows (k = False), while what is data stands (k = True) -/
def Feed (K : PySem.W.Frag) (k : Prop) (J : It) (items : List O) (H : Hp) (Z : Zs) : Prop :=
  ∀ i H2 Z2, (k → Kp H Z H2 Z2) → (¬ k → Ext H Z H2 Z2) → (∀ a, Z2 a → H2 a ≠ none) →
    (∀ o, items[i]? = some o → J.go i H2 ∧ ∀ x H3, J.yld i H2 x H3 → ∃ Z3 g, Ext H2 Z2 H3 Z3 ∧ Own H3 Z3 K o x g) ∧ (i = items.length → J.stop i H2)
def PostI (X : Cx) (W : WX) (k : Prop) (σ : St) (H : Hp) (Z : Zs) (r : Res (List O)) (R : It → Hp → Prop) : Prop := match r with
  | .ok items => ∀ J H' Z', Ext H Z H' Z' → Feed X.K k J items H' Z' → R J H'
  | .err c d => ErrP X W σ H Z c d
  | .bad => False
structure PIX (X : Cx) (W : WX) (k : Prop) (tg e : Expr) (f : EI) : Prop where
  ex : ∃ w : TI, PI X tg e w ∧ ∀ {H0 Z0 H Z σ ρ}, SR X.K H0 Z0 H Z σ ρ → ∀ R, PostI X W k σ H Z (f ρ) R → w σ H R
section
variable {X : Cx} {W : WX} {k : Prop} {e a b tg : Expr} {f fa fb : EV} {pos : Pos} {K : PySem.W.Frag} {H : Hp} {Z : Zs}
theorem Feed.weak {J : It} {items : List O} (h : Feed K True J items H Z) : Feed K k J items H Z := fun i H2 Z2 h1 h2 hz => h i H2 Z2 (fun _ => by
  by_cases hk : k
  · exact h1 hk
  · exact (h2 hk).kp) (fun n => absurd trivial n) hz
theorem pi_e {fi : EI} (h : PIX X W True tg e fi) : PIX X W k tg e fi := by
  obtain ⟨w, p, q⟩ := h.ex
  refine ⟨w, p, ?_⟩
  intro H0 Z0 H Z σ ρ S R h
  refine q S R ?_
  revert h
  unfold PostI
  cases fi ρ with
  | ok items => exact fun h J H' Z' e f => h J H' Z' e (Feed.weak f)
  | err c d => exact id
  | bad => exact id
theorem feed_l {ds : List PyData} {a : Addr} {vs : List V} (z : Z a) (h : H a = some (.lst vs)) (r : RZs H Z K ds vs) : Feed K True (Itl K a) (ds.map .z) H Z := fun i H2 Z2 h1 _ hz => by
  have kp := h1 trivial
  have h' := kp.zk _ _ z h
  have r' := RZs.owns _ _ (RZs.kp kp _ _ r)
  refine ⟨fun o e => ?_, fun e => ⟨vs, SqL.of h', by rw [r.length, e, List.length_map]; exact Nat.le_refl _⟩⟩
  obtain ⟨v, g, e1, e2, _⟩ := Owns.get r' e
  refine ⟨⟨vs, v, SqL.of h', e1⟩, fun x H3 y => ?_⟩
  obtain ⟨rfl, y⟩ := y
  have := Option.some.inj ((y _ (SqL.of h')).symm.trans e1)
  subst this
  exact ⟨Z2, g, Ext.refl hz, e2⟩
theorem feed_t {ds : List PyData} {a : Addr} {vs : List V} (h : SqT K H a vs) (r : RZs H Z K ds vs) : Feed K True (Itt K a) (ds.map .z) H Z := fun i H2 Z2 h1 _ hz => by
  have kp := h1 trivial
  have h' := SqT.kp kp h
  have r' := RZs.owns _ _ (RZs.kp kp _ _ r)
  refine ⟨fun o e => ?_, fun e => ⟨vs, h', by rw [r.length, e, List.length_map]; exact Nat.le_refl _⟩⟩
  obtain ⟨v, g, e1, e2, _⟩ := Owns.get r' e
  refine ⟨⟨vs, v, h', e1⟩, fun x H3 y => ?_⟩
  obtain ⟨rfl, y⟩ := y
  have := Option.some.inj ((y _ h').symm.trans e1)
  subst this
  exact ⟨Z2, g, Ext.refl hz, e2⟩
theorem pi_seqZ {own : Prop} (ha : PX X W own e f) : PIX X W True tg e (iSeqZ f) := by
  obtain ⟨t, p, q⟩ := ha.ex
  refine ⟨_, pi_sq p, ?_⟩
  intro H0 Z0 H Z σ ρ S R h
  unfold iSq
  refine q S _ ?_
  revert h
  unfold iSeqZ PostE PostI
  cases f ρ with
  | bad => exact id
  | err cn d => exact id
  | ok o =>
    rw [Res.bind_ok]
    cases o with
    | z d =>
      cases d with
      | list ds =>
        intro h v H1 Z1 g1 e1 o1 _
        obtain ⟨_, a, vs, rfl, z, h1, h2⟩ := o1
        exact .inl ⟨a, rfl, ⟨vs, SqL.of h1⟩, h _ H1 Z1 e1 (feed_l z h1 h2)⟩
      | tuple ds =>
        intro h v H1 Z1 g1 e1 o1 _
        obtain ⟨_, a, vs, rfl, h1, h2⟩ := o1
        exact .inr ⟨a, rfl, ⟨vs, h1⟩, h _ H1 Z1 e1 (feed_t h1 h2)⟩
      | _ => exact fun h => h.elim
    | _ => exact fun h => h.elim
/-- what is one's own, in a comprehension -/
theorem pi_seq {own : Prop} (ha : PX X W own e f) : PIX X W False tg e (iSeq f) := by
  obtain ⟨t, p, q⟩ := ha.ex
  refine ⟨_, pi_sq p, ?_⟩
  intro H0 Z0 H Z σ ρ S R h
  unfold iSq
  refine q S _ ?_
  revert h
  unfold iSeq PostE PostI
  cases f ρ with
  | bad => exact id
  | err cn d => exact id
  | ok o =>
    rw [Res.bind_ok]
    cases es : seqO o with
    | some os =>
      intro h v H1 Z1 g1 e1 o1 _
      obtain ⟨a, vs, g', rfl, h1, h2, _⟩ := o1.seq es
      refine .inl ⟨a, rfl, ⟨vs, SqL.of h1⟩, h _ H1 Z1 e1 fun i H2 Z2 _ he hz => ?_⟩
      have ex := he id
      have h1' := ex.keep _ _ h1
      have h2' := Owns.ext ex h2
      refine ⟨fun o e => ?_, fun e => ⟨vs, SqL.of h1', by rw [h2.length, e]; exact Nat.le_refl _⟩⟩
      obtain ⟨v, g, q1, q2, _⟩ := Owns.get h2' e
      refine ⟨⟨vs, v, SqL.of h1', q1⟩, fun x H3 y => ?_⟩
      obtain ⟨rfl, y⟩ := y
      have := Option.some.inj ((y _ (SqL.of h1')).symm.trans q1)
      subst this
      exact ⟨Z2, g, Ext.refl hz, q2⟩
    | none =>
      dsimp only
      cases et : tupO o with
      | none => exact fun h => h.elim
      | some os =>
        intro h v H1 Z1 g1 e1 o1 _
        obtain ⟨a, vs, rfl, h1, h2⟩ := o1.tup et
        refine .inr ⟨a, rfl, ⟨vs, h1⟩, h _ H1 Z1 e1 fun i H2 Z2 _ he hz => ?_⟩
        have ex := he id
        have h1' := SqT.kp ex.kp h1
        have h2' := Owns.ext ex h2
        refine ⟨fun o e => ?_, fun e => ⟨vs, h1', by rw [h2.length, e]; exact Nat.le_refl _⟩⟩
        obtain ⟨v, g, q1, q2, _⟩ := Owns.get h2' e
        refine ⟨⟨vs, v, h1', q1⟩, fun x H3 y => ?_⟩
        obtain ⟨rfl, y⟩ := y
        have := Option.some.inj ((y _ h1').symm.trans q1)
        subst this
        exact ⟨Z2, g, Ext.refl hz, q2⟩
theorem upTo_len (n : Nat) (lo : Int) : (upTo n lo).length = n := by simp [upTo]
theorem upTo_get {n i : Nat} {lo : Int} {o : O} (h : (upTo n lo)[i]? = some o) : i < n ∧ o = .z (.int (lo + (i : Int))) := by
  have hi : i < n := by
    have := (List.getElem?_eq_some_iff.mp h).1
    rw [upTo_len] at this
    exact this
  refine ⟨hi, ?_⟩
  unfold upTo at h
  rw [List.getElem?_map, List.getElem?_range hi] at h
  exact (Option.some.inj h).symm
theorem feed_r {n : Nat} {lo : Int} : Feed K True (Itr lo n) (upTo n lo) H Z := fun i H2 Z2 _ _ hz => by
  refine ⟨fun o e => ?_, fun e => by rw [e, upTo_len]; exact Nat.le_refl _⟩
  obtain ⟨h1, rfl⟩ := upTo_get e
  refine ⟨h1, fun x H3 y => ?_⟩
  obtain ⟨rfl, rfl⟩ := y
  exact ⟨Z2, [], Ext.refl hz, rfl, rfl⟩
theorem far_iff {i : Int} : far i = true ↔ -(2 ^ 62) ≤ i ∧ i < 2 ^ 62 := by unfold far; exact decide_eq_true_iff
theorem pi_r1 {p : Pos} (hg : Gl X "range") (hm : X.mg "range" = none) (hs : starEach [a] X.env = [(false, eval a X.env)]) (ha : PuB X W a fa) : PIX X W True tg (.Call (.Name "range" p) [a] [] pos) (iR1 fa) := by
  obtain ⟨t, pa, q⟩ := ha.ex
  refine ⟨_, pi_range1 hg hm (pa_cons pa pa_nil hs) hs, ?_⟩
  intro H0 Z0 H Z σ ρ S R h
  show t σ H fun x H1 => ∃ j : Int, [x] = [.int j] ∧ -(2 ^ 62) ≤ j ∧ j < 2 ^ 62 ∧ R (Itr 0 j.toNat) H1
  refine q S _ ?_
  revert h
  unfold iR1 PostE PostI
  cases fa ρ with
  | bad => exact id
  | err cn d => exact id
  | ok o =>
    rw [Res.bind_ok]
    cases o with
    | z d =>
      cases d with
      | int j =>
        dsimp only
        by_cases hj : far j = true
        · rw [if_pos hj]
          intro h v H1 Z1 g1 e1 o1 _
          have := far_iff.mp hj
          exact ⟨j, by rw [show v = .int j from o1.2], this.1, this.2, h _ H1 Z1 e1 feed_r⟩
        · rw [if_neg hj]
          exact fun h => h.elim
      | _ => exact fun h => h.elim
    | _ => exact fun h => h.elim
theorem pi_r2 {p : Pos} (hg : Gl X "range") (hm : X.mg "range" = none) (hs : starEach [a, b] X.env = [(false, eval a X.env), (false, eval b X.env)]) (hs2 : starEach [b] X.env = [(false, eval b X.env)]) (ha : PuB X W a fa) (hb : PuB X W b fb) :
    PIX X W True tg (.Call (.Name "range" p) [a, b] [] pos) (iR2 fa fb) := by
  obtain ⟨t, pa, q⟩ := ha.ex
  obtain ⟨u, pb, q'⟩ := hb.ex
  refine ⟨_, pi_range2 hg hm (pa_cons pa (pa_cons pb pa_nil hs2) (by rw [hs, hs2])) hs hs2, ?_⟩
  intro H0 Z0 H Z σ ρ S R h
  show t σ H fun x H1 => u σ H1 fun y H2 => ∃ i j : Int, [x, y] = [.int i, .int j] ∧ (-(2 ^ 62) ≤ i ∧ i < 2 ^ 62 ∧ -(2 ^ 62) ≤ j ∧ j < 2 ^ 62) ∧ R (Itr i (j - i).toNat) H2
  refine q S _ ?_
  revert h
  unfold iR2 PostE PostI
  cases fa ρ with
  | bad => exact id
  | err cn d => exact id
  | ok o =>
    rw [Res.bind_ok]
    intro h v H1 Z1 g1 e1 o1 _
    refine q' (S.grow e1) _ ?_
    revert h
    unfold PostE
    cases fb ρ with
    | bad => exact id
    | err cn d => exact fun h => ErrP.grow h e1
    | ok o' =>
      rw [Res.bind_ok]
      cases o with
      | z d =>
        cases d with
        | int i =>
          cases o' with
          | z d' =>
            cases d' with
            | int j =>
              dsimp only
              by_cases hj : (far i && far j) = true
              · rw [if_pos hj]
                rw [Bool.and_eq_true] at hj
                intro h w H2 Z2 g2 e2 o2 _
                have h1 := far_iff.mp hj.1
                have h2 := far_iff.mp hj.2
                exact ⟨i, j, by rw [show v = .int i from o1.2, show w = .int j from o2.2], ⟨h1.1, h1.2, h2.1, h2.2⟩, h _ H2 Z2 (e1.trans e2) feed_r⟩
              · rw [if_neg hj]
                exact fun h => h.elim
            | _ => exact fun h => h.elim
          | _ => exact fun h => h.elim
        | _ => exact fun h => h.elim
      | _ => exact fun h => h.elim
end

/-! ### targets -/
section
variable {K : PySem.W.Frag} {H0 H H' : Hp} {Z0 : Ent} {Z Z' : Zs} {σ : St} {ρ : Env} {o : O} {v : V}
/-- a new thing beside the slots -/
theorem SR.push (S : SR K H0 Z0 H Z σ ρ) (e : Ext H Z H' Z') {g : List Addr} (ho : Own H' Z' K o v g) (n : New H Z' g) : SR K H0 Z0 H' Z' (some v :: σ) (some (.w o) :: ρ) := by
  obtain ⟨fp, h, nd, k⟩ := S.own
  have dm := Sls.dom h
  refine ⟨S.ext.trans e, g ++ fp, ⟨_, _, _, _, rfl, rfl, ⟨v, rfl, ho⟩, Sls.frame e.kp (fun a ha => ?_) h⟩, List.nodup_append.mpr ⟨n.1, nd, fun a ha b hb q => ?_⟩, fun a ha => ?_⟩
  · obtain ⟨vs, q⟩ := dm a ha
    rw [q]; exact e.keep _ _ q
  · obtain ⟨vs, q2⟩ := dm b hb
    rw [← q, (n.2 a ha).2] at q2; cases q2
  · rcases List.mem_append.mp ha with ha | ha
    · exact ⟨(n.2 a ha).1, S.ext.back (n.2 a ha).2⟩
    · refine ⟨fun z => ?_, (k a ha).2⟩
      rcases e.zn a z with z | z
      · exact (k a ha).1 z
      · obtain ⟨vs, q⟩ := dm a ha
        rw [q] at z; cases z
/-- what stands beside the slots is stored -/
theorem SR.pop (S : SR K H0 Z0 H Z (some v :: σ) (some (.w o) :: ρ)) (i : Nat) : SR K H0 Z0 H Z (σ.set i (some v)) (ρ.set i (some (.w o))) := by
  obtain ⟨fp, ⟨w, τ, f, g, e1, rfl, ⟨v', e2, h1⟩, h2⟩, nd, k⟩ := S.own
  cases e1
  cases e2
  by_cases hi : i < ρ.length
  · obtain ⟨w, f1, g1, g2, e1, e2, rfl, q⟩ := Sls.part h2 (List.getElem?_eq_getElem hi)
    refine ⟨S.ext, g1 ++ f ++ g2, q H Z _ _ f Kp.refl (fun _ _ => rfl) ⟨v, rfl, h1⟩, ?_, fun a ha => k a ?_⟩
    · rw [List.nodup_append] at nd
      obtain ⟨n1, n2, n3⟩ := nd
      rw [List.append_assoc, List.nodup_append] at n2
      obtain ⟨m1, m2, m3⟩ := n2
      rw [List.nodup_append] at m2
      rw [List.append_assoc]
      refine List.nodup_append.mpr ⟨m1, List.nodup_append.mpr ⟨n1, m2.2.1, fun a ha b hb => n3 a ha b (List.mem_append_right _ hb)⟩, fun a ha b hb => ?_⟩
      rcases List.mem_append.mp hb with hb | hb
      · exact fun z => n3 b hb a (List.mem_append_left _ (List.mem_append_left _ ha)) z.symm
      · exact m3 a ha b (List.mem_append_right _ hb)
    · rcases List.mem_append.mp ha with ha | ha
      · rcases List.mem_append.mp ha with ha | ha
        · exact List.mem_append_right _ (List.mem_append_left _ (List.mem_append_left _ ha))
        · exact List.mem_append_left _ ha
      · exact List.mem_append_right _ (List.mem_append_right _ ha)
  · have hl := Sls.len h2
    rw [List.set_eq_of_length_le (by omega), List.set_eq_of_length_le (by omega)]
    exact ⟨S.ext, g, h2, (List.nodup_append.mp nd).2.1, fun a ha => k a (List.mem_append_right _ ha)⟩
/-- a tuple's parts beside the slots -/
theorem SR.parts (S : SR K H0 Z0 H Z (some v :: σ) (some (.w o) :: ρ)) {os : List O} (e : tupO o = some os) : ∃ a vs, v = .ref a ∧ SqT K H a vs ∧ vs.length = os.length ∧ SR K H0 Z0 H Z (vs.map some ++ σ) (os.map (fun o => some (.w o)) ++ ρ) := by
  obtain ⟨fp, ⟨w, τ, f, g, e1, rfl, ⟨v', e2, h1⟩, h2⟩, nd, k⟩ := S.own
  cases e1
  cases e2
  obtain ⟨a, vs, rfl, q1, q2⟩ := h1.tup e
  refine ⟨a, vs, rfl, q1, q2.length, S.ext, f ++ g, ?_, nd, k⟩
  clear k nd S e q1 h1
  induction os generalizing vs f with
  | nil => rw [q2.1, q2.2]; exact h2
  | cons o os ih =>
    obtain ⟨v, r, f1, g1, rfl, rfl, h3, h4, _⟩ := q2
    exact ⟨some v, r.map some ++ σ, f1, g1 ++ g, rfl, by rw [List.append_assoc], ⟨v, rfl, h3⟩, ih _ _ h4⟩
/-- what is not wanted goes -/
theorem SR.drop (S : SR K H0 Z0 H Z (some v :: σ) (some (.w o) :: ρ)) : SR K H0 Z0 H Z σ ρ := by
  obtain ⟨fp, ⟨w, τ, f, g, e1, rfl, h1, h2⟩, nd, k⟩ := S.own
  cases e1
  exact ⟨S.ext, g, h2, (List.nodup_append.mp nd).2.1, fun a ha => k a (List.mem_append_right _ ha)⟩
end
/-- a target that stores what is one's own; tau, theta: what else lies beside -/
structure PuG (X : Cx) (tg : Expr) (ga : EG) : Prop where
  ex : ∃ t : TG, PG X tg t ∧ ∀ {H0 Z0 H Z σ ρ}, ∀ (τ : St) (θ : Env) o v ρ', τ.length = θ.length → SR X.K H0 Z0 H Z (some v :: (τ ++ σ)) (some (.w o) :: (θ ++ ρ)) → ga o ρ = some ρ' → ∀ Q, (∀ σ', SR X.K H0 Z0 H Z (τ ++ σ') (θ ++ ρ') → Q σ' H) → t v σ H Q
structure PuGs (X : Cx) (tgs : List Expr) (gs : List EG) : Prop where
  ex : ∃ t : TGs, PGs X tgs t ∧ ∀ {H0 Z0 H Z σ ρ}, ∀ (τ : St) (θ : Env) os vs ρ', τ.length = θ.length → vs.length = os.length → SR X.K H0 Z0 H Z (vs.map some ++ (τ ++ σ)) (os.map (fun o => some (.w o)) ++ (θ ++ ρ)) → tTs gs os ρ = some ρ' → ∀ Q, (∀ σ', SR X.K H0 Z0 H Z (τ ++ σ') (θ ++ ρ') → Q σ' H) → t vs σ H Q
section
variable {X : Cx} {pos : Pos} {tg : Expr} {tgs : List Expr} {g : EG} {gs : List EG}
theorem set_app {α : Type} (a b : List α) (i : Nat) (x : α) : (a ++ b).set (a.length + i) x = a ++ b.set i x := by
  rw [List.set_append_right _ _ (by omega), Nat.add_sub_cancel_left]
theorem pg_n (i : Nat) {x : Str} (hN : X.N.Nodup) (hi : X.N[i]? = some x) (hx : Loc X.env.scope x) (hf : X.fn x = true ∨ X.env.scope.names.lookup x = some .local) : PuG X (.Name x pos) (tN i) := by
  refine ⟨_, pg_name hN hi hx hf, ?_⟩
  intro H0 Z0 H Z σ ρ τ θ o v ρ' hl S e Q h
  cases e
  have q := S.pop (θ.length + i)
  rw [set_app, ← hl, set_app] at q
  exact h _ q
theorem pgs_nil' : PuGs X [] [] := by
  refine ⟨_, pgs_nil, ?_⟩
  intro H0 Z0 H Z σ ρ τ θ os vs ρ' _ hl S e Q h
  cases os with
  | nil =>
    cases vs with
    | nil =>
      cases e
      exact ⟨rfl, h σ S⟩
    | cons _ _ => cases hl
  | cons _ _ => cases e
theorem pgs_cons' (h : PuG X tg g) (hs : PuGs X tgs gs) (ha : (assignEach (tg :: tgs) X.env).map (·.2) = assign tg X.env :: (assignEach tgs X.env).map (·.2)) : PuGs X (tg :: tgs) (g :: gs) := by
  obtain ⟨t, p, q⟩ := h.ex
  obtain ⟨u, p', q'⟩ := hs.ex
  refine ⟨_, pgs_cons p p' ha, ?_⟩
  intro H0 Z0 H Z σ ρ τ θ os vs ρ' hl hlv S e Q k
  cases os with
  | nil => cases e
  | cons o os =>
    cases vs with
    | nil => cases hlv
    | cons v vs =>
      refine ⟨v, vs, rfl, ?_⟩
      have hl' : vs.length = os.length := by simpa using hlv
      rw [tTs] at e
      cases e1 : g o ρ with
      | none => rw [e1] at e; cases e
      | some ρ1 =>
        rw [e1] at e
        refine q (vs.map some ++ τ) (os.map (fun o => some (.w o)) ++ θ) o v ρ1 (by simp [hl, hl']) (by rw [List.append_assoc, List.append_assoc]; exact S) e1 _ fun σ1 S1 => ?_
        rw [List.append_assoc, List.append_assoc] at S1
        exact q' τ θ os vs ρ' hl hl' S1 e Q k
theorem pg_t {es : List Expr} {k n : Nat} (hc : X.calm = true) (h : PuGs X es gs) (hn : (assignEach es X.env).length = n) (hst : (assignEach es X.env).findIdx? (·.1) = none) (hg : gs.length = n) : PuG X (.Tuple es k pos) (tT gs) := by
  obtain ⟨t, p, q⟩ := h.ex
  refine ⟨_, pg_tup hc p hn hst, ?_⟩
  intro H0 Z0 H Z σ ρ τ θ o v ρ' hl S e Q k
  unfold tT at e
  cases et : tupO o with
  | none => rw [et] at e; cases e
  | some os =>
    rw [et] at e
    obtain ⟨a, vs, rfl, h1, h2, S1⟩ := S.parts et
    refine ⟨a, vs, rfl, h1, ?_, q τ θ os vs ρ' hl h2 S1 e Q k⟩
    rw [h2, ← hg]
    have key : ∀ (gs : List EG) (os : List O) (ρ ρ' : Env), tTs gs os ρ = some ρ' → os.length = gs.length := by
      intro gs
      induction gs with
      | nil =>
        intro os ρ ρ' e
        cases os with
        | nil => rfl
        | cons _ _ => cases e
      | cons g gs ih =>
        intro os ρ ρ' e
        cases os with
        | nil => cases e
        | cons o os =>
          rw [tTs] at e
          cases e1 : g o ρ with
          | none => rw [e1] at e; cases e
          | some ρ1 =>
            rw [e1] at e
            rw [List.length_cons, List.length_cons, ih os ρ1 ρ' e]
    exact key gs os ρ ρ' e
end
/-! ### statements that store -/
section
variable {X : Cx} {W : WX} {own : Prop} {e a b c tg : Expr} {f fa fb fc : EV} {pos : Pos} {H0 H H' : Hp} {Z0 : Ent} {Z Z' : Zs} {σ : St} {ρ : Env} {ta tb : EB} {st : Stmt} {sts sts' : List Stmt} {fs gs : ES} {D : Ends} {g : EG}
theorem ps_asg' (hs : swapsWithSole [tg] e pos.line X.env = pure false) (hw : swappedStores [tg] e X.env = pure none) (h1 : (assignEach [tg] X.env).map (·.2) = [assign tg X.env]) (he : PuE X W e f) (hg : PuG X tg g) : PuS X W (.Assign [tg] e pos) (sAsg f g) := by
  obtain ⟨t, p, q⟩ := he.ex
  obtain ⟨u, p', q'⟩ := hg.ex
  refine ⟨_, ps_asg p p' hs hw h1, ?_⟩
  intro H0 Z0 H Z σ ρ S D h
  unfold tAsg
  refine q S _ ?_
  revert h
  unfold sAsg PostE Res.out
  cases f ρ with
  | bad => exact id
  | err cn d => exact fun h => PostS.errE S h
  | ok o =>
    dsimp only
    cases eg : g o ρ with
    | none => exact fun h => h.elim
    | some ρ' =>
      intro h v H1 Z1 g1 e1 o1 n1
      exact q' [] [] o v ρ' rfl (S.push e1 o1 (n1 trivial)) eg _ fun σ' S' => h σ' H1 Z1 e1.kp S'
/-- x op= e, of whole numbers -/
theorem ps_aug' (i : Nat) {x : Str} {op : Operator} {p' : Pos} {k : Int → Int → Int} (hN : X.N.Nodup) (hi : X.N[i]? = some x) (hx : Loc X.env.scope x) (hf : X.fn x = true ∨ X.env.scope.names.lookup x = some .local) (ho : PIp X op (ipI k)) (he : PuB X W e f) :
    PuS X W (.AugAssign (.Name x p') op e pos) (sAug i k f) := by
  obtain ⟨t, p, q⟩ := he.ex
  refine ⟨_, ps_aug hN hi hx p ho hf, ?_⟩
  intro H0 Z0 H Z σ ρ S D h
  unfold sAug at h
  revert h
  split
  · rename_i a hr
    intro h
    obtain ⟨v, g, e1, e2⟩ := S.getW hr
    have ev : v = .int a := e2.2
    subst ev
    refine ⟨.int a, e1, q S _ ?_⟩
    revert h
    unfold PostE Res.out
    cases f ρ with
    | bad => exact id
    | err cn d => exact fun h => PostS.errE S h
    | ok o =>
      cases o with
      | z d =>
        cases d with
        | int b =>
          intro h w H1 Z1 g1 e1 o1 _
          have ew : w = .int b := o1.2
          subst ew
          exact ⟨a, b, rfl, rfl, h _ H1 Z1 e1.kp (S.put e1 (o := .z (.int (k a b))) (f' := []) ⟨rfl, rfl⟩ List.nodup_nil fun _ h => by cases h)⟩
        | _ => exact fun h => h.elim
      | _ => exact fun h => h.elim
  · exact fun h => h.elim
/-- a list of one's own at a slot may change -/
theorem SR.mutL {K : PySem.W.Frag} (S : SR K H0 Z0 H Z σ ρ) {i : Nat} {os : List O} (hr : ρ[i]? = some (some (.w (.l os)))) : ∃ (a : Addr) (vs : List V) (g : List Addr), σ[i]? = some (some (.ref a)) ∧ H a = some (.lst vs) ∧ Owns H Z K os vs g ∧ g.Nodup ∧
    ∀ (H1 : Hp) (Z1 : Zs), Ext H Z H1 Z1 → ∀ (os' : List O) (vs' : List V) (g' : List Addr), Owns H1 Z1 K os' vs' g' → g'.Nodup → (∀ b ∈ g', b ∈ g ∨ (H b = none ∧ ¬ Z1 b)) →
      SR K H0 Z0 (upd H1 a (.lst vs')) Z1 σ (ρ.set i (some (.w (.l os')))) ∧ Kp H Z (upd H1 a (.lst vs')) Z1 := by
  obtain ⟨fp, hs, nd, k⟩ := S.own
  obtain ⟨w0, f0, l, r, e1, ⟨v, rfl, e2⟩, rfl, q2⟩ := Sls.part hs hr
  obtain ⟨a, vs, g, rfl, rfl, h1, h2⟩ := e2
  have dm := Sls.dom hs
  have mem : ∀ b, b ∈ (a :: g) → b ∈ l ++ (a :: g) ++ r := fun b hb => List.mem_append_left _ (List.mem_append_right _ hb)
  have meml : ∀ b, b ∈ l → b ∈ l ++ (a :: g) ++ r := fun b hb => List.mem_append_left _ (List.mem_append_left _ hb)
  have memr : ∀ b, b ∈ r → b ∈ l ++ (a :: g) ++ r := fun b hb => List.mem_append_right _ hb
  have nd' := nd
  rw [List.append_assoc, List.nodup_append] at nd'
  obtain ⟨n1, n2, n3⟩ := nd'
  rw [List.nodup_append] at n2
  obtain ⟨m1, m2, m3⟩ := n2
  have na := List.nodup_cons.mp m1
  refine ⟨a, vs, g, e1, h1, h2, na.2, fun H1 Z1 ex os' vs' g' ho nd2 hn => ?_⟩
  have ha1 := ex.keep _ _ h1
  have nz : ∀ b, b ∈ l ++ (a :: g) ++ r → ¬ Z1 b := fun b hb z => by
    rcases ex.zn b z with z | z
    · exact (k b hb).1 z
    · obtain ⟨vs, q⟩ := dm b hb
      rw [q] at z; cases z
  have ke : ∀ b, b ∈ l ++ (a :: g) ++ r → H1 b = H b := fun b hb => by
    obtain ⟨ws, q⟩ := dm b hb
    rw [q]; exact ex.keep _ _ q
  have kp1 : Kp H1 Z1 (upd H1 a (.lst vs')) Z1 := ⟨fun _ z => z, fun b u z e => by
    have nb : b ≠ a := fun q => nz a (mem a List.mem_cons_self) (q ▸ z)
    rw [upd_ne nb]; exact e, fun b xs e => by
    have nb : b ≠ a := fun q => by
      rw [q] at e
      rcases e with e | ⟨_, e⟩ <;> (rw [ha1] at e; cases e)
    rcases e with e | ⟨u, e⟩
    · exact .inl (by rw [upd_ne nb]; exact e)
    · exact .inr ⟨u, by rw [upd_ne nb]; exact e⟩, fun b u x e => by
    have nb : b ≠ a := fun q => by
      rw [q, ha1] at e; cases e
    rw [upd_ne nb]; exact e⟩
  have na' : a ∉ g' := fun z => by
    rcases hn a z with q | q
    · exact na.1 q
    · rw [q.1] at h1; cases h1
  have ho' : Owns (upd H1 a (.lst vs')) Z1 K os' vs' g' := Owns.frame kp1 os' vs' g' (fun b hb => by
    have nb : b ≠ a := fun q => na' (q ▸ hb)
    rw [upd_ne nb]) ho
  have q3 := q2 (upd H1 a (.lst vs')) Z1 (some (.w (.l os'))) (some (.ref a)) (a :: g') (ex.kp.trans kp1) (fun b hb => by
    have nb : b ≠ a := fun q => by
      subst q
      rcases hb with hb | hb
      · exact n3 b hb b (List.mem_append_left _ List.mem_cons_self) rfl
      · exact m3 b List.mem_cons_self b hb rfl
    rw [upd_ne nb]
    exact ke b (hb.elim (meml b) (memr b))) ⟨.ref a, rfl, a, vs', g', rfl, rfl, upd_same, ho'⟩
  have hσ : σ.set i (some (.ref a)) = σ := by
    apply List.ext_getElem?
    intro j
    rw [List.getElem?_set]
    split
    · rename_i hj
      subst hj
      have hi : i < σ.length := (List.getElem?_eq_some_iff.mp e1).1
      rw [e1]
      simp [hi]
    · rfl
  rw [hσ] at q3
  have far : ∀ b ∈ g', ∀ c, c ∈ l ∨ c ∈ r → b ≠ c := fun b hb c hc q => by
    subst q
    rcases hn b hb with z | z
    · rcases hc with hc | hc
      · exact n3 b hc b (List.mem_append_left _ (List.mem_cons_of_mem _ z)) rfl
      · exact m3 b (List.mem_cons_of_mem _ z) b hc rfl
    · obtain ⟨ws, q⟩ := dm b (hc.elim (meml b) (memr b))
      rw [z.1] at q; cases q
  refine ⟨⟨⟨fun b u e => ?_, fun b z => ex.zz b (S.ext.zz b z), fun b z => ?_, fun b z => ?_⟩, _, q3, ?_, fun b hb => ?_⟩, ex.kp.trans kp1⟩
  · have nb : b ≠ a := fun q => by
      rw [q, (k a (mem a List.mem_cons_self)).2] at e; cases e
    rw [upd_ne nb]
    exact ex.keep _ _ (S.ext.keep _ _ e)
  · rcases ex.zn b z with z | z
    · exact S.ext.zn b z
    · exact .inr (S.ext.back z)
  · by_cases q : b = a
    · rw [q, upd_same]; exact fun z => by cases z
    · rw [upd_ne q]; exact ex.zd b z
  · rw [List.append_assoc]
    refine List.nodup_append.mpr ⟨n1, List.nodup_append.mpr ⟨List.nodup_cons.mpr ⟨na', nd2⟩, m2, fun b hb c hc => ?_⟩, fun b hb c hc => ?_⟩
    · rcases List.mem_cons.mp hb with hb | hb
      · subst hb; exact m3 b List.mem_cons_self c hc
      · exact far b hb c (.inr hc)
    · rcases List.mem_append.mp hc with hc | hc
      · rcases List.mem_cons.mp hc with hc | hc
        · subst hc; exact n3 b hb c (List.mem_append_left _ List.mem_cons_self)
        · exact fun q => far c hc b (.inl hb) q.symm
      · exact n3 b hb c (List.mem_append_right _ hc)
  · rcases List.mem_append.mp hb with hb | hb
    · rcases List.mem_append.mp hb with hb | hb
      · exact ⟨nz b (meml b hb), (k b (meml b hb)).2⟩
      · rcases List.mem_cons.mp hb with hb | hb
        · subst hb; exact ⟨nz b (mem b List.mem_cons_self), (k b (mem b List.mem_cons_self)).2⟩
        · rcases hn b hb with z | z
          · exact ⟨nz b (mem b (List.mem_cons_of_mem _ z)), (k b (mem b (List.mem_cons_of_mem _ z))).2⟩
          · exact ⟨z.2, S.ext.back z.1⟩
    · exact ⟨nz b (memr b hb), (k b (memr b hb)).2⟩
/-- x.append(e) -/
theorem ps_app (i : Nat) {x : Str} {p1 p2 p3 : Pos} (hN : X.N[i]? = some x) (hv : Vis X.env.scope x) (hd : (x == ("__debug__" : Str)) = false) (hcd : (x == ("__classdict__" : Str)) = false)
    (hs : swapsWith (.Call (.Attribute (.Name x p1) "append" p2) [e] [] p3) none pos.line X.env = pure false)
    (hbase : attributeBase (.Name x p1) "append" X.env (eval (.Name x p1) X.env) = eval (.Name x p1) X.env)
    (hfew : ((backTo p3 (starEach [e] X.env)).all (fun x => !x.1) && (backToKw p3 (keywordEach [] X.env)).all (fun x => x.1.isSome) && decide ([e].length + ([] : List Keyword).length + (if ([] : List Keyword).isEmpty then 0 else 1) < 30)) = true)
    (hline : (p2.endLine == p3.line) = true) (hst : starEach [e] X.env = (false, eval e X.env) :: starEach [] X.env) (hplain : (backTo p3 (starEach [] X.env)).any (·.1) = false) (he : PuE X W e f) :
    PuS X W (.Expr (.Call (.Attribute (.Name x p1) "append" p2) [e] [] p3) pos) (sApp i f) := by
  obtain ⟨t, p, q⟩ := he.ex
  refine ⟨_, ps_expr (pe_bm PySem.F.plainAttrs_list PySem.F.slot_list_append PySem.F.type_list_append mt_append (pe_var (i := i) hN hv hd hcd) (pa_cons p pa_nil hst) hbase hfew hline hst hplain) hs, ?_⟩
  intro H0 Z0 H Z σ ρ S D h
  show tVar i σ H fun x H1 => tyV X.K "list" x H1 ∧ t σ H1 fun y H2 => rAppend x [y] H2 fun _ H3 => D.nx σ H3
  unfold sApp at h
  -- the name holds a list of one's own
  split at h
  · rename_i os hr
    obtain ⟨a, vs, g, e1, h1, h2, nd, mu⟩ := S.mutL hr
    refine ⟨.ref a, e1, .inl ⟨rfl, vs, SqL.of h1⟩, q S _ ?_⟩
    revert h
    unfold PostE Res.out
    cases f ρ with
    | bad => exact id
    | err cn d => exact fun h => PostS.errE S h
    | ok o =>
      dsimp only
      by_cases hc : os.length < lineMax ∧ nS o = true
      · rw [if_pos hc]
        intro h w H1 Z1 f' ex ow n
        obtain ⟨S', k'⟩ := mu H1 Z1 ex (os ++ [o]) (vs ++ [w]) (g ++ f') (Owns.app (h2.ext ex) ⟨w, [], f', [], rfl, by simp, ow, ⟨rfl, rfl⟩, hc.2⟩) (List.nodup_append.mpr ⟨nd, (n trivial).1, fun b hb c hc q => by
            obtain ⟨ws, z⟩ := Owns.dom _ _ _ h2 b hb
            rw [q, ((n trivial).2 c hc).2] at z; cases z⟩) fun b hb => by
          rcases List.mem_append.mp hb with hb | hb
          · exact .inl hb
          · exact .inr ⟨((n trivial).2 b hb).2, ((n trivial).2 b hb).1⟩
        exact ⟨a, vs, w, rfl, rfl, ex.keep _ _ h1, by rw [h2.length, ← line_eq]; exact hc.1, h σ _ Z1 k' S'⟩
      · rw [if_neg hc]
        exact fun h => h.elim
  · exact h.elim
end

/-! ### for -/
section
variable {X : Cx} {W : WX} {own : Prop} {e a b c tg it : Expr} {f fa fb fc : EV} {pos : Pos} {H0 H H' : Hp} {Z0 : Ent} {Z Z' : Zs} {σ : St} {ρ : Env} {ta tb : EB} {st : Stmt} {sts sts' body : List Stmt} {fs gs : ES} {D : Ends} {g : EG} {fi : EI}
theorem ps_for' (hp : PassesOwn (model X.prog X.w) X.A X.env X.xe) (hc : X.calm = true) (hs : ∀ x, foldedSetIterable it X.env x = pure x) (hi : PIX X W True tg it fi) (hg : PuG X tg g) (hb : PuSs X W body fs) : PuS X W (.For tg it body [] pos) (sFor fi g fs) := by
  obtain ⟨w, p, q⟩ := hi.ex
  obtain ⟨u, p1, q1⟩ := hg.ex
  obtain ⟨t, p2, q2⟩ := hb.ex
  refine ⟨_, ps_for hp hc p p1 p2 hs, ?_⟩
  intro H0 Z0 H Z σ ρ S D h
  unfold tFor
  refine q S _ ?_
  revert h
  unfold sFor PostI Res.out
  cases fi ρ with
  | bad => exact id
  | err cn d => exact fun h => PostS.errE S h
  | ok items =>
    dsimp only
    cases ez : allZ items with
    | none => exact fun h => h.elim
    | some ds =>
      have eI := allZ_eq ez
      subst eI
      intro h J H1 Z1 ex feed
      refine ⟨fun i m σ' H' => m = ds.length - i ∧ i ≤ ds.length ∧ ∃ Z' ρ', Kp H1 Z1 H' Z' ∧ SR X.K H0 Z0 H' Z' σ' ρ' ∧ PostS X W H0 Z0 H' Z' D (forGo g fs ((ds.drop i).map .z) ρ'), ⟨ds.length, by simp, Nat.zero_le _, Z1, ρ, Kp.refl, S.grow ex, PostS.grow h ex.kp⟩, ?_⟩
      rintro i m σ' H' ⟨rfl, hi, Z', ρ', kp, S', h'⟩
      obtain ⟨fd1, fd2⟩ := feed i H' Z' (fun _ => kp) (fun n => absurd trivial n) S'.ext.zd
      by_cases hlt : i < ds.length
      · have eg : (ds.map O.z)[i]? = some (.z ds[i]) := by rw [List.getElem?_map, List.getElem?_eq_getElem hlt]; rfl
        obtain ⟨go, yl⟩ := fd1 _ eg
        rw [List.drop_eq_getElem_cons hlt, List.map_cons, forGo] at h'
        cases e1 : g (.z ds[i]) ρ' with
        | none => rw [e1] at h'; exact h'.elim
        | some ρ1 =>
          rw [e1] at h'
          dsimp only at h'
          refine .inr ⟨go, fun σ2 H2 => ∃ m', m' < ds.length - i ∧ m' = ds.length - (i + 1) ∧ i + 1 ≤ ds.length ∧ ∃ Z2 ρ2, Kp H1 Z1 H2 Z2 ∧ SR X.K H0 Z0 H2 Z2 σ2 ρ2 ∧ PostS X W H0 Z0 H2 Z2 D (forGo g fs ((ds.drop (i + 1)).map .z) ρ2), fun _ _ h => h, fun x H3 y => ?_⟩
          obtain ⟨Z3, gx, ex3, ox⟩ := yl x H3 y
          have ogx : gx = [] := ox.1
          subst ogx
          refine q1 [] [] (.z ds[i]) x ρ1 rfl (S'.push ex3 ox New.nil) e1 _ fun σ2 S2 => ?_
          refine q2 (show SR X.K H0 Z0 H3 Z3 σ2 ρ1 from S2) _ ?_
          have nxt : ∀ {ρ2 : Env}, PostS X W H0 Z0 H' Z' D (forGo g fs ((ds.drop (i + 1)).map .z) ρ2) → ∀ σ3 H4 Z4, Kp H3 Z3 H4 Z4 → SR X.K H0 Z0 H4 Z4 σ3 ρ2 → ∃ m', m' < ds.length - i ∧ m' = ds.length - (i + 1) ∧ i + 1 ≤ ds.length ∧ ∃ Z2 ρ2, Kp H1 Z1 H4 Z2 ∧ SR X.K H0 Z0 H4 Z2 σ3 ρ2 ∧ PostS X W H0 Z0 H4 Z2 D (forGo g fs ((ds.drop (i + 1)).map .z) ρ2) :=
            fun {ρ2} h2 σ3 H4 Z4 k4 S4 => ⟨_, by omega, rfl, hlt, Z4, ρ2, (kp.trans ex3.kp).trans k4, S4, PostS.grow h2 (ex3.kp.trans k4)⟩
          revert h'
          cases fs ρ1 with
          | nx ρ2 => exact fun h2 => nxt h2
          | ct ρ2 => exact fun h2 => nxt h2
          | bk ρ2 => exact fun h2 σ3 H4 Z4 k4 S4 => h2 σ3 H4 Z4 (ex3.kp.trans k4) S4
          | rt o => exact fun h2 => h2
          | err cn d ρ2 => exact fun h2 => PostS.grow (r := .err cn d ρ2) h2 ex3.kp
          | bad => exact fun h2 => h2
      · have ei : i = ds.length := by omega
        subst ei
        rw [List.drop_length] at h'
        exact .inl ⟨fd2 (by rw [List.length_map]), h' σ' H' Z' Kp.refl S'⟩
end

/-! ### comprehensions -/
/-- a target of a comprehension: what is not data is lent; vs: the slots that it stores -/
structure PuL (X : Cx) (tg : Expr) (ga : EG) (vs : List Nat) : Prop where
  ex : ∃ t : TG, PG X tg t ∧ ∀ {H0 Z0 H Z σ ρ}, SR X.K H0 Z0 H Z σ ρ → ∀ o v g ρ', Own H0 Z0.z X.K o v g → ga o ρ = some ρ' → ∀ Q, (∀ σ', SR X.K H0 Z0 H Z σ' ρ' → σ'.length = σ.length → (∀ j, j ∉ vs → σ'[j]? = σ[j]?) → Q σ' H) → t v σ H Q
structure PuLs (X : Cx) (tgs : List Expr) (gs : List EG) (vs : List Nat) : Prop where
  ex : ∃ t : TGs, PGs X tgs t ∧ ∀ {H0 Z0 H Z σ ρ}, SR X.K H0 Z0 H Z σ ρ → ∀ os ws g ρ', Owns H0 Z0.z X.K os ws g → tTs gs os ρ = some ρ' → ∀ Q, (∀ σ', SR X.K H0 Z0 H Z σ' ρ' → σ'.length = σ.length → (∀ j, j ∉ vs → σ'[j]? = σ[j]?) → Q σ' H) → t ws σ H Q
section
variable {K : PySem.W.Frag} {H0 H H' : Hp} {Z0 : Ent} {Z Z' : Zs} {σ : St} {ρ : Env} {o : O} {v : V}
theorem SR.putL (S : SR K H0 Z0 H Z σ ρ) {g : List Addr} (h : Own H0 Z0.z K o v g) (i : Nat) : SR K H0 Z0 H Z (σ.set i (some v)) (ρ.set i (some (lent o))) := by
  have main : SlOk H0 Z0 H Z K (some (lent o)) (some v) [] := by
    cases o with
    | z d => exact ⟨v, rfl, rfl, RZ.kp S.ext.kp d v h.2⟩
    | _ => exact ⟨rfl, v, g, rfl, h⟩
  obtain ⟨fp, hs, nd, k⟩ := S.own
  by_cases hi : i < ρ.length
  · obtain ⟨w, f, g1, g2, e1, e2, rfl, q⟩ := Sls.part hs (List.getElem?_eq_getElem hi)
    refine ⟨S.ext, g1 ++ [] ++ g2, q H Z _ _ [] Kp.refl (fun _ _ => rfl) main, ?_, fun a ha => k a ?_⟩
    · rw [List.append_assoc, List.nodup_append] at nd
      rw [List.append_nil]
      exact List.nodup_append.mpr ⟨nd.1, (List.nodup_append.mp nd.2.1).2.1, fun a ha b hb => nd.2.2 a ha b (List.mem_append_right _ hb)⟩
    · rw [List.append_nil] at ha
      rcases List.mem_append.mp ha with ha | ha
      · exact List.mem_append_left _ (List.mem_append_left _ ha)
      · exact List.mem_append_right _ ha
  · have hl := Sls.len hs
    rw [List.set_eq_of_length_le (by omega), List.set_eq_of_length_le (by omega)]
    exact S
theorem wipe_get {σ : St} {j : Nat} : ∀ {vs : List Nat}, j ∉ vs → (wipe σ vs)[j]? = σ[j]?
  | [], _ => rfl
  | v :: vs, h => by
    rw [wipe, List.getElem?_set_ne (fun e => h (by rw [← e]; exact List.mem_cons_self))]
    exact wipe_get fun z => h (List.mem_cons_of_mem _ z)
theorem wipe_in {σ : St} {j : Nat} : ∀ {vs : List Nat}, j ∈ vs → j < σ.length → (wipe σ vs)[j]? = some none
  | v :: vs, h, hl => by
    rw [wipe]
    by_cases e : v = j
    · subst e
      exact List.getElem?_set_self (by rw [wipe_length]; exact hl)
    · rw [List.getElem?_set_ne e]
      exact wipe_in ((List.mem_cons.mp h).resolve_left fun q => e q.symm) hl
theorem wipe_same {σ τ : St} {vs : List Nat} (hl : τ.length = σ.length) (h : ∀ j, j ∉ vs → τ[j]? = σ[j]?) : wipe τ vs = wipe σ vs := by
  apply List.ext_getElem?
  intro j
  by_cases hj : j ∈ vs
  · by_cases hlt : j < σ.length
    · rw [wipe_in hj hlt, wipe_in hj (by rw [hl]; exact hlt)]
    · rw [List.getElem?_eq_none (by rw [wipe_length]; omega), List.getElem?_eq_none (by rw [wipe_length]; omega)]
  · rw [wipe_get hj, wipe_get hj, h j hj]
theorem wipe_wipe (σ : St) (vs : List Nat) : wipe (wipe σ vs) vs = wipe σ vs := wipe_same (wipe_length σ vs) fun j hj => wipe_get hj
/-- the slots in a comprehension -/
theorem SR.lend (S : SR K H0 Z0 H Z σ ρ) (vs : List Nat) : SR K H ⟨Z, .non⟩ H Z (wipe σ vs) (U.lend (wipeE ρ vs)) := by
  refine ⟨Ext.refl S.ext.zd, [], ?_, List.nodup_nil, fun _ h => by cases h⟩
  obtain ⟨fp, hs, nd, k⟩ := S.own
  have e0 := S.ext
  clear nd k S
  have h1 : ∀ vs, ∃ f, Sls H0 Z0 H Z K (wipeE ρ vs) (wipe σ vs) f := by
    intro vs
    induction vs with
    | nil => exact ⟨fp, hs⟩
    | cons v vs ih =>
      obtain ⟨f, hf⟩ := ih
      rw [wipeE, wipe]
      by_cases hi : v < (wipeE ρ vs).length
      · obtain ⟨w, f, g1, g2, e1, e2, rfl, q⟩ := Sls.part hf (List.getElem?_eq_getElem hi)
        exact ⟨_, q H Z none none [] Kp.refl (fun _ _ => rfl) rfl⟩
      · have hl := Sls.len hf
        rw [List.set_eq_of_length_le (by omega), List.set_eq_of_length_le (by omega)]
        exact ⟨f, hf⟩
  obtain ⟨f, hf⟩ := h1 vs
  generalize wipeE ρ vs = ρ' at hf ⊢
  generalize wipe σ vs = σ' at hf ⊢
  clear hs h1
  induction ρ' generalizing σ' f with
  | nil => exact ⟨hf.1, rfl⟩
  | cons s ρ' ih =>
    obtain ⟨w, τ, f1, g1, rfl, rfl, h1, h2⟩ := hf
    refine ⟨w, τ, [], [], rfl, rfl, ?_, ih _ _ h2⟩
    cases s with
    | none => rfl
    | some s =>
      cases s with
      | w o =>
        obtain ⟨v, rfl, h3⟩ := h1
        cases o with
        | z d => exact ⟨v, rfl, rfl, h3.2⟩
        | _ => exact ⟨rfl, v, f1, rfl, h3⟩
      | r o =>
        obtain ⟨_, v, g, rfl, h3⟩ := h1
        exact ⟨rfl, v, g, rfl, h3.ext e0⟩
      | p o =>
        obtain ⟨rfl, h3⟩ := h1
        cases o with
        | z d => exact ⟨_, rfl, rfl, h3.2⟩
        | _ => exact ⟨rfl, _, f1, rfl, h3⟩
end
section
variable {X : Cx} {W : WX} {own : Prop} {e a b c tg it el : Expr} {f fa fb fc : EV} {pos : Pos} {H0 H H' : Hp} {Z0 : Ent} {Z Z' : Zs} {σ : St} {ρ : Env} {ta tb : EB} {g : EG} {gs : List EG} {fi : EI} {vs : List Nat} {tgs : List Expr}
theorem pl_n (i : Nat) {x : Str} (hN : X.N.Nodup) (hi : X.N[i]? = some x) (hx : Loc X.env.scope x) (hf : X.fn x = true ∨ X.env.scope.names.lookup x = some .local) (hv : i ∈ vs) : PuL X (.Name x pos) (tNr i) vs := by
  refine ⟨_, pg_name hN hi hx hf, ?_⟩
  intro H0 Z0 H Z σ ρ S o v g ρ' ho e Q h
  cases e
  exact h _ (S.putL ho i) (List.length_set ..) fun j hj => List.getElem?_set_ne fun (z : i = j) => hj (z ▸ hv)
theorem pls_nil : PuLs X [] [] vs := by
  refine ⟨_, pgs_nil, ?_⟩
  intro H0 Z0 H Z σ ρ S os ws g ρ' ho e Q h
  cases os with
  | nil =>
    cases e
    exact ⟨ho.1, h σ S rfl fun _ _ => rfl⟩
  | cons _ _ => cases e
theorem pls_cons (h : PuL X tg g vs) (hs : PuLs X tgs gs vs) (ha : (assignEach (tg :: tgs) X.env).map (·.2) = assign tg X.env :: (assignEach tgs X.env).map (·.2)) : PuLs X (tg :: tgs) (g :: gs) vs := by
  obtain ⟨t, p, q⟩ := h.ex
  obtain ⟨u, p', q'⟩ := hs.ex
  refine ⟨_, pgs_cons p p' ha, ?_⟩
  intro H0 Z0 H Z σ ρ S os ws g0 ρ' ho e Q k
  cases os with
  | nil => cases e
  | cons o os =>
    obtain ⟨v, r, f1, f2, rfl, rfl, h1, h2, h3⟩ := ho
    refine ⟨v, r, rfl, ?_⟩
    rw [tTs] at e
    cases e1 : g o ρ with
    | none => rw [e1] at e; cases e
    | some ρ1 =>
      rw [e1] at e
      exact q S o v f1 ρ1 h1 e1 _ fun σ1 S1 l1 d1 => q' S1 os r f2 ρ' h2 e Q fun σ2 S2 l2 d2 => k σ2 S2 (l2.trans l1) fun j hj => (d2 j hj).trans (d1 j hj)
theorem tTs_len : ∀ {gs : List EG} {os : List O} {ρ ρ' : Env}, tTs gs os ρ = some ρ' → os.length = gs.length
  | [], [], _, _, _ => rfl
  | [], _ :: _, _, _, e => by cases e
  | _ :: _, [], _, _, e => by cases e
  | g :: gs, o :: os, ρ, ρ', e => by
    rw [tTs] at e
    cases e1 : g o ρ with
    | none => rw [e1] at e; cases e
    | some ρ1 =>
      rw [e1] at e
      rw [List.length_cons, List.length_cons, tTs_len e]
theorem pl_t {es : List Expr} {k n : Nat} (hc : X.calm = true) (h : PuLs X es gs vs) (hn : (assignEach es X.env).length = n) (hst : (assignEach es X.env).findIdx? (·.1) = none) (hg : gs.length = n) : PuL X (.Tuple es k pos) (tT gs) vs := by
  obtain ⟨t, p, q⟩ := h.ex
  refine ⟨_, pg_tup hc p hn hst, ?_⟩
  intro H0 Z0 H Z σ ρ S o v g ρ' ho e Q k
  unfold tT at e
  cases et : tupO o with
  | none => rw [et] at e; cases e
  | some os =>
    rw [et] at e
    obtain ⟨a, ws, rfl, h1, h2⟩ := ho.tup et
    exact ⟨a, ws, rfl, SqT.kp S.ext.kp h1, by rw [h2.length, ← hg]; exact tTs_len e, q S os ws g ρ' h2 e Q k⟩
structure PTs' (X : Cx) (ifs : List Expr) (f : EB) : Prop where
  ex : ∃ t : TT, PTs X ifs t ∧ SatT X (fun _ _ _ _ => False) t f
theorem pts_no : PTs' X [] U.tYes := ⟨_, pts_nil, fun S Q h => h _ _ (Ext.refl S.ext.zd)⟩
theorem pts_1 (h : PuT X (fun _ _ _ _ => False) c ta) : PTs' X [c] ta := by
  obtain ⟨t, p, q⟩ := h.ex
  exact ⟨t, pts_one p, q⟩
abbrev WF : WX := fun _ _ _ _ => False
theorem lcGo_cons {o : O} {os acc : List O} {ρ : Env} : lcGo g ta f ρ (o :: os) acc = (match g o ρ with
    | none => .bad
    | some ρ1 => (ta ρ1).nox.bind fun b => if b then (f ρ1).nox.bind fun o => if acc.length < lineMax ∧ nS o = true then lcGo g ta f ρ os (acc ++ [o]) else .bad else lcGo g ta f ρ os acc) := by
  rw [lcGo] <;> cases g o ρ <;> rfl
/-- the readings that f itself tells -/
def cE (X : Cx) (f : EV) : TE := fun σ H Q => ∃ H0 Z0 Z ρ, SR X.K H0 Z0 H Z σ ρ ∧ PostE X WF True σ H Z (f ρ) Q
def cT (X : Cx) (f : EB) : TT := fun σ H Q => ∃ H0 Z0 Z ρ, SR X.K H0 Z0 H Z σ ρ ∧ PostT X WF σ H Z (f ρ) Q
def cG (X : Cx) (vs : List Nat) (g : EG) : TG := fun v σ H Q => ∃ H0 Z0 Z ρ o fp ρ', SR X.K H0 Z0 H Z σ ρ ∧ Own H0 Z0.z X.K o v fp ∧ g o ρ = some ρ' ∧ ∀ σ', SR X.K H0 Z0 H Z σ' ρ' → σ'.length = σ.length → (∀ j, j ∉ vs → σ'[j]? = σ[j]?) → Q σ' H
theorem cE_ok {Y : Cx} (hK : Y.K = X.K) (hm : Y.mg = X.mg) (h : PuE Y WF el f) : PE Y el (cE X f) := by
  obtain ⟨t, p, q⟩ := h.ex
  refine ⟨fun pins s σ H Q I ⟨H0, Z0, Z, ρ, S, k⟩ => p.run pins s σ H Q I (q (by rw [hK]; exact S) Q ?_)⟩
  revert k
  unfold PostE ErrP
  rw [hK, hm]
  exact id
theorem cT_ok {Y : Cx} {ifs : List Expr} (hK : Y.K = X.K) (hm : Y.mg = X.mg) (h : PTs' Y ifs ta) : PTs Y ifs (cT X ta) := by
  obtain ⟨t, p, q⟩ := h.ex
  refine ⟨fun pins s σ H Q I ⟨H0, Z0, Z, ρ, S, k⟩ => p.run pins s σ H Q I (q (by rw [hK]; exact S) Q ?_)⟩
  revert k
  unfold PostT ErrP
  rw [hK, hm]
  exact id
theorem cG_ok {Y : Cx} (hK : Y.K = X.K) (h : PuL Y tg g vs) : PG Y tg (cG X vs g) := by
  obtain ⟨t, p, q⟩ := h.ex
  refine ⟨fun pins s σ H v u Q I r ⟨H0, Z0, Z, ρ, o, fp, ρ', S, ho, e, k⟩ => p.run pins s σ H v u Q I r (q (by rw [hK]; exact S) o v fp ρ' (by rw [hK]; exact ho) e Q (by rw [hK]; exact k))⟩
theorem sat_lc {w : TI} (q : ∀ {H0 Z0 H Z σ ρ}, SR X.K H0 Z0 H Z σ ρ → ∀ R, PostI X W False σ H Z (fi ρ) R → w σ H R) : Sat X W True (tLc w (cG X vs g) (cT X ta) (cE X f) vs) (eLc fi g ta f vs) := by
  intro H0 Z0 H Z σ ρ S Q h
  unfold tLc
  refine q S _ ?_
  revert h
  unfold eLc PostE PostI
  cases fi ρ with
  | bad => exact id
  | err cn d => exact id
  | ok items =>
    rw [Res.bind_ok]
    intro h J H1 Z1 ex feed D hD
    have S1 := S.grow ex
    have SL := S1.lend vs
    have eD := Ext.new (Z := Z1) (o := .lst []) ex.zd hD
    -- what is made so far: acc, at D
    refine ⟨fun i m H' => m = items.length - i ∧ i ≤ items.length ∧ ∃ Z' acc ws ga, Ext H1 Z1 H' Z' ∧ ¬ Z' D ∧ H' D = some (.lst ws) ∧ Owns H' Z' X.K acc ws ga ∧ New H1 Z' ga ∧ D ∉ ga ∧
      PostE X W True σ H Z ((lcGo g ta f (U.lend (wipeE ρ vs)) (items.drop i) acc).bind fun os => .ok (.l os)) Q, ⟨items.length, by simp, Nat.zero_le _, Z1, [], [], [], eD, fun z => ex.zd D z hD, upd_same, ⟨rfl, rfl⟩, New.nil, by simp, h⟩, ?_⟩
    rintro i m H' ⟨rfl, hi, Z', acc, ws, ga, ex', nzD, hD', oa, na, nD, h'⟩
    obtain ⟨fd1, fd2⟩ := feed i H' Z' (fun z => z.elim) (fun _ => ex') ex'.zd
    by_cases hlt : i < items.length
    · obtain ⟨go, yl⟩ := fd1 _ (List.getElem?_eq_getElem hlt)
      rw [List.drop_eq_getElem_cons hlt, lcGo_cons] at h'
      cases e1 : g items[i] (U.lend (wipeE ρ vs)) with
      | none => rw [e1] at h'; exact h'.elim
      | some ρ1 =>
        rw [e1] at h'
        dsimp only at h'
        refine .inr ⟨go, fun H2 => ∃ m', m' < items.length - i ∧ m' = items.length - (i + 1) ∧ i + 1 ≤ items.length ∧ ∃ Z' acc ws ga, Ext H1 Z1 H2 Z' ∧ ¬ Z' D ∧ H2 D = some (.lst ws) ∧ Owns H2 Z' X.K acc ws ga ∧ New H1 Z' ga ∧ D ∉ ga ∧
          PostE X W True σ H Z ((lcGo g ta f (U.lend (wipeE ρ vs)) (items.drop (i + 1)) acc).bind fun os => .ok (.l os)) Q, fun _ z => z, fun x H3 y => ?_⟩
        obtain ⟨Z3, gx, ex3, ox⟩ := yl x H3 y
        have ex13 := ex'.trans ex3
        have D3 := ex3.keep _ _ hD'
        have nz3 : ¬ Z3 D := fun z => by
          rcases ex3.zn D z with z | z
          · exact nzD z
          · rw [hD'] at z; cases z
        -- the target: as if the block began here
        refine ⟨H3, ⟨Z3, .non⟩, Z3, U.lend (wipeE ρ vs), items[i], gx, ρ1, (S1.grow ex13).lend vs, ox, e1, fun σ2 S2 l2 d2 => ⟨?_, ?_⟩⟩
        · rw [wipe_same l2 d2, wipe_wipe]
        · -- the test
          refine ⟨H3, ⟨Z3, .non⟩, Z3, ρ1, S2, ?_⟩
          revert h'
          unfold PostT
          cases ta ρ1 with
          | bad => exact fun z => z.elim
          | err cn d => exact fun z => z.elim
          | ok b =>
            rw [Res.nox_ok, Res.bind_ok]
            intro h' H4 Z4 ex4
            have D4 := ex4.keep _ _ D3
            have nz4 : ¬ Z4 D := fun z => by
              rcases ex4.zn D z with z | z
              · exact nz3 z
              · rw [D3] at z; cases z
            have ex14 := ex13.trans ex4
            have ex04 := ex3.trans ex4
            cases b with
            | false =>
              rw [if_neg Bool.false_ne_true] at h' ⊢
              exact ⟨_, by omega, rfl, hlt, Z4, acc, ws, ga, ex14, nz4, D4, oa.ext ex04, na.later (K := X.K) (fun a ha => oa.ne ha) ex04, nD, h'⟩
            | true =>
              rw [if_pos rfl] at h' ⊢
              refine ⟨H3, ⟨Z3, .non⟩, Z4, ρ1, S2.grow ex4, ?_⟩
              revert h'
              unfold PostE
              cases f ρ1 with
              | bad => exact fun z => z.elim
              | err cn d => exact fun z => z.elim
              | ok o =>
                rw [Res.nox_ok, Res.bind_ok]
                by_cases hcc : acc.length < lineMax ∧ nS o = true
                · rw [if_pos hcc]
                  intro h' v5 H5 Z5 g5 ex5 o5 n5
                  have n5' := n5 trivial
                  have D5 := ex5.keep _ _ D4
                  have ex05 := ex04.trans ex5
                  have ex15 := ex14.trans ex5
                  have nz5 : ¬ Z5 D := fun z => by
                    rcases ex5.zn D z with z | z
                    · exact nz4 z
                    · rw [D4] at z; cases z
                  have oa5 := oa.ext ex05
                  have na5 := na.later (K := X.K) (fun a ha => oa.ne ha) ex05
                  refine ⟨ws, D5, by rw [oa.length, ← line_eq]; exact hcc.1, ?_⟩
                  have nD5 : D ∉ ga ++ g5 := fun z => by
                    rcases List.mem_append.mp z with z | z
                    · exact nD z
                    · rw [(n5'.2 D z).2] at D4; cases D4
                  have kp6 : Kp H5 Z5 (upd H5 D (.lst (ws ++ [v5]))) Z5 := ⟨fun _ z => z, fun b u z e => by
                    have nb : b ≠ D := fun q => nz5 (q ▸ z)
                    rw [upd_ne nb]; exact e, fun b xs e => by
                    have nb : b ≠ D := fun q => by
                      rw [q] at e
                      rcases e with e | ⟨_, e⟩ <;> (rw [D5] at e; cases e)
                    rcases e with e | ⟨u, e⟩
                    · exact .inl (by rw [upd_ne nb]; exact e)
                    · exact .inr ⟨u, by rw [upd_ne nb]; exact e⟩, fun b u x e => by
                    have nb : b ≠ D := fun q => by
                      rw [q, D5] at e; cases e
                    rw [upd_ne nb]; exact e⟩
                  refine ⟨_, by omega, rfl, hlt, Z5, acc ++ [o], ws ++ [v5], ga ++ g5, ⟨fun b u e => ?_, ex15.zz, ex15.zn, fun b z => ?_⟩, nz5, upd_same, ?_, ?_, nD5, h'⟩
                  · rw [upd_ne (ne_of_none e hD)]
                    exact ex15.keep _ _ e
                  · by_cases q : b = D
                    · rw [q, upd_same]; exact fun z => by cases z
                    · rw [upd_ne q]; exact ex15.zd b z
                  · refine Owns.frame kp6 _ _ _ (fun b hb => ?_) (Owns.app oa5 ⟨v5, [], g5, [], rfl, by simp, o5, ⟨rfl, rfl⟩, hcc.2⟩)
                    have nb : b ≠ D := fun q => nD5 (q ▸ hb)
                    rw [upd_ne nb]
                  · refine ⟨List.nodup_append.mpr ⟨na5.1, n5'.1, fun b hb c hc q => ?_⟩, fun b hb => ?_⟩
                    · have := (oa.ext ex04).ne hb
                      rw [q] at this
                      exact this (n5'.2 c hc).2
                    · rcases List.mem_append.mp hb with hb | hb
                      · exact na5.2 b hb
                      · exact ⟨(n5'.2 b hb).1, ex14.back (n5'.2 b hb).2⟩
                · rw [if_neg hcc]
                  exact fun z => z.elim
    · have ei : i = items.length := by omega
      subst ei
      rw [List.drop_length, lcGo] at h'
      refine .inl ⟨fd2 rfl, h' (.ref D) H' Z' (D :: ga) (ex.trans ex') ⟨D, ws, ga, rfl, rfl, hD', oa⟩ fun _ => ⟨List.nodup_cons.mpr ⟨nD, na.1⟩, fun b hb => ?_⟩⟩
      rcases List.mem_cons.mp hb with hb | hb
      · subst hb; exact ⟨nzD, ex.back hD⟩
      · exact ⟨(na.2 b hb).1, ex.back (na.2 b hb).2⟩
theorem pu_lc {ifs : List Expr} {scope : Scope} {own' : List (Str × Nat)} (hc : X.calm = true) (hN : X.N.Nodup) (hvs : own'.map (·.2) = vs) (ok : BlkOk X.N X.env.scope scope own') (hs : ∀ x, foldedSetIterable it X.env x = pure x) (hi : PIX X W False tg it fi)
    (hg : ∀ (s : Shared) (H : Hp) (C : Addr) (cl : List (Str × Addr)) (fp : List Addr), PuL (X.blk s H scope (compEnvC scope cl C X.env) fp) tg g vs)
    (ht : ∀ (s : Shared) (H : Hp) (C : Addr) (cl : List (Str × Addr)) (fp : List Addr), PTs' (X.blk s H scope (compEnvC scope cl C X.env) fp) ifs ta)
    (he : ∀ (s : Shared) (H : Hp) (C : Addr) (cl : List (Str × Addr)) (fp : List Addr), PuE (X.blk s H scope (compEnvC scope cl C X.env) fp) WF el f) :
    PuE X W (.ListComp el [⟨tg, it, ifs, 0⟩] scope pos) (eLc fi g ta f vs) := by
  obtain ⟨w, p, q⟩ := hi.ex
  have h := pe_lc (pos := pos) (g := cG X vs g) (tt := cT X ta) (te := cE X f) hc hN p ok (fun s H C cl fp => cG_ok rfl (hg s H C cl fp)) (fun s H C cl fp => cT_ok rfl rfl (ht s H C cl fp)) (fun s H C cl fp => cE_ok rfl rfl (he s H C cl fp)) hs
  rw [hvs] at h
  exact ⟨_, h, sat_lc q⟩
/-- y = [..] on one line -/
theorem ps_lc (i : Nat) {y : Str} {py spos : Pos} {ifs : List Expr} {scope : Scope} {own' : List (Str × Nat)} (hc : X.calm = true) (hN : X.N.Nodup) (hy : X.N[i]? = some y) (hyl : X.env.scope.names.lookup y = some .local)
    (hsw : swapsWith (.ListComp el [⟨tg, it, ifs, 0⟩] scope pos) (some (.Name y py)) spos.line X.env = pure true) (hvs : own'.map (·.2) = vs) (ok : BlkOk X.N X.env.scope scope own') (hs : ∀ x, foldedSetIterable it X.env x = pure x) (hi : PIX X W False tg it fi)
    (hg : ∀ (s : Shared) (H : Hp) (C : Addr) (cl : List (Str × Addr)) (fp : List Addr), PuL (X.blk s H scope (compEnvC scope cl C X.env) fp) tg g vs)
    (ht : ∀ (s : Shared) (H : Hp) (C : Addr) (cl : List (Str × Addr)) (fp : List Addr), PTs' (X.blk s H scope (compEnvC scope cl C X.env) fp) ifs ta)
    (he : ∀ (s : Shared) (H : Hp) (C : Addr) (cl : List (Str × Addr)) (fp : List Addr), PuE (X.blk s H scope (compEnvC scope cl C X.env) fp) WF el f) :
    PuS X W (.Assign [.Name y py] (.ListComp el [⟨tg, it, ifs, 0⟩] scope pos) spos) (sAsg (eLc fi g ta f vs) (tN i)) := by
  obtain ⟨w, p, q⟩ := hi.ex
  have h := ps_setLc (i := i) (py := py) (spos := spos) (pos := pos) (g := cG X vs g) (tt := cT X ta) (te := cE X f) hc hN hy hyl hsw p ok (fun s H C cl fp => cG_ok rfl (hg s H C cl fp)) (fun s H C cl fp => cT_ok rfl rfl (ht s H C cl fp)) (fun s H C cl fp => cE_ok rfl rfl (he s H C cl fp)) hs
  rw [hvs] at h
  refine ⟨_, h, ?_⟩
  intro H0 Z0 H Z σ ρ S D h
  unfold tAsg
  refine sat_lc (W := W) q S _ ?_
  revert h
  unfold sAsg PostE Res.out
  cases eLc fi g ta f vs ρ with
  | bad => exact id
  | err cn d => exact fun h => PostS.errE S h
  | ok o => exact fun h v H1 Z1 g1 e1 o1 n1 => h _ H1 Z1 e1.kp ((S.push e1 o1 (n1 trivial)).pop i)
end
/-! ### defs -/
/-- a def's promise: its value is F's -/
def spU (K : PySem.W.Frag) (mg : Str → Option Value) (n : Nat) (F : List O → Res O) : Sp := fun vs H Q E => ∃ (Z : Zs) (os : List O) (fp : List Addr), (∀ a, Z a → H a ≠ none) ∧ os.length = n ∧ OwnA H Z K os vs fp ∧ match F os with
  | .ok o => ∀ v H' Z' g, Ext H Z H' Z' → Own H' Z' K o v g → New H Z' g → Q v H'
  | .err c d => ∀ C dx v H' Z', mg c = some (.ref C) → Ext H Z H' Z' → H' dx = some (.xd [("at", v)]) → RZ H' Z' K d v → E (.ref C) (some dx) H'
  | .bad => False
section
variable {P : Program} {w : World} {K : PySem.W.Frag} {mg : Str → Option Value} {base : Heap}
theorem Sls.app {H0 H : Hp} {Z0 : Ent} {Z : Zs} : ∀ {ρ θ : Env} {σ τ : St} {f g : List Addr}, Sls H0 Z0 H Z K ρ σ f → Sls H0 Z0 H Z K θ τ g → Sls H0 Z0 H Z K (ρ ++ θ) (σ ++ τ) (f ++ g)
  | [], θ, σ, τ, f, g, h, h' => by rw [h.1, h.2]; exact h'
  | s :: ρ, θ, σ, τ, f, g, h, h' => by
    obtain ⟨w, σ', f1, g1, rfl, rfl, h1, h2⟩ := h
    exact ⟨w, σ' ++ τ, f1, g1 ++ g, rfl, by rw [List.append_assoc], h1, Sls.app h2 h'⟩
theorem sls_none {H0 H : Hp} {Z0 : Ent} {Z : Zs} : ∀ n : Nat, Sls H0 Z0 H Z K (List.replicate n none) (List.replicate n none) []
  | 0 => ⟨rfl, rfl⟩
  | n + 1 => ⟨none, _, [], [], rfl, rfl, rfl, sls_none n⟩
theorem sls_args {H H' : Hp} {Z : Zs} {u : V} {Z' : Zs} (e : Ext H Z H' Z') : ∀ {os : List O} {vs : List V} {fp : List Addr}, OwnA H Z K os vs fp → Sls H ⟨Z, u⟩ H' Z' K (os.map fun o => some (lent o)) (vs.map some) []
  | [], vs, fp, h => by rw [h.1]; exact ⟨rfl, rfl⟩
  | o :: os, vs, fp, h => by
    obtain ⟨v, r, f, g, rfl, rfl, h1, h2⟩ := h
    refine ⟨some v, r.map some, [], [], rfl, rfl, ?_, sls_args e h2⟩
    cases o with
    | z d => exact ⟨v, rfl, rfl, RZ.ext e h1.2⟩
    | _ => exact ⟨rfl, v, f, rfl, h1⟩
theorem SR.start {H : Hp} {Z : Zs} {os : List O} {vs : List V} {fp : List Addr} {N : List Str} (hz : ∀ a, Z a → H a ≠ none) (h : OwnA H Z K os vs fp) : SR K H ⟨Z, .non⟩ H Z (L2.start N vs) (entry N.length os) := by
  refine ⟨Ext.refl hz, [], ?_, List.nodup_nil, fun _ h => by cases h⟩
  unfold L2.start entry
  rw [h.len]
  exact Sls.app (sls_args (Ext.refl hz) h) (sls_none _)
theorem spU_len {n : Nat} {F : List O → Res O} : ∀ vs H Q E, spU K mg n F vs H Q E → vs.length = n := by
  intro vs H Q E ⟨Z, os, fp, _, hn, h, _⟩
  rw [h.len, hn]
/-- a def of the text, by its body -/
theorem fnU {x qual : Str} {st : Stmt} {f : Addr} {fd : FuncData} {N ps : List Str} {k : Nat} {fs : ES} (F : Fun K x qual st f fd) (Sc : FnScope N ps (defScope st))
    (hb : ∀ (cdv : Value) (A : Around) (outer : List PySem.Env) (s : Shared) (H : Hp) (E : XK), A.guards = some [] → Room k (A.deeper (PyProof.Rows.envOfC qual (defScope st) s.heap.objs.size f cdv)) →
      PuSs (cxOf (L2.CX P w) P w K mg base N qual (defScope st) f cdv A outer s H E) (fun cls d _ H => E cls d H) (defBody st) fs) :
    FnG P w K mg base (L2.CX P w) (k + 1) f fd ps (spU K mg ps.length (run N.length fs)) := by
  refine FnG.mk' F Sc (spU_len _ _ _ _) fun cdv A outer s H vs Q E hg hr ⟨Z, os, fp, hz, hn, ho, h⟩ => ?_
  obtain ⟨t, p, q⟩ := (hb cdv A outer s H E hg hr).ex
  refine ⟨t, p, q (SR.start hz ho) _ ?_⟩
  revert h
  unfold run
  cases fs (entry N.length os) with
  | nx ρ' => exact fun h σ' H' Z' _ S => h .non H' Z' [] S.ext ⟨rfl, rfl⟩ New.nil
  | rt o => exact fun h v H' Z' g e o n => h v H' Z' g e o n
  | err c d ρ' => exact fun h C dx v σ' H' Z' m _ S hd r => h C dx v H' Z' m S.ext hd r
  | bk _ => exact fun h => h.elim
  | ct _ => exact fun h => h.elim
  | bad => exact fun h => h.elim
end
section
variable {X : Cx} {W : WX} {e : Expr} {es : List Expr} {fs : EA} {pos p : Pos}
/-- a call of a def -/
theorem pu_call {x : Str} {k : Nat} {f : Addr} {fd : FuncData} {ps : List Str} {F : List O → Res O} (G : FnG X.prog X.w X.K X.mg X.base (L2.CX X.prog X.w) k f fd ps (spU X.K X.mg ps.length F)) (gd : X.A.guards = some []) (hr : Room k X.A) (hg : Gl X x) (hm : X.mg x = some (.ref f)) (hk : PySem.W.keepIn X.K (.ref f) = true) (hb : Binds X.K fd ps [])
    (tk : Takes X W) (hlen : (e :: es).length = ps.length) (hdb : (x == ("__debug__" : Str)) = false) (he : starEach (e :: es) X.env = (false, eval e X.env) :: starEach es X.env) (hpl : (backTo pos (starEach es X.env)).any (·.1) = false) (ha : PuAB X W (e :: es) fs) :
    PuE X W (.Call (.Name x p) (e :: es) [] pos) (eCall F fs) := by
  obtain ⟨t, pa, q⟩ := ha.ex
  refine ⟨_, pe_callG G gd hr hg hm hk hb tk pa hdb he hpl, ?_⟩
  intro H0 Z0 H Z σ ρ S Q h
  unfold tCallS
  refine q S _ ?_
  revert h
  have hl : ∀ os, fs ρ = .ok os → os.length = ps.length := fun os e => (ha.len ρ os e).trans hlen
  revert hl
  unfold eCall PostA PostE
  cases fs ρ with
  | bad => exact fun _ => id
  | err cn d => exact fun _ => id
  | ok os =>
    intro hl h vs H1 Z1 g1 e1 o1 _
    refine ⟨Z1, os, g1, e1.zd, hl os rfl, o1, ?_⟩
    revert h
    rw [Res.bind_ok]
    cases F os with
    | bad => exact id
    | err cn d => exact fun h C dx v H2 Z2 m e2 hd r => h C dx v H2 Z2 m (e1.trans e2) hd r
    | ok o => exact fun h v H2 Z2 g2 e2 o2 n2 => h v H2 Z2 g2 (e1.trans e2) o2 fun _ => n2.grow e1
/-- what callers know of a def -/
structure Cal (P : Program) (w : World) (K : PySem.W.Frag) (mg : Str → Option Value) (base : Heap) (x : Str) (k n : Nat) (F : List O → Res O) : Prop where
  ex : ∃ (f : Addr) (fd : FuncData) (ps : List Str), FnG P w K mg base (L2.CX P w) k f fd ps (spU K mg ps.length F) ∧ mg x = some (.ref f) ∧ PySem.W.keepIn K (.ref f) = true ∧ Binds K fd ps [] ∧ ps.length = n
theorem pu_cal {x : Str} {k k' n : Nat} {F : List O → Res O} (c : Cal X.prog X.w X.K X.mg X.base x k n F) (gd : X.A.guards = some []) (hr : Room k' X.A) (hk : k ≤ k') (tk : Takes X W) (ha : PuAB X W (e :: es) fs) (hlen : (e :: es).length = n) (hg : Gl X x) (hdb : (x == ("__debug__" : Str)) = false)
    (he : starEach (e :: es) X.env = (false, eval e X.env) :: starEach es X.env) (hpl : (backTo pos (starEach es X.env)).any (·.1) = false) : PuE X W (.Call (.Name x p) (e :: es) [] pos) (eCall F fs) := by
  obtain ⟨f, fd, ps, G, hm, kp, hb, hl⟩ := c.ex
  exact pu_call G gd (hr.mono hk) hg hm kp hb tk (hlen.trans hl.symm) hdb he hpl ha
/-! ### subscripts -/
variable {a b : Expr} {fa fb : EV} {K : PySem.W.Frag}
theorem at_eq {α : Type} (xs : List α) (i : Int) : at_ xs i = atI xs i := by
  unfold at_ atI ixN
  by_cases h : 0 ≤ i
  · rw [if_pos h, if_pos h]
    by_cases h2 : i < (xs.length : Int)
    · rw [if_pos h2]; rfl
    · rw [if_neg h2, List.getElem?_eq_none (by omega)]; rfl
  · rw [if_neg h, if_neg h]
    by_cases h2 : -(xs.length : Int) ≤ i
    · rw [if_pos h2, if_pos (by omega)]; rfl
    · rw [if_neg h2, if_neg (by omega)]; rfl
theorem atI_own {H : Hp} {Z : Zs} {os : List O} {vs : List V} {fp : List Addr} {i : Int} {o : O} (h : Owns H Z K os vs fp) (e : at_ os i = some o) : ∃ v g, atI vs i = some v ∧ Own H Z K o v g := by
  rw [at_eq] at e
  unfold atI at e ⊢
  rw [h.length]
  cases q : ixN os.length i with
  | none => rw [q] at e; cases e
  | some j =>
    rw [q] at e
    obtain ⟨v, g, e1, e2, _⟩ := Owns.get h e
    exact ⟨v, g, e1, e2⟩
def rIx (K : PySem.W.Frag) : R2 := fun x y H Q => rIxL K x y H Q ∨ rIxT K x y H Q
theorem ix_U : IxR X (rIx X.K) := ix_list.or ix_tup
theorem zOf_ok {H : Hp} {Z : Zs} {Q : VK} {o : Option O} (p : PostG H Z K (zOf o) Q) : ∃ d, o = some (.z d) ∧ PostG H Z K (.ok (.z d)) Q := by
  cases o with
  | none => exact p.elim
  | some o =>
    cases o with
    | z d => exact ⟨d, rfl, p⟩
    | _ => exact p.elim
theorem gr_ix : GR2 K (rIx K) gIx := fun {H Z x y o p f1 f2} hz o1 o2 Q => by
  unfold gIx
  split
  · rename_i i
    obtain ⟨_, rfl⟩ := o2
    split
    · rename_i ns
      obtain ⟨_, a, rfl, h⟩ := o1
      intro p
      obtain ⟨d, e, p⟩ := zOf_ok p
      rw [at_eq] at e
      cases q : atI ns i with
      | none => rw [q] at e; cases e
      | some n =>
        rw [q] at e
        cases e
        refine .inl ⟨a, ns.map V.int, i, .int n, rfl, rfl, h.sql, ?_, PostG.z hz rz_int p⟩
        unfold atI at q ⊢
        rw [List.length_map]
        cases q2 : ixN ns.length i with
        | none => rw [q2] at q; cases q
        | some j =>
          rw [q2] at q
          show (ns.map V.int)[j]? = some (.int n)
          rw [List.getElem?_map, show ns[j]? = some n from q]; rfl
    · cases es : seqO o with
      | some os =>
        intro p
        obtain ⟨d, e, p⟩ := zOf_ok p
        obtain ⟨a, vs, g, rfl, h1, h2, _⟩ := o1.seq es
        obtain ⟨v, g', e1, e2⟩ := atI_own h2 e
        exact .inl ⟨a, vs, i, v, rfl, rfl, SqL.of h1, e1, PostG.z hz e2.2 p⟩
      | none =>
        dsimp only
        cases et : tupO o with
        | none => exact fun p => p.elim
        | some os =>
          intro p
          obtain ⟨d, e, p⟩ := zOf_ok p
          obtain ⟨a, vs, rfl, h1, h2⟩ := o1.tup et
          obtain ⟨v, g', e1, e2⟩ := atI_own h2 e
          exact .inr ⟨a, vs, i, v, rfl, rfl, h1, e1, PostG.z hz e2.2 p⟩
  · exact fun p => p.elim
theorem pu_rev {k : Nat} {p1 p2 p3 : Pos} (ha : PuB X W a fa) : PuE X W (.Subscript a (.Slice none none (some (.UnaryOp .USub (.Constant (.int 1) k p1) p2)) p3) pos) (eRev fa) := by
  refine pu_1 (r := fun x H1 Q => ∃ a xs, x = .ref a ∧ SqL X.K H1 a xs ∧ ∀ p, H1 p = none → Q (.ref p) (upd H1 p (.lst xs.reverse))) (t := tRevL X.K) (fun _ => pe_revL) (fun _ _ _ _ => rfl) (fun {H Z x o f1} hz o1 Q => ?_) ha
  unfold gRev
  cases e : lz o with
  | none => exact fun p => p.elim
  | some ds =>
    obtain ⟨a, vs, rfl, h1, h2⟩ := o1.lz e
    refine fun p => ⟨a, vs, rfl, SqL.of h1, fun q hq => PostG.lst hz ?_ p hq⟩
    have key : ∀ {ds : List PyData} {vs : List V}, RZs H Z X.K ds vs → RZs H Z X.K ds.reverse vs.reverse := by
      intro ds
      induction ds with
      | nil => intro vs h; rw [show vs = [] from h]; exact rfl
      | cons d ds ih =>
        intro vs h
        obtain ⟨v, r, rfl, h1, h2⟩ := h
        rw [List.reverse_cons, List.reverse_cons]
        exact (ih h2).app ⟨v, [], rfl, h1, rfl⟩
    exact key h2
end
end U
end
/-! UM -/
section
set_option Elab.async false
set_option linter.all false
set_option maxRecDepth 100000
/-! UM: what is one's own changes, wherever it lies within a slot's thing. -/
namespace U
open PySem L2
section
variable {κ : Type} [DecidableEq κ]
theorem look_val (k : κ) : ∀ kvs : List (κ × V), look kvs k = valV kvs k
  | [] => rfl
  | p :: r => by
    by_cases h : p.1 = k
    · rw [look, if_pos h, valV_pos h]
    · rw [look, if_neg h, valV_neg h, look_val k r]
theorem put_none {β : Type} (k : κ) (b : β) : ∀ kvs : List (κ × β), look kvs k = none → put kvs k b = kvs ++ [(k, b)]
  | [], _ => rfl
  | p :: r, h => by
    rw [look] at h
    by_cases e : p.1 = k
    · rw [if_pos e] at h; cases h
    · rw [if_neg e] at h
      rw [put, if_neg e, put_none k b r h]; rfl
theorem look_mem {β : Type} (k : κ) : ∀ kvs : List (κ × β), look kvs k = none → k ∉ kvs.map (·.1)
  | [], _ => by simp
  | p :: r, h => by
    rw [look] at h
    by_cases e : p.1 = k
    · rw [if_pos e] at h; cases h
    · rw [if_neg e] at h
      rw [List.map_cons, List.mem_cons]
      rintro (q | q)
      · exact e q.symm
      · exact look_mem k r h q
theorem put_keys {β : Type} (k : κ) (b : β) : ∀ kvs : List (κ × β), (look kvs k).isSome = true → (put kvs k b).map (·.1) = kvs.map (·.1)
  | [], h => by cases h
  | p :: r, h => by
    rw [look] at h
    by_cases e : p.1 = k
    · rw [put, if_pos e]; rfl
    · rw [if_neg e] at h
      rw [put, if_neg e, List.map_cons, List.map_cons, put_keys k b r h]
theorem put_nodup {β : Type} (k : κ) (b : β) {kvs : List (κ × β)} (h : (kvs.map (·.1)).Nodup) : ((put kvs k b).map (·.1)).Nodup := by
  cases e : look kvs k with
  | none =>
    rw [put_none k b kvs e, List.map_append]
    exact List.nodup_append.mpr ⟨h, by simp, fun a ha c hc q => by
      have : c = k := by simpa using hc
      rw [q, this] at ha
      exact look_mem k kvs e ha⟩
  | some x => rw [put_keys k b kvs (by rw [e]; rfl)]; exact h
theorem repl_id (k : κ) (v : V) : ∀ kvs : List (κ × V), k ∉ kvs.map (·.1) → kvs.map (fun kv => if kv.1 = k then (kv.1, v) else kv) = kvs
  | [], _ => rfl
  | p :: r, h => by
    rw [List.map_cons, List.mem_cons, not_or] at h
    rw [List.map_cons, if_neg (fun e => h.1 e.symm), repl_id k v r h.2]
theorem put_putK (k : κ) (v : V) : ∀ {kvs : List (κ × V)}, (kvs.map (·.1)).Nodup → put kvs k v = putK kvs k v := by
  intro kvs h
  cases e : look kvs k with
  | none =>
    rw [put_none k v kvs e, putK_new v (by rw [← look_val]; exact e)]
  | some x =>
    unfold putK
    rw [valV_any, ← look_val, e]
    show put kvs k v = if true = true then _ else _
    rw [if_pos rfl]
    induction kvs with
    | nil => cases e
    | cons p r ih =>
      rw [List.map_cons, List.nodup_cons] at h
      rw [look] at e
      by_cases q : p.1 = k
      · rw [put, if_pos q, List.map_cons, if_pos q, repl_id k v r (by rw [← q]; exact h.1)]
      · rw [if_neg q] at e
        rw [put, if_neg q, List.map_cons, if_neg q, ih h.2 e]
end
/-- the value that lies at the end of a way -/
def SubV (H : Hp) : V → List Stp → V → Prop
  | v, [], u => u = v
  | v, .ix i :: p, u => ∃ a vs w, v = .ref a ∧ H a = some (.lst vs) ∧ atI vs i = some w ∧ SubV H w p u
  | v, .k k :: p, u => ∃ a vs w, v = .ref a ∧ H a = some (.dK vs) ∧ look vs k = some w ∧ SubV H w p u
  | v, .kt k :: p, u => ∃ a vs w, v = .ref a ∧ H a = some (.dT vs) ∧ look vs k = some w ∧ SubV H w p u
section
variable {H H' : Hp} {Z Z' : Zs} {K : PySem.W.Frag}
theorem SubV.ext (e : ∀ a o, H a = some o → H' a = some o) : ∀ {p : List Stp} {v u : V}, SubV H v p u → SubV H' v p u
  | [], _, _, h => h
  | .ix _ :: _, _, _, ⟨a, vs, w, h1, h2, h3, h4⟩ => ⟨a, vs, w, h1, e _ _ h2, h3, h4.ext e⟩
  | .k _ :: _, _, _, ⟨a, vs, w, h1, h2, h3, h4⟩ => ⟨a, vs, w, h1, e _ _ h2, h3, h4.ext e⟩
  | .kt _ :: _, _, _, ⟨a, vs, w, h1, h2, h3, h4⟩ => ⟨a, vs, w, h1, e _ _ h2, h3, h4.ext e⟩
theorem SubV.fn : ∀ {p : List Stp} {v u u' : V}, SubV H v p u → SubV H v p u' → u' = u
  | [], _, _, _, h, h' => h'.trans (Eq.symm h)
  | .ix _ :: _, _, _, _, ⟨a, vs, w, h1, h2, h3, h4⟩, ⟨a', vs', w', h1', h2', h3', h4'⟩ => by
    subst h1
    cases h1'
    rw [h2] at h2'
    cases h2'
    rw [h3] at h3'
    cases h3'
    exact h4.fn h4'
  | .k _ :: _, _, _, _, ⟨a, vs, w, h1, h2, h3, h4⟩, ⟨a', vs', w', h1', h2', h3', h4'⟩ => by
    subst h1
    cases h1'
    rw [h2] at h2'
    cases h2'
    rw [h3] at h3'
    cases h3'
    exact h4.fn h4'
  | .kt _ :: _, _, _, _, ⟨a, vs, w, h1, h2, h3, h4⟩, ⟨a', vs', w', h1', h2', h3', h4'⟩ => by
    subst h1
    cases h1'
    rw [h2] at h2'
    cases h2'
    rw [h3] at h3'
    cases h3'
    exact h4.fn h4'
theorem SubV.app : ∀ {p q : List Stp} {v u w : V}, SubV H v p u → SubV H u q w → SubV H v (p ++ q) w
  | [], _, _, _, _, h, h' => by rw [show _ = _ from h] at h'; exact h'
  | .ix _ :: _, _, _, _, _, ⟨a, vs, w, h1, h2, h3, h4⟩, h' => ⟨a, vs, w, h1, h2, h3, h4.app h'⟩
  | .k _ :: _, _, _, _, _, ⟨a, vs, w, h1, h2, h3, h4⟩, h' => ⟨a, vs, w, h1, h2, h3, h4.app h'⟩
  | .kt _ :: _, _, _, _, _, ⟨a, vs, w, h1, h2, h3, h4⟩, h' => ⟨a, vs, w, h1, h2, h3, h4.app h'⟩
/-- one part of a list, and how the list is with another in its place -/
theorem Owns.part : ∀ {os : List O} {vs : List V} {fp : List Addr} {n : Nat} {o : O}, Owns H Z K os vs fp → os[n]? = some o → ∃ v f l r, fp = l ++ f ++ r ∧ vs[n]? = some v ∧ Own H Z K o v f ∧ nS o = true ∧
    ∀ (H' : Hp) (Z' : Zs) (o' : O) (v' : V) (f' : List Addr), Kp H Z H' Z' → (∀ b, b ∈ l ∨ b ∈ r → H' b = H b) → Own H' Z' K o' v' f' → nS o' = true → Owns H' Z' K (os.set n o') (vs.set n v') (l ++ f' ++ r)
  | [], _, _, _, _, _, e => by cases e
  | o :: os, vs, fp, n, o', h, e => by
    obtain ⟨v, s, f, g, rfl, rfl, h1, h2, h3⟩ := h
    cases n with
    | zero =>
      cases e
      exact ⟨v, f, [], g, rfl, rfl, h1, h3, fun H' Z' o2 v' f' kp k q n => ⟨v', s, f', g, rfl, rfl, q, Owns.frame kp _ _ _ (fun b hb => k b (.inr hb)) h2, n⟩⟩
    | succ n =>
      obtain ⟨v1, f1, l, r, rfl, e2, e3, e4, q⟩ := Owns.part (n := n) h2 e
      refine ⟨v1, f1, f ++ l, r, by simp [List.append_assoc], e2, e3, e4, fun H' Z' o2 v' f' kp k z n => ?_⟩
      refine ⟨v, s.set _ v', f, l ++ f' ++ r, rfl, by simp [List.append_assoc], Own.frame kp _ _ _ (fun b hb => k b (.inl (List.mem_append_left _ hb))) h1, q H' Z' o2 v' f' kp (fun b hb => k b ?_) z n, h3⟩
      rcases hb with hb | hb
      · exact .inl (List.mem_append_right _ hb)
      · exact .inr hb
theorem OwnsK.part {k : Ky} : ∀ {os : List (Ky × O)} {vs : List (Ky × V)} {fp : List Addr} {o : O}, OwnsK H Z K os vs fp → look os k = some o → ∃ v f l r, fp = l ++ f ++ r ∧ look vs k = some v ∧ Own H Z K o v f ∧ nS o = true ∧
    ∀ (H' : Hp) (Z' : Zs) (o' : O) (v' : V) (f' : List Addr), Kp H Z H' Z' → (∀ b, b ∈ l ∨ b ∈ r → H' b = H b) → Own H' Z' K o' v' f' → nS o' = true → OwnsK H' Z' K (put os k o') (put vs k v') (l ++ f' ++ r)
  | [], _, _, _, _, e => by cases e
  | (q0, o) :: os, vs, fp, o', h, e => by
    obtain ⟨v, s, f, g, rfl, rfl, h1, h2, h3⟩ := h
    rw [look] at e
    by_cases hk : q0 = k
    · rw [if_pos hk] at e
      cases e
      refine ⟨v, f, [], g, rfl, by rw [look, if_pos hk], h1, h3, fun H' Z' o2 v' f' kp kk q n => ?_⟩
      rw [put, if_pos hk, put, if_pos hk]
      exact ⟨v', s, f', g, rfl, rfl, q, OwnsK.frame kp _ _ _ (fun b hb => kk b (.inr hb)) h2, n⟩
    · rw [if_neg hk] at e
      obtain ⟨v1, f1, l, r, rfl, e2, e3, e4, q⟩ := OwnsK.part h2 e
      refine ⟨v1, f1, f ++ l, r, by simp [List.append_assoc], by rw [look, if_neg hk]; exact e2, e3, e4, fun H' Z' o2 v' f' kp kk z n => ?_⟩
      rw [put, if_neg hk, put, if_neg hk]
      refine ⟨v, _, f, l ++ f' ++ r, rfl, by simp [List.append_assoc], Own.frame kp _ _ _ (fun b hb => kk b (.inl (List.mem_append_left _ hb))) h1, q H' Z' o2 v' f' kp (fun b hb => kk b ?_) z n, h3⟩
      rcases hb with hb | hb
      · exact .inl (List.mem_append_right _ hb)
      · exact .inr hb
theorem OwnsT.part {k : List Ky} : ∀ {os : List (List Ky × O)} {vs : List (List Ky × V)} {fp : List Addr} {o : O}, OwnsT H Z K os vs fp → look os k = some o → ∃ v f l r, fp = l ++ f ++ r ∧ look vs k = some v ∧ Own H Z K o v f ∧ nS o = true ∧
    ∀ (H' : Hp) (Z' : Zs) (o' : O) (v' : V) (f' : List Addr), Kp H Z H' Z' → (∀ b, b ∈ l ∨ b ∈ r → H' b = H b) → Own H' Z' K o' v' f' → nS o' = true → OwnsT H' Z' K (put os k o') (put vs k v') (l ++ f' ++ r)
  | [], _, _, _, _, e => by cases e
  | (q0, o) :: os, vs, fp, o', h, e => by
    obtain ⟨v, s, f, g, rfl, rfl, h1, h2, h3⟩ := h
    rw [look] at e
    by_cases hk : q0 = k
    · rw [if_pos hk] at e
      cases e
      refine ⟨v, f, [], g, rfl, by rw [look, if_pos hk], h1, h3, fun H' Z' o2 v' f' kp kk q n => ?_⟩
      rw [put, if_pos hk, put, if_pos hk]
      exact ⟨v', s, f', g, rfl, rfl, q, OwnsT.frame kp _ _ _ (fun b hb => kk b (.inr hb)) h2, n⟩
    · rw [if_neg hk] at e
      obtain ⟨v1, f1, l, r, rfl, e2, e3, e4, q⟩ := OwnsT.part h2 e
      refine ⟨v1, f1, f ++ l, r, by simp [List.append_assoc], by rw [look, if_neg hk]; exact e2, e3, e4, fun H' Z' o2 v' f' kp kk z n => ?_⟩
      rw [put, if_neg hk, put, if_neg hk]
      refine ⟨v, _, f, l ++ f' ++ r, rfl, by simp [List.append_assoc], Own.frame kp _ _ _ (fun b hb => kk b (.inl (List.mem_append_left _ hb))) h1, q H' Z' o2 v' f' kp (fun b hb => kk b ?_) z n, h3⟩
      rcases hb with hb | hb
      · exact .inl (List.mem_append_right _ hb)
      · exact .inr hb
theorem OwnsK.keys : ∀ {os : List (Ky × O)} {vs : List (Ky × V)} {fp : List Addr}, OwnsK H Z K os vs fp → vs.map (·.1) = os.map (·.1)
  | [], _, _, h => by rw [h.1]; rfl
  | (k, o) :: os, vs, fp, h => by
    obtain ⟨v, s, f, g, rfl, rfl, h1, h2, h3⟩ := h
    rw [List.map_cons, List.map_cons, OwnsK.keys h2]
theorem OwnsT.keys : ∀ {os : List (List Ky × O)} {vs : List (List Ky × V)} {fp : List Addr}, OwnsT H Z K os vs fp → vs.map (·.1) = os.map (·.1)
  | [], _, _, h => by rw [h.1]; rfl
  | (k, o) :: os, vs, fp, h => by
    obtain ⟨v, s, f, g, rfl, rfl, h1, h2, h3⟩ := h
    rw [List.map_cons, List.map_cons, OwnsT.keys h2]
theorem set_same {α : Type} {xs : List α} {n : Nat} {x : α} (h : xs[n]? = some x) : xs.set n x = xs := by
  apply List.ext_getElem?
  intro j
  rw [List.getElem?_set]
  split
  · rename_i hj
    subst hj
    have hi : n < xs.length := (List.getElem?_eq_some_iff.mp h).1
    rw [h]
    simp [hi]
  · rfl
theorem put_same {κ β : Type} [DecidableEq κ] {k : κ} {b : β} : ∀ {kvs : List (κ × β)}, look kvs k = some b → put kvs k b = kvs
  | [], h => by cases h
  | p :: r, h => by
    rw [look] at h
    by_cases e : p.1 = k
    · rw [if_pos e] at h
      cases h
      rw [put, if_pos e]
    · rw [if_neg e] at h
      rw [put, if_neg e, put_same h]
theorem ixO_eq {α : Type} {xs : List α} {i : Int} {n : Nat} (h : ixO xs.length i = some n) : ixN xs.length i = some n := by
  unfold ixO at h
  unfold ixN
  by_cases h0 : 0 ≤ i
  · rw [if_pos h0] at h ⊢
    exact h
  · rw [if_neg h0] at h ⊢
    by_cases h1 : 0 ≤ i + (xs.length : Int)
    · rw [if_pos h1] at h
      rw [if_pos (by omega)]
      exact h
    · rw [if_neg h1] at h; cases h
/-- the thing at the end of a way, and how the whole is with another there -/
theorem Own.focus : ∀ (p : List Stp) (o : O) (v : V) (fp : List Addr), Own H Z K o v fp → ∀ q, getP o p = some q → ∃ u f l r, fp = l ++ f ++ r ∧ SubV H v p u ∧ Own H Z K q u f ∧
    ∀ (H' : Hp) (Z' : Zs) (q' : O) (f' : List Addr), Kp H Z H' Z' → (∀ b, b ∈ l ∨ b ∈ r → H' b = H b) → Own H' Z' K q' u f' → nS q' = true → Own H' Z' K (setP o p q') v (l ++ f' ++ r)
  | [], o, v, fp, h, q, e => by
    rw [getP_nil] at e
    cases e
    refine ⟨v, fp, [], [], by simp, rfl, h, fun H' Z' q' f' kp k z n => ?_⟩
    rw [setP_nil, List.nil_append, List.append_nil]
    exact z
  | .ix i :: p, .l os, v, fp, h, q, e => by
    rw [getP] at e
    cases e1 : ixO os.length i with
    | none => rw [e1] at e; cases e
    | some n =>
      rw [e1] at e
      have e : (os[n]?).bind (fun o => getP o p) = some q := e
      cases e2 : os[n]? with
      | none => rw [e2] at e; cases e
      | some o1 =>
        rw [e2] at e
        have e : getP o1 p = some q := e
        obtain ⟨a, vs, g, rfl, rfl, h1, h2⟩ := h
        obtain ⟨v1, f1, l1, r1, rfl, q1, q2, q3, q4⟩ := Owns.part h2 e2
        obtain ⟨u, f, l, r, rfl, s1, s2, s3⟩ := Own.focus p o1 v1 f1 q2 q e
        refine ⟨u, f, a :: (l1 ++ l), r ++ r1, by simp [List.append_assoc], ⟨a, vs, v1, rfl, h1, ?_, s1⟩, s2, fun H' Z' q' f' kp k z n' => ?_⟩
        · unfold atI
          rw [h2.length, ixO_eq e1]
          exact q1
        · rw [setP, e1]
          dsimp only
          rw [e2]
          refine ⟨a, vs, l1 ++ (l ++ f' ++ r) ++ r1, rfl, by simp [List.append_assoc], (k a (.inl List.mem_cons_self)).trans h1, ?_⟩
          have := q4 H' Z' (setP o1 p q') v1 (l ++ f' ++ r) kp (fun b hb => k b ?_) (s3 H' Z' q' f' kp (fun b hb => k b ?_) z n') ?_
          · rw [set_same q1] at this
            exact this
          · rcases hb with hb | hb
            · exact .inl (List.mem_cons_of_mem _ (List.mem_append_left _ hb))
            · exact .inr (List.mem_append_right _ hb)
          · rcases hb with hb | hb
            · exact .inl (List.mem_cons_of_mem _ (List.mem_append_right _ hb))
            · exact .inr (List.mem_append_left _ hb)
          · cases p with
            | nil => rw [setP_nil]; exact n'
            | cons s p => cases o1 <;> cases s <;> first | exact q3 | (cases e; done) | (simp only [setP]; split <;> first | rfl | (split <;> rfl))
  | .k kk :: p, .dk os, v, fp, h, q, e => by
    rw [getP] at e
    cases e2 : look os kk with
    | none => rw [e2] at e; cases e
    | some o1 =>
      rw [e2] at e
      have e : getP o1 p = some q := e
      obtain ⟨a, vs, g, rfl, rfl, h1, nd, h2⟩ := h
      obtain ⟨v1, f1, l1, r1, rfl, q1, q2, q3, q4⟩ := OwnsK.part h2 e2
      obtain ⟨u, f, l, r, rfl, s1, s2, s3⟩ := Own.focus p o1 v1 f1 q2 q e
      refine ⟨u, f, a :: (l1 ++ l), r ++ r1, by simp [List.append_assoc], ⟨a, vs, v1, rfl, h1, q1, s1⟩, s2, fun H' Z' q' f' kp k z n' => ?_⟩
      rw [setP]
      rw [e2]
      refine ⟨a, vs, l1 ++ (l ++ f' ++ r) ++ r1, rfl, by simp [List.append_assoc], (k a (.inl List.mem_cons_self)).trans h1, put_nodup _ _ nd, ?_⟩
      have := q4 H' Z' (setP o1 p q') v1 (l ++ f' ++ r) kp (fun b hb => k b ?_) (s3 H' Z' q' f' kp (fun b hb => k b ?_) z n') ?_
      · rw [put_same q1] at this
        exact this
      · rcases hb with hb | hb
        · exact .inl (List.mem_cons_of_mem _ (List.mem_append_left _ hb))
        · exact .inr (List.mem_append_right _ hb)
      · rcases hb with hb | hb
        · exact .inl (List.mem_cons_of_mem _ (List.mem_append_right _ hb))
        · exact .inr (List.mem_append_left _ hb)
      · cases p with
        | nil => rw [setP_nil]; exact n'
        | cons s p => cases o1 <;> cases s <;> first | exact q3 | (cases e; done) | (simp only [setP]; split <;> first | rfl | (split <;> rfl))
  | .kt kk :: p, .dt os, v, fp, h, q, e => by
    rw [getP] at e
    cases e2 : look os kk with
    | none => rw [e2] at e; cases e
    | some o1 =>
      rw [e2] at e
      have e : getP o1 p = some q := e
      obtain ⟨a, vs, g, rfl, rfl, h1, nd, h2⟩ := h
      obtain ⟨v1, f1, l1, r1, rfl, q1, q2, q3, q4⟩ := OwnsT.part h2 e2
      obtain ⟨u, f, l, r, rfl, s1, s2, s3⟩ := Own.focus p o1 v1 f1 q2 q e
      refine ⟨u, f, a :: (l1 ++ l), r ++ r1, by simp [List.append_assoc], ⟨a, vs, v1, rfl, h1, q1, s1⟩, s2, fun H' Z' q' f' kp k z n' => ?_⟩
      rw [setP]
      rw [e2]
      refine ⟨a, vs, l1 ++ (l ++ f' ++ r) ++ r1, rfl, by simp [List.append_assoc], (k a (.inl List.mem_cons_self)).trans h1, put_nodup _ _ nd, ?_⟩
      have := q4 H' Z' (setP o1 p q') v1 (l ++ f' ++ r) kp (fun b hb => k b ?_) (s3 H' Z' q' f' kp (fun b hb => k b ?_) z n') ?_
      · rw [put_same q1] at this
        exact this
      · rcases hb with hb | hb
        · exact .inl (List.mem_cons_of_mem _ (List.mem_append_left _ hb))
        · exact .inr (List.mem_append_right _ hb)
      · rcases hb with hb | hb
        · exact .inl (List.mem_cons_of_mem _ (List.mem_append_right _ hb))
        · exact .inr (List.mem_append_left _ hb)
      · cases p with
        | nil => rw [setP_nil]; exact n'
        | cons s p => cases o1 <;> cases s <;> first | exact q3 | (cases e; done) | (simp only [setP]; split <;> first | rfl | (split <;> rfl))
  | .ix _ :: _, .z _, _, _, _, _, e => by cases e
  | .ix _ :: _, .t _, _, _, _, _, e => by cases e
  | .ix _ :: _, .dk _, _, _, _, _, e => by cases e
  | .ix _ :: _, .dt _, _, _, _, _, e => by cases e
  | .ix _ :: _, .s _, _, _, _, _, e => by cases e
  | .k _ :: _, .z _, _, _, _, _, e => by cases e
  | .k _ :: _, .l _, _, _, _, _, e => by cases e
  | .k _ :: _, .t _, _, _, _, _, e => by cases e
  | .k _ :: _, .dt _, _, _, _, _, e => by cases e
  | .k _ :: _, .s _, _, _, _, _, e => by cases e
  | .kt _ :: _, .z _, _, _, _, _, e => by cases e
  | .kt _ :: _, .l _, _, _, _, _, e => by cases e
  | .kt _ :: _, .t _, _, _, _, _, e => by cases e
  | .kt _ :: _, .dk _, _, _, _, _, e => by cases e
  | .kt _ :: _, .s _, _, _, _, _, e => by cases e
end
section
variable {K : PySem.W.Frag} {H0 H H' : Hp} {Z0 : Ent} {Z Z' : Zs} {σ : St} {ρ : Env}
/-- a slot's own thing may change where a way leads -/
theorem SR.mut (S : SR K H0 Z0 H Z σ ρ) {i : Nat} {c q : O} {p : List Stp} (hc : ownAt ρ i = some c) (hq : U.getP c p = some q) : ∃ (w u : V) (f : List Addr), σ[i]? = some (some w) ∧ SubV H w p u ∧ Own H Z K q u f ∧ f.Nodup ∧ (∀ b ∈ f, ¬ Z b) ∧
    ∀ (H1 : Hp) (Z1 : Zs), Ext H Z H1 Z1 → ∀ H2 : Hp, (∀ b, b ∉ f → H2 b = H1 b) → ∀ (q' : O) (f' : List Addr), Own H2 Z1 K q' u f' → f'.Nodup → (∀ b ∈ f', b ∈ f ∨ (H b = none ∧ ¬ Z1 b)) → nS q' = true →
      SR K H0 Z0 H2 Z1 σ (setAtS ρ i (setP c p q')) ∧ Kp H Z H2 Z1 := by
  obtain ⟨fp, hs, nd, k⟩ := S.own
  -- the slot
  obtain ⟨s, hr, w, f0, l, r, e1, hw, efp, q2, hset⟩ : ∃ s, ρ[i]? = some (some s) ∧ ∃ (w : V) (f0 l r : List Addr), σ[i]? = some (some w) ∧ Own H Z K c w f0 ∧ fp = l ++ f0 ++ r ∧
      (∀ (H' : Hp) (Z' : Zs) (c' : O) (f' : List Addr), Kp H Z H' Z' → (∀ a, a ∈ l ∨ a ∈ r → H' a = H a) → Own H' Z' K c' w f' → Sls H0 Z0 H' Z' K (setAtS ρ i c') (σ.set i (some w)) (l ++ f' ++ r)) ∧ True := by
    unfold ownAt at hc
    cases hr : ρ[i]? with
    | none => rw [hr] at hc; cases hc
    | some s =>
      rw [hr] at hc
      cases s with
      | none => cases hc
      | some s =>
        cases s with
        | r o => cases hc
        | w o =>
          cases hc
          obtain ⟨w0, f0, l, r, e1, ⟨v, rfl, e2⟩, efp, q2⟩ := Sls.part hs hr
          refine ⟨_, rfl, v, f0, l, r, e1, e2, efp, fun H' Z' c' f' kp kk z => ?_, trivial⟩
          unfold setAtS
          rw [hr]
          exact q2 H' Z' (some (.w c')) (some v) f' kp kk ⟨v, rfl, z⟩
        | p o =>
          cases hc
          obtain ⟨w0, f0, l, r, e1, ⟨rfl, e2⟩, efp, q2⟩ := Sls.part hs hr
          refine ⟨_, rfl, Z0.pin, f0, l, r, e1, e2, efp, fun H' Z' c' f' kp kk z => ?_, trivial⟩
          unfold setAtS
          rw [hr]
          exact q2 H' Z' (some (.p c')) (some Z0.pin) f' kp kk ⟨rfl, z⟩
  obtain ⟨u, f, l', r', rfl, s1, s2, s3⟩ := Own.focus p c w f0 hw q hq
  have mem : ∀ b, b ∈ f → b ∈ fp := fun b hb => by
    rw [efp]
    exact List.mem_append_left _ (List.mem_append_right _ (List.mem_append_left _ (List.mem_append_right _ hb)))
  have hm := Sls.mut hs
  have efp' : fp = (l ++ l') ++ f ++ (r' ++ r) := by rw [efp]; simp [List.append_assoc]
  rw [efp'] at nd
  rw [List.append_assoc, List.nodup_append] at nd
  obtain ⟨n1, n2, n3⟩ := nd
  rw [List.nodup_append] at n2
  obtain ⟨m1, m2, m3⟩ := n2
  refine ⟨w, u, f, e1, s1, s2, m1, fun b hb => (k b (mem b hb)).1, fun H1 Z1 ex H2 same q' f' ho nd2 hn hq' => ?_⟩
  have nz : ∀ b, b ∈ fp → ¬ Z1 b := fun b hb z => by
    rcases ex.zn b z with z | z
    · exact (k b hb).1 z
    · obtain ⟨o, e⟩ := (hm b hb).some
      rw [e] at z; cases z
  have ke : ∀ b, b ∈ fp → H1 b = H b := fun b hb => by
    obtain ⟨o, e⟩ := (hm b hb).some
    rw [e]; exact ex.keep _ _ e
  have kp1 : Kp H1 Z1 H2 Z1 := ⟨fun _ z => z, fun b o z e => by
    rw [same b fun h => nz b (mem b h) z]; exact e, fun b xs e => by
    have nb : b ∉ f := fun h => by
      have := hm b (mem b h)
      rw [← ke b (mem b h)] at this
      exact this.rd e
    rcases e with e | ⟨o, e⟩
    · exact .inl (by rw [same b nb]; exact e)
    · exact .inr ⟨o, by rw [same b nb]; exact e⟩, fun b o x e => by
    have nb : b ∉ f := fun h => by
      have := hm b (mem b h)
      rw [← ke b (mem b h)] at this
      exact this.nofrz e
    rw [same b nb]; exact e⟩
  have kp := ex.kp.trans kp1
  have out : ∀ b, (b ∈ l ++ l' ∨ b ∈ r' ++ r) → b ∉ f := fun b hb h => by
    rcases hb with hb | hb
    · exact n3 b hb b (List.mem_append_left _ h) rfl
    · exact m3 b h b hb rfl
  have fr : ∀ b, (b ∈ l ++ l' ∨ b ∈ r' ++ r) → H2 b = H b := fun b hb => by
    rw [same b (out b hb), ke b]
    rw [efp']
    rcases hb with hb | hb
    · exact List.mem_append_left _ (List.mem_append_left _ hb)
    · exact List.mem_append_right _ hb
  have h3 := s3 H2 Z1 q' f' kp (fun b hb => fr b (hb.elim (fun h => .inl (List.mem_append_right _ h)) (fun h => .inr (List.mem_append_left _ h)))) ho hq'
  have h4 := q2 H2 Z1 (setP c p q') (l' ++ f' ++ r') kp (fun b hb => fr b (hb.elim (fun h => .inl (List.mem_append_left _ h)) (fun h => .inr (List.mem_append_right _ h)))) h3
  rw [set_same e1] at h4
  have new : ∀ b ∈ f', ∀ c, (c ∈ l ++ l' ∨ c ∈ r' ++ r) → b ≠ c := fun b hb c hc e => by
    subst e
    rcases hn b hb with h | h
    · exact out b hc h
    · have hb' : b ∈ fp := by
        rw [efp']
        rcases hc with hc | hc
        · exact List.mem_append_left _ (List.mem_append_left _ hc)
        · exact List.mem_append_right _ hc
      obtain ⟨o, e⟩ := (hm b hb').some
      rw [h.1] at e; cases e
  refine ⟨⟨⟨fun b o e => ?_, fun b z => ex.zz b (S.ext.zz b z), fun b z => ?_, fun b z => ?_⟩, _, h4, ?_, fun b hb => ?_⟩, kp⟩
  · have nb : b ∉ f := fun h => by
      rw [(k b (mem b h)).2] at e; cases e
    rw [same b nb]
    exact ex.keep _ _ (S.ext.keep _ _ e)
  · rcases ex.zn b z with z | z
    · exact S.ext.zn b z
    · exact .inr (S.ext.back z)
  · have nb : b ∉ f := fun h => nz b (mem b h) z
    rw [same b nb]; exact ex.zd b z
  · rw [show l ++ (l' ++ f' ++ r') ++ r = (l ++ l') ++ (f' ++ (r' ++ r)) by simp [List.append_assoc]]
    refine List.nodup_append.mpr ⟨n1, List.nodup_append.mpr ⟨nd2, m2, fun b hb c hc => new b hb c (.inr hc)⟩, fun b hb c hc => ?_⟩
    rcases List.mem_append.mp hc with hc | hc
    · exact fun e => new c hc b (.inl hb) e.symm
    · exact n3 b hb c (List.mem_append_right _ hc)
  · rw [show l ++ (l' ++ f' ++ r') ++ r = (l ++ l') ++ (f' ++ (r' ++ r)) by simp [List.append_assoc]] at hb
    have old : ∀ c, c ∈ fp → ¬ Z1 c ∧ H0 c = none := fun c hc => ⟨nz c hc, (k c hc).2⟩
    rcases List.mem_append.mp hb with hb | hb
    · exact old b (by rw [efp']; exact List.mem_append_left _ (List.mem_append_left _ hb))
    · rcases List.mem_append.mp hb with hb | hb
      · rcases hn b hb with h | h
        · exact old b (mem b h)
        · exact ⟨h.2, S.ext.back h.1⟩
      · exact old b (by rw [efp']; exact List.mem_append_right _ hb)
end
end U
end
/-! UP -/
section
set_option Elab.async false
set_option linter.all false
set_option maxRecDepth 100000
/-! UP: ways as expressions, and statements that change what lies at their end. -/
namespace U
open PySem L2
section
variable {H H' H1 : Hp} {Z Z' Z1 : Zs} {K : PySem.W.Frag} {H0 : Hp} {Z0 : Ent} {σ : St} {ρ : Env}
theorem Kp.upd {a : Addr} {o : HO} (m : MutO (H a)) (nz : ¬ Z a) : Kp H Z (upd H a o) Z := ⟨fun _ z => z, fun b u z e => by
    have nb : b ≠ a := fun q => nz (q ▸ z)
    rw [upd_ne nb]; exact e, fun b xs e => by
    have nb : b ≠ a := fun q => m.rd (q ▸ e)
    rcases e with e | ⟨u, e⟩
    · exact .inl (by rw [upd_ne nb]; exact e)
    · exact .inr ⟨u, by rw [upd_ne nb]; exact e⟩, fun b u x e => by
    have nb : b ≠ a := fun q => m.nofrz (q ▸ e)
    rw [upd_ne nb]; exact e⟩
/-- a list at the end of a way -/
theorem SR.cellL (S : SR K H0 Z0 H Z σ ρ) {i : Nat} {c : O} {p : List Stp} {os : List O} (hc : ownAt ρ i = some c) (hq : U.getP c p = some (.l os)) : ∃ (w : V) (a : Addr) (vs : List V) (g : List Addr), σ[i]? = some (some w) ∧ SubV H w p (.ref a) ∧ H a = some (.lst vs) ∧ Owns H Z K os vs g ∧ g.Nodup ∧
    ∀ (H1 : Hp) (Z1 : Zs), Ext H Z H1 Z1 → ∀ (os' : List O) (vs' : List V) (g' : List Addr), Owns H1 Z1 K os' vs' g' → g'.Nodup → (∀ b ∈ g', b ∈ g ∨ (H b = none ∧ ¬ Z1 b)) →
      SR K H0 Z0 (upd H1 a (.lst vs')) Z1 σ (setAtS ρ i (setP c p (.l os'))) ∧ Kp H Z (upd H1 a (.lst vs')) Z1 := by
  obtain ⟨w, u, f, e1, e2, ⟨a, vs, g, rfl, rfl, h1, h2⟩, nd, nz, mu⟩ := S.mut hc hq
  rw [List.nodup_cons] at nd
  refine ⟨w, a, vs, g, e1, e2, h1, h2, nd.2, fun H1 Z1 ex os' vs' g' ho nd' hn => ?_⟩
  have na : a ∉ g' := fun h => by
    rcases hn a h with q | q
    · exact nd.1 q
    · rw [q.1] at h1; cases h1
  have ha := ex.keep _ _ h1
  have nz1 : ¬ Z1 a := fun z => by
    rcases ex.zn a z with z | z
    · exact nz a List.mem_cons_self z
    · rw [h1] at z; cases z
  have kp := Kp.upd (o := .lst vs') (.inl ⟨vs, ha⟩) nz1
  refine mu H1 Z1 ex (upd H1 a (.lst vs')) (fun b hb => upd_ne fun e => hb (e ▸ List.mem_cons_self)) (.l os') (a :: g') ⟨a, vs', g', rfl, rfl, upd_same, Owns.frame kp _ _ _ (fun b hb => upd_ne fun e => na (e ▸ hb)) ho⟩ (List.nodup_cons.mpr ⟨na, nd'⟩) (fun b hb => ?_) rfl
  rcases List.mem_cons.mp hb with hb | hb
  · subst hb; exact .inl List.mem_cons_self
  · exact (hn b hb).imp (List.mem_cons_of_mem _) id
theorem SR.cellK (S : SR K H0 Z0 H Z σ ρ) {i : Nat} {c : O} {p : List Stp} {os : List (Ky × O)} (hc : ownAt ρ i = some c) (hq : U.getP c p = some (.dk os)) : ∃ (w : V) (a : Addr) (vs : List (Ky × V)) (g : List Addr), σ[i]? = some (some w) ∧ SubV H w p (.ref a) ∧ H a = some (.dK vs) ∧ (os.map (·.1)).Nodup ∧ OwnsK H Z K os vs g ∧ g.Nodup ∧
    ∀ (H1 : Hp) (Z1 : Zs), Ext H Z H1 Z1 → ∀ (os' : List (Ky × O)) (vs' : List (Ky × V)) (g' : List Addr), (os'.map (·.1)).Nodup → OwnsK H1 Z1 K os' vs' g' → g'.Nodup → (∀ b ∈ g', b ∈ g ∨ (H b = none ∧ ¬ Z1 b)) →
      SR K H0 Z0 (upd H1 a (.dK vs')) Z1 σ (setAtS ρ i (setP c p (.dk os'))) ∧ Kp H Z (upd H1 a (.dK vs')) Z1 := by
  obtain ⟨w, u, f, e1, e2, ⟨a, vs, g, rfl, rfl, h1, hk, h2⟩, nd, nz, mu⟩ := S.mut hc hq
  rw [List.nodup_cons] at nd
  refine ⟨w, a, vs, g, e1, e2, h1, hk, h2, nd.2, fun H1 Z1 ex os' vs' g' hk' ho nd' hn => ?_⟩
  have na : a ∉ g' := fun h => by
    rcases hn a h with q | q
    · exact nd.1 q
    · rw [q.1] at h1; cases h1
  have ha := ex.keep _ _ h1
  have nz1 : ¬ Z1 a := fun z => by
    rcases ex.zn a z with z | z
    · exact nz a List.mem_cons_self z
    · rw [h1] at z; cases z
  have kp := Kp.upd (o := .dK vs') (.inr (.inl ⟨vs, ha⟩)) nz1
  refine mu H1 Z1 ex (upd H1 a (.dK vs')) (fun b hb => upd_ne fun e => hb (e ▸ List.mem_cons_self)) (.dk os') (a :: g') ⟨a, vs', g', rfl, rfl, upd_same, hk', OwnsK.frame kp _ _ _ (fun b hb => upd_ne fun e => na (e ▸ hb)) ho⟩ (List.nodup_cons.mpr ⟨na, nd'⟩) (fun b hb => ?_) rfl
  rcases List.mem_cons.mp hb with hb | hb
  · subst hb; exact .inl List.mem_cons_self
  · exact (hn b hb).imp (List.mem_cons_of_mem _) id
theorem SR.cellT (S : SR K H0 Z0 H Z σ ρ) {i : Nat} {c : O} {p : List Stp} {os : List (List Ky × O)} (hc : ownAt ρ i = some c) (hq : U.getP c p = some (.dt os)) : ∃ (w : V) (a : Addr) (vs : List (List Ky × V)) (g : List Addr), σ[i]? = some (some w) ∧ SubV H w p (.ref a) ∧ H a = some (.dT vs) ∧ (os.map (·.1)).Nodup ∧ OwnsT H Z K os vs g ∧ g.Nodup ∧
    ∀ (H1 : Hp) (Z1 : Zs), Ext H Z H1 Z1 → ∀ (os' : List (List Ky × O)) (vs' : List (List Ky × V)) (g' : List Addr), (os'.map (·.1)).Nodup → OwnsT H1 Z1 K os' vs' g' → g'.Nodup → (∀ b ∈ g', b ∈ g ∨ (H b = none ∧ ¬ Z1 b)) →
      SR K H0 Z0 (upd H1 a (.dT vs')) Z1 σ (setAtS ρ i (setP c p (.dt os'))) ∧ Kp H Z (upd H1 a (.dT vs')) Z1 := by
  obtain ⟨w, u, f, e1, e2, ⟨a, vs, g, rfl, rfl, h1, hk, h2⟩, nd, nz, mu⟩ := S.mut hc hq
  rw [List.nodup_cons] at nd
  refine ⟨w, a, vs, g, e1, e2, h1, hk, h2, nd.2, fun H1 Z1 ex os' vs' g' hk' ho nd' hn => ?_⟩
  have na : a ∉ g' := fun h => by
    rcases hn a h with q | q
    · exact nd.1 q
    · rw [q.1] at h1; cases h1
  have ha := ex.keep _ _ h1
  have nz1 : ¬ Z1 a := fun z => by
    rcases ex.zn a z with z | z
    · exact nz a List.mem_cons_self z
    · rw [h1] at z; cases z
  have kp := Kp.upd (o := .dT vs') (.inr (.inr ⟨vs, ha⟩)) nz1
  refine mu H1 Z1 ex (upd H1 a (.dT vs')) (fun b hb => upd_ne fun e => hb (e ▸ List.mem_cons_self)) (.dt os') (a :: g') ⟨a, vs', g', rfl, rfl, upd_same, hk', OwnsT.frame kp _ _ _ (fun b hb => upd_ne fun e => na (e ▸ hb)) ho⟩ (List.nodup_cons.mpr ⟨na, nd'⟩) (fun b hb => ?_) rfl
  rcases List.mem_cons.mp hb with hb | hb
  · subst hb; exact .inl List.mem_cons_self
  · exact (hn b hb).imp (List.mem_cons_of_mem _) id
/-- a dict's entry is put -/
theorem OwnsK.put {k : Ky} {o : O} {v : V} {f : List Addr} (hn : nS o = true) (ho : Own H Z K o v f) : ∀ {os : List (Ky × O)} {vs : List (Ky × V)} {g : List Addr}, OwnsK H Z K os vs g → ∃ g', OwnsK H Z K (U.put os k o) (U.put vs k v) g' ∧ (∀ b ∈ g', b ∈ g ∨ b ∈ f) ∧ (g.Nodup → f.Nodup → (∀ b ∈ g, b ∉ f) → g'.Nodup)
  | [], vs, g, h => by
    obtain ⟨rfl, rfl⟩ := h
    exact ⟨f, ⟨v, [], f, [], rfl, by simp, ho, ⟨rfl, rfl⟩, hn⟩, fun b hb => .inr hb, fun _ h _ => h⟩
  | (q, o1) :: os, vs, g, h => by
    obtain ⟨v1, s, f1, g1, rfl, rfl, h1, h2, h3⟩ := h
    by_cases e : q = k
    · refine ⟨f ++ g1, ?_, fun b hb => ?_, fun n1 n2 n3 => ?_⟩
      · rw [U.put, if_pos e, U.put, if_pos e]
        exact ⟨v, s, f, g1, rfl, rfl, ho, h2, hn⟩
      · rcases List.mem_append.mp hb with hb | hb
        · exact .inr hb
        · exact .inl (List.mem_append_right _ hb)
      · exact List.nodup_append.mpr ⟨n2, (List.nodup_append.mp n1).2.1, fun a ha b hb e => n3 b (List.mem_append_right _ hb) (e ▸ ha)⟩
    · obtain ⟨g', q1, q2, q3⟩ := OwnsK.put (k := k) hn ho h2
      refine ⟨f1 ++ g', ?_, fun b hb => ?_, fun n1 n2 n3 => ?_⟩
      · rw [U.put, if_neg e, U.put, if_neg e]
        exact ⟨v1, _, f1, g', rfl, rfl, h1, q1, h3⟩
      · rcases List.mem_append.mp hb with hb | hb
        · exact .inl (List.mem_append_left _ hb)
        · exact (q2 b hb).imp (List.mem_append_right _) id
      · rw [List.nodup_append] at n1
        refine List.nodup_append.mpr ⟨n1.1, q3 n1.2.1 n2 fun b hb => n3 b (List.mem_append_right _ hb), fun a ha b hb e => ?_⟩
        rcases q2 b hb with hb | hb
        · exact n1.2.2 a ha b hb e
        · exact n3 a (List.mem_append_left _ ha) (e ▸ hb)
theorem OwnsT.put {k : List Ky} {o : O} {v : V} {f : List Addr} (hn : nS o = true) (ho : Own H Z K o v f) : ∀ {os : List (List Ky × O)} {vs : List (List Ky × V)} {g : List Addr}, OwnsT H Z K os vs g → ∃ g', OwnsT H Z K (U.put os k o) (U.put vs k v) g' ∧ (∀ b ∈ g', b ∈ g ∨ b ∈ f) ∧ (g.Nodup → f.Nodup → (∀ b ∈ g, b ∉ f) → g'.Nodup)
  | [], vs, g, h => by
    obtain ⟨rfl, rfl⟩ := h
    exact ⟨f, ⟨v, [], f, [], rfl, by simp, ho, ⟨rfl, rfl⟩, hn⟩, fun b hb => .inr hb, fun _ h _ => h⟩
  | (q, o1) :: os, vs, g, h => by
    obtain ⟨v1, s, f1, g1, rfl, rfl, h1, h2, h3⟩ := h
    by_cases e : q = k
    · refine ⟨f ++ g1, ?_, fun b hb => ?_, fun n1 n2 n3 => ?_⟩
      · rw [U.put, if_pos e, U.put, if_pos e]
        exact ⟨v, s, f, g1, rfl, rfl, ho, h2, hn⟩
      · rcases List.mem_append.mp hb with hb | hb
        · exact .inr hb
        · exact .inl (List.mem_append_right _ hb)
      · exact List.nodup_append.mpr ⟨n2, (List.nodup_append.mp n1).2.1, fun a ha b hb e => n3 b (List.mem_append_right _ hb) (e ▸ ha)⟩
    · obtain ⟨g', q1, q2, q3⟩ := OwnsT.put (k := k) hn ho h2
      refine ⟨f1 ++ g', ?_, fun b hb => ?_, fun n1 n2 n3 => ?_⟩
      · rw [U.put, if_neg e, U.put, if_neg e]
        exact ⟨v1, _, f1, g', rfl, rfl, h1, q1, h3⟩
      · rcases List.mem_append.mp hb with hb | hb
        · exact .inl (List.mem_append_left _ hb)
        · exact (q2 b hb).imp (List.mem_append_right _) id
      · rw [List.nodup_append] at n1
        refine List.nodup_append.mpr ⟨n1.1, q3 n1.2.1 n2 fun b hb => n3 b (List.mem_append_right _ hb), fun a ha b hb e => ?_⟩
        rcases q2 b hb with hb | hb
        · exact n1.2.2 a ha b hb e
        · exact n3 a (List.mem_append_left _ ha) (e ▸ hb)
theorem OwnsK.filter (p : Ky → Bool) : ∀ {os : List (Ky × O)} {vs : List (Ky × V)} {g : List Addr}, OwnsK H Z K os vs g → ∃ g', OwnsK H Z K (os.filter fun x => p x.1) (vs.filter fun x => p x.1) g' ∧ (∀ b ∈ g', b ∈ g) ∧ (g.Nodup → g'.Nodup)
  | [], vs, g, h => by
    obtain ⟨rfl, rfl⟩ := h
    exact ⟨[], ⟨rfl, rfl⟩, fun b hb => hb, id⟩
  | (q, o1) :: os, vs, g, h => by
    obtain ⟨v1, s, f1, g1, rfl, rfl, h1, h2, h3⟩ := h
    obtain ⟨g', q1, q2, q3⟩ := OwnsK.filter p h2
    by_cases e : p q = true
    · refine ⟨f1 ++ g', ?_, fun b hb => ?_, fun n => ?_⟩
      · rw [List.filter_cons_of_pos (p := fun x => p x.1) (a := (q, o1)) e, List.filter_cons_of_pos (p := fun x => p x.1) (a := (q, v1)) e]
        exact ⟨v1, _, f1, g', rfl, rfl, h1, q1, h3⟩
      · rcases List.mem_append.mp hb with hb | hb
        · exact List.mem_append_left _ hb
        · exact List.mem_append_right _ (q2 b hb)
      · rw [List.nodup_append] at n
        exact List.nodup_append.mpr ⟨n.1, q3 n.2.1, fun a ha b hb => n.2.2 a ha b (q2 b hb)⟩
    · refine ⟨g', ?_, fun b hb => List.mem_append_right _ (q2 b hb), fun n => q3 (List.nodup_append.mp n).2.1⟩
      rw [List.filter_cons_of_neg (p := fun x => p x.1) (a := (q, o1)) e, List.filter_cons_of_neg (p := fun x => p x.1) (a := (q, v1)) e]
      exact q1
theorem SubV.split : ∀ {p q : List Stp} {v u : V}, SubV H v (p ++ q) u → ∃ w, SubV H v p w ∧ SubV H w q u
  | [], _, v, _, h => ⟨v, rfl, h⟩
  | .ix _ :: p, q, _, _, ⟨a, vs, w, h1, h2, h3, h4⟩ => by
    obtain ⟨x, q1, q2⟩ := SubV.split h4
    exact ⟨x, ⟨a, vs, w, h1, h2, h3, q1⟩, q2⟩
  | .k _ :: p, q, _, _, ⟨a, vs, w, h1, h2, h3, h4⟩ => by
    obtain ⟨x, q1, q2⟩ := SubV.split h4
    exact ⟨x, ⟨a, vs, w, h1, h2, h3, q1⟩, q2⟩
  | .kt _ :: p, q, _, _, ⟨a, vs, w, h1, h2, h3, h4⟩ => by
    obtain ⟨x, q1, q2⟩ := SubV.split h4
    exact ⟨x, ⟨a, vs, w, h1, h2, h3, q1⟩, q2⟩
end
theorem getP_part : ∀ {p q : List Stp} {o : O}, (getP o (p ++ q)).isSome = true → (getP o p).isSome = true
  | [], _, o, _ => by rw [getP_nil]; rfl
  | .ix i :: p, q, .l os, h => by
    rw [List.cons_append, getP] at h
    rw [getP]
    cases e1 : ixO os.length i with
    | none => rw [e1] at h; cases h
    | some n =>
      rw [e1] at h
      have h : ((os[n]?).bind fun o => getP o (p ++ q)).isSome = true := h
      show ((os[n]?).bind fun o => getP o p).isSome = true
      cases e2 : os[n]? with
      | none => rw [e2] at h; cases h
      | some o => rw [e2] at h; exact getP_part (o := o) h
  | .k k :: p, q, .dk os, h => by
    rw [List.cons_append, getP] at h
    rw [getP]
    cases e1 : look os k with
    | none => rw [e1] at h; cases h
    | some o => rw [e1] at h; exact getP_part (o := o) h
  | .kt k :: p, q, .dt os, h => by
    rw [List.cons_append, getP] at h
    rw [getP]
    cases e1 : look os k with
    | none => rw [e1] at h; cases h
    | some o => rw [e1] at h; exact getP_part (o := o) h
  | .ix _ :: _, _, .z _, e => by cases e
  | .ix _ :: _, _, .t _, e => by cases e
  | .ix _ :: _, _, .dk _, e => by cases e
  | .ix _ :: _, _, .dt _, e => by cases e
  | .ix _ :: _, _, .s _, e => by cases e
  | .k _ :: _, _, .z _, e => by cases e
  | .k _ :: _, _, .l _, e => by cases e
  | .k _ :: _, _, .t _, e => by cases e
  | .k _ :: _, _, .dt _, e => by cases e
  | .k _ :: _, _, .s _, e => by cases e
  | .kt _ :: _, _, .z _, e => by cases e
  | .kt _ :: _, _, .l _, e => by cases e
  | .kt _ :: _, _, .t _, e => by cases e
  | .kt _ :: _, _, .dk _, e => by cases e
  | .kt _ :: _, _, .s _, e => by cases e
/-! ### ways as expressions -/
def PostP (X : Cx) (W : WX) (i : Nat) (σ : St) (ρ : Env) (H : Hp) (Z : Zs) (r : Res (List Stp)) (Q : VK) : Prop := match r with
  | .ok p => (∃ c, ownAt ρ i = some c ∧ (getP c p).isSome = true) ∧ ∀ v H' Z', Ext H Z H' Z' → (∀ w, σ[i]? = some (some w) → SubV H' w p v) → Q v H'
  | .err c d => ErrP X W σ H Z c d
  | .bad => False
structure PuP (X : Cx) (W : WX) (e : Expr) (i : Nat) (f : EP) : Prop where
  ex : ∃ t : TE, PE X e t ∧ ∀ {H0 Z0 H Z σ ρ}, SR X.K H0 Z0 H Z σ ρ → ∀ Q, PostP X W i σ ρ H Z (f ρ) Q → t σ H Q
section
variable {X : Cx} {W : WX} {e a b c : Expr} {f fa fb fc : EV} {pos : Pos} {H0 H H' : Hp} {Z0 : Ent} {Z Z' : Zs} {σ : St} {ρ : Env} {i : Nat} {fp : EP}
theorem SR.at' (S : SR X.K H0 Z0 H Z σ ρ) {c : O} (h : ownAt ρ i = some c) : ∃ w, σ[i]? = some (some w) := by
  obtain ⟨w, u, f, e1, _⟩ := S.mut (p := []) h (getP_nil c)
  exact ⟨w, e1⟩
theorem pp_n (i : Nat) {x : Str} (hN : X.N[i]? = some x) (hv : Vis X.env.scope x) (hd : (x == ("__debug__" : Str)) = false) (hcd : (x == ("__classdict__" : Str)) = false) : PuP X W (.Name x pos) i pN := by
  refine ⟨tVar i, pe_var hN hv hd hcd, fun {H0 Z0 H Z σ ρ} S Q p => ?_⟩
  obtain ⟨⟨c, hc, _⟩, q⟩ := p
  obtain ⟨w, hw⟩ := S.at' hc
  exact ⟨w, hw, q w H Z (Ext.refl S.ext.zd) fun w' h => by
    rw [hw] at h
    cases h
    rfl⟩
/-- the part at the last step -/
theorem SR.step (S : SR X.K H0 Z0 H Z σ ρ) {c : O} {p : List Stp} {s : Stp} (hc : ownAt ρ i = some c) (hg : (U.getP c (p ++ [s])).isSome = true) : ∃ w v u, σ[i]? = some (some w) ∧ SubV H w p v ∧ SubV H v [s] u ∧ SubV H w (p ++ [s]) u := by
  obtain ⟨q, hq⟩ := Option.isSome_iff_exists.mp hg
  obtain ⟨w, u, f, e1, e2, _⟩ := S.mut hc hq
  obtain ⟨v, e3, e4⟩ := e2.split
  exact ⟨w, v, u, e1, e3, e4, e2⟩
theorem pp_ix (hs : PlainIx b) (ha : PuP X W a i fp) (hb : PuB X W b fb) : PuP X W (.Subscript a b pos) i (pIx fp fb) := by
  obtain ⟨t, p, q⟩ := ha.ex
  obtain ⟨u, p', q'⟩ := hb.ex
  refine ⟨_, pe_ix ix_list p p' hs, fun {H0 Z0 H Z σ ρ} S Q h => ?_⟩
  unfold tOp
  refine q S _ ?_
  revert h
  unfold pIx PostP
  cases fp ρ with
  | bad => exact id
  | err cn d => exact id
  | ok pt =>
    rw [Res.bind_ok]
    cases eb : fb ρ with
    | bad => exact fun h => h.elim
    | err cn d => exact fun h => h.elim
    | ok o =>
      rw [Res.nox_ok, Res.bind_ok]
      cases o with
      | z d =>
        cases d with
        | int j =>
          rintro ⟨⟨c, hc, hg⟩, k⟩
          refine ⟨⟨c, hc, getP_part hg⟩, fun v H1 Z1 e1 hv => ?_⟩
          refine q' (S.grow e1) _ ?_
          unfold PostE
          rw [eb]
          intro y H2 Z2 g2 e2 o2 _
          obtain ⟨w, v', x, hw, s1, ⟨a, vs, x', rfl, s2, s3, s4⟩, s5⟩ := ((S.grow e1).grow e2).step hc hg
          have hvv := (hv w hw).ext e2.keep
          have := s1.fn hvv
          subst this
          have ex : x = x' := s4
          subst ex
          exact ⟨a, vs, j, x, rfl, o2.2, SqL.of s2, s3, k x H2 Z2 (e1.trans e2) fun w' h => by
            rw [hw] at h
            cases h
            exact s5⟩
        | _ => exact fun h => h.elim
      | _ => exact fun h => h.elim
theorem key_own {o : O} {v : V} {g : List Addr} {k : Ky} {K : PySem.W.Frag} (h : Own H Z K o v g) (e : kyO o = some k) : v = kV k := by
  unfold kyO at e
  split at e
  · cases e; exact h.2
  · cases e; exact h.2
  · cases e
theorem pp_k (hu : X.A.units + 1 < cLine) (hs : NoSl b) (ha : PuP X W a i fp) (hb : PuB X W b fb) : PuP X W (.Subscript a b pos) i (pK fp fb) := by
  obtain ⟨t, p, q⟩ := ha.ex
  obtain ⟨u, p', q'⟩ := hb.ex
  refine ⟨_, pe_dget hu p p' hs, fun {H0 Z0 H Z σ ρ} S Q h => ?_⟩
  unfold tDGet
  refine q S _ ?_
  revert h
  unfold pK PostP
  cases fp ρ with
  | bad => exact id
  | err cn d => exact id
  | ok pt =>
    rw [Res.bind_ok]
    cases eb : fb ρ with
    | bad => exact fun h => h.elim
    | err cn d => exact fun h => h.elim
    | ok o =>
      rw [Res.nox_ok, Res.bind_ok]
      cases ek : kyO o with
      | none => exact fun h => h.elim
      | some j =>
        rintro ⟨⟨c, hc, hg⟩, k⟩
        refine ⟨⟨c, hc, getP_part hg⟩, fun v H1 Z1 e1 hv => ?_⟩
        refine q' (S.grow e1) _ ?_
        unfold PostE
        rw [eb]
        intro y H2 Z2 g2 e2 o2 _
        obtain ⟨w, v', x, hw, s1, ⟨a, vs, x', rfl, s2, s3, s4⟩, s5⟩ := ((S.grow e1).grow e2).step hc hg
        have hvv := (hv w hw).ext e2.keep
        have := s1.fn hvv
        subst this
        have ex : x = x' := s4
        subst ex
        rw [look_val] at s3
        refine ⟨a, x, rfl, ?_, k x H2 Z2 (e1.trans e2) fun w' h => by
          rw [hw] at h
          cases h
          exact s5⟩
        rw [← s3, key_own o2 ek]
        exact .k s2
/-! ### changes -/
theorem chg_nx {i : Nat} {q : List Stp} {k : O → Option O} {D : Ends} (h : PostS X W H0 Z0 H Z D (chg ρ i q k)) : ∃ c d d', ownAt ρ i = some c ∧ getP c q = some d ∧ k d = some d' ∧ PostS X W H0 Z0 H Z D (.nx (setAtS ρ i (setP c q d'))) := by
  unfold chg at h
  cases e1 : ownAt ρ i with
  | none => rw [e1] at h; exact h.elim
  | some c =>
    rw [e1] at h
    cases e2 : getP c q with
    | none => simp only [Option.bind_some, e2] at h; exact h.elim
    | some d =>
      cases e3 : k d with
      | none => simp only [Option.bind_some, e2, e3] at h; exact h.elim
      | some d' =>
        simp only [Option.bind_some, e2, e3] at h
        exact ⟨c, d, d', rfl, e2, e3, h⟩
theorem chg_post {i : Nat} {q : List Stp} {k : O → Option O} {D : Ends} {H1 : Hp} {Z1 : Zs} (e : Kp H Z H1 Z1) (h : PostS X W H0 Z0 H Z D (chg ρ i q k)) : PostS X W H0 Z0 H1 Z1 D (chg ρ i q k) := PostS.grow h e
theorem nox_ok' {α : Type} {r : Res α} {k : α → Out} {P : Out → Prop} (hb : ¬ P .bad) (h : P (r.nox.out ρ k)) : ∃ a, r = .ok a ∧ P (k a) := by
  cases r with
  | ok a => exact ⟨a, rfl, h⟩
  | err _ _ => exact absurd h hb
  | bad => exact absurd h hb
/-- a key: what it is, and how it stands -/
structure PuJ (X : Cx) (b : Expr) {J : Type} (fb : Env → Res J) (C : J → Prop) (R : J → V → Hp → Zs → Prop) : Prop where
  ex : ∃ tb : TE, PE X b tb ∧ ∀ {H0 Z0 H Z σ ρ}, SR X.K H0 Z0 H Z σ ρ → ∀ j, fb ρ = .ok j → C j → ∀ Q : VK, (∀ y H' Z', Ext H Z H' Z' → R j y H' Z' → Q y H') → tb σ H Q
theorem pj_b (hb : PuB X W b fb) : PuJ X b fb (fun _ => True) fun j y H Z => ∃ g, Own H Z X.K j y g := by
  obtain ⟨tb, pb, qb⟩ := hb.ex
  refine ⟨tb, pb, fun {H0 Z0 H Z σ ρ} S j ej _ Q h => qb S Q ?_⟩
  unfold PostE
  rw [ej]
  exact fun y H' Z' g e o _ => h y H' Z' e ⟨g, o⟩
theorem pj_t {es : List Expr} {k : Nat} {p : Pos} {fs : EA} (ha : PuAB X W es fs) : PuJ X (.Tuple es k p) fs (fun js => js.length ≤ lineMax) fun js y H Z => ∃ b vs g, y = .ref b ∧ H b = some (.tup vs) ∧ OwnA H Z X.K js vs g := by
  obtain ⟨t, pa, q⟩ := ha.ex
  refine ⟨_, pe_tup pa, fun {H0 Z0 H Z σ ρ} S j ej hc Q h => ?_⟩
  unfold tTup
  refine q S _ ?_
  unfold PostA
  rw [ej]
  intro vs H1 Z1 g1 e1 o1 _
  refine ⟨by rw [o1.len, ← line_eq]; exact hc, fun p hp => ?_⟩
  have e2 := Ext.new (Z := Z1) (o := .tup vs) e1.zd hp
  exact h (.ref p) _ Z1 (e1.trans e2) ⟨p, vs, g1, rfl, upd_same, OwnA.ext e2 o1⟩
theorem keys_own {K : PySem.W.Frag} : ∀ {js : List O} {vs : List V} {g : List Addr} {ks : List Ky}, OwnA H Z K js vs g → kysO js = some ks → vs = ks.map kV
  | [], vs, g, ks, h, e => by cases e; rw [h.1]; rfl
  | o :: js, vs, g, ks, h, e => by
    obtain ⟨v, r, f, g', rfl, rfl, h1, h2⟩ := h
    rw [kysO] at e
    cases e1 : kyO o with
    | none => rw [e1] at e; cases e
    | some k =>
      rw [e1] at e
      cases e2 : kysO js with
      | none => rw [e2] at e; cases e
      | some r' =>
        rw [e2] at e
        cases e
        rw [key_own h1 e1, keys_own h2 e2]; rfl
/-- a store: the value, the way, the key -/
theorem ps_store {pos' : Pos} {J : Type} {C : J → Prop} {R : J → V → Hp → Zs → Prop} {fj : Env → Res J} {set : TSet} {k : J → O → O → Option O} (hw : swappedStores [.Subscript a b pos'] e X.env = pure none) (hs : swapsWithSole [.Subscript a b pos'] e pos.line X.env = pure false) (h1 : (assignEach [.Subscript a b pos'] X.env).map (·.2) = [assign (.Subscript a b pos') X.env])
    (hass : ∀ v, assign (.Subscript a b pos') X.env v = (do
      let ov ← holding [v] (eval a X.env)
      let iv ← holding [v, ov] (eval b X.env)
      standAt pos'
      holding [v, ov, iv] (setItem ov iv v)
      release [v, ov, iv] [])) (hset : PSet X set)
    (key : ∀ {H0 H H1 : Hp} {Z0 : Ent} {Z Z1 : Zs} {σ : St} {ρ : Env}, SR X.K H0 Z0 H Z σ ρ → Ext H Z H1 Z1 → ∀ {c d d' o : O} {j : J} {q : List Stp} {v y : V} {g : List Addr}, ownAt ρ i = some c → getP c q = some d → k j o d = some d' →
      Own H1 Z1 X.K o v g → New H Z1 g → R j y H1 Z1 → ∃ w a, σ[i]? = some (some w) ∧ SubV H w q (.ref a) ∧ ∀ Q : Hp → Prop, (∀ H2 Z2, SR X.K H0 Z0 H2 Z2 σ (setAtS ρ i (setP c q d')) → Kp H Z H2 Z2 → Q H2) → set (.ref a) y v H1 Q)
    (hC : ∀ j o d d', k j o d = some d' → C j) (he : PuE X W e f) (ha : PuP X W a i fp) (hb : PuJ X b fj C R) : PuS X W (.Assign [.Subscript a b pos'] e pos) (fun ρ => (f ρ).out ρ fun o => (fp ρ).nox.out ρ fun q => (fj ρ).nox.out ρ fun j => chg ρ i q (k j o)) := by
  obtain ⟨te, pe, qe⟩ := he.ex
  obtain ⟨ta, pa, qa⟩ := ha.ex
  obtain ⟨tb, pb, qb⟩ := hb.ex
  refine ⟨_, ps_asg pe (pg_sub pa pb hset hass) hs hw h1, ?_⟩
  intro H0 Z0 H Z σ ρ S D h
  unfold tAsg L2.gSub
  refine qe S _ ?_
  replace h : PostS X W H0 Z0 H Z D ((f ρ).out ρ fun o => (fp ρ).nox.out ρ fun q => (fj ρ).nox.out ρ fun j => chg ρ i q (k j o)) := h
  revert h
  unfold PostE
  cases f ρ with
  | bad => exact id
  | err cn d => exact fun h => PostS.errE S h
  | ok o =>
    intro h v H1 Z1 g1 e1 o1 n1
    obtain ⟨q, eq, h⟩ := nox_ok' (r := fp ρ) (k := fun q => (fj ρ).nox.out ρ fun j => chg ρ i q (k j o)) (P := PostS X W H0 Z0 H Z D) id h
    obtain ⟨j, ej, h⟩ := nox_ok' (r := fj ρ) (k := fun j => chg ρ i q (k j o)) (P := PostS X W H0 Z0 H Z D) id h
    obtain ⟨c, d, d', ec, eg, ek, h⟩ := chg_nx h
    refine qa (S.grow e1) _ ?_
    unfold PostP
    rw [eq]
    refine ⟨⟨c, ec, by rw [eg]; rfl⟩, fun x H2 Z2 e2 hx => ?_⟩
    refine qb ((S.grow e1).grow e2) j ej (hC _ _ _ _ ek) _ fun y H3 Z3 e3 o3 => ?_
    have e23 := e2.trans e3
    have n3 := (n1 trivial).later (K := X.K) (fun a ha => o1.ne ha) e23
    obtain ⟨w, a, hw, sa, go⟩ := key S (e1.trans e23) ec eg ek (o1.ext e23) n3 o3
    have := (sa.ext (e1.trans e2).keep).fn (hx w hw)
    subst this
    exact go _ fun H4 Z4 S4 k4 => h σ H4 Z4 k4 S4
theorem ps_putL {pos' : Pos} (hw : swappedStores [.Subscript a b pos'] e X.env = pure none) (hs : swapsWithSole [.Subscript a b pos'] e pos.line X.env = pure false) (h1 : (assignEach [.Subscript a b pos'] X.env).map (·.2) = [assign (.Subscript a b pos') X.env])
    (hass : ∀ v, assign (.Subscript a b pos') X.env v = (do
      let ov ← holding [v] (eval a X.env)
      let iv ← holding [v, ov] (eval b X.env)
      standAt pos'
      holding [v, ov, iv] (setItem ov iv v)
      release [v, ov, iv] []))
    (he : PuE X W e f) (ha : PuP X W a i fp) (hb : PuB X W b fb) : PuS X W (.Assign [.Subscript a b pos'] e pos) (sPutL i fp fb f) := by
  refine ps_store hw hs h1 hass set_list (fun {H0 H H1 Z0 Z Z1 σ ρ} S ex {c d d' o j q v y g} ec eg ek ho nn ⟨gy, hj⟩ => ?_) (fun _ _ _ _ _ => trivial) he ha (pj_b hb)
  unfold putL at ek
  split at ek
  · rename_i os k hj
    obtain ⟨gy, hj⟩ := hj
    by_cases hn : nS o = true
    · rw [if_pos hn] at ek
      cases ei : ixO os.length k with
      | none => rw [ei] at ek; cases ek
      | some n =>
        rw [ei] at ek
        cases ek
        obtain ⟨w, a, vs, g0, hw', sv, ha', hos, nd, mu⟩ := S.cellL ec eg
        have hos1 := Owns.ext ex hos
        have hlt : n < os.length := by
          unfold ixO at ei
          split at ei
          · split at ei
            · cases ei; omega
            · cases ei
          · split at ei
            · cases ei; omega
            · cases ei
        obtain ⟨v1, f1, l, r, efp, e1, e2, e3, rp⟩ := Owns.part hos1 (List.getElem?_eq_getElem hlt)
        have ho' := rp H1 Z1 o v g Kp.refl (fun _ _ => rfl) ho hn
        subst efp
        rw [List.append_assoc, List.nodup_append] at nd
        obtain ⟨n1, n2, n3⟩ := nd
        rw [List.nodup_append] at n2
        have old : ∀ b, b ∈ l ∨ b ∈ r → b ∉ g := fun b hb hg => by
          have : H b ≠ none := hos.ne (by
            rcases hb with hb | hb
            · exact List.mem_append_left _ (List.mem_append_left _ hb)
            · exact List.mem_append_right _ hb)
          exact this (nn.2 b hg).2
        refine ⟨w, a, hw', sv, fun Q hQ => ?_⟩
        obtain ⟨S', k'⟩ := mu H1 Z1 ex _ _ _ ho' (by
          rw [List.append_assoc]
          refine List.nodup_append.mpr ⟨n1, List.nodup_append.mpr ⟨nn.1, n2.2.1, fun x hx y hy e => old y (.inr hy) (e ▸ hx)⟩, fun x hx y hy => ?_⟩
          rcases List.mem_append.mp hy with hy | hy
          · exact fun e => old x (.inl hx) (e ▸ hy)
          · exact n3 x hx y (List.mem_append_right _ hy)) (fun b hb => by
          rcases List.mem_append.mp hb with hb | hb
          · rcases List.mem_append.mp hb with hb | hb
            · exact .inl (List.mem_append_left _ (List.mem_append_left _ hb))
            · exact .inr ⟨(nn.2 b hb).2, (nn.2 b hb).1⟩
          · exact .inl (List.mem_append_right _ hb))
        exact ⟨a, vs, k, n, rfl, hj, ex.keep _ _ ha', by rw [hos.length]; exact ixO_eq ei, hQ _ _ S' k'⟩
    · rw [if_neg hn] at ek; cases ek
  · cases ek
theorem ps_putD (hu : X.A.units + 1 < cLine) {pos' : Pos} (hw : swappedStores [.Subscript a b pos'] e X.env = pure none) (hs : swapsWithSole [.Subscript a b pos'] e pos.line X.env = pure false) (h1 : (assignEach [.Subscript a b pos'] X.env).map (·.2) = [assign (.Subscript a b pos') X.env])
    (hass : ∀ v, assign (.Subscript a b pos') X.env v = (do
      let ov ← holding [v] (eval a X.env)
      let iv ← holding [v, ov] (eval b X.env)
      standAt pos'
      holding [v, ov, iv] (setItem ov iv v)
      release [v, ov, iv] []))
    (he : PuE X W e f) (ha : PuP X W a i fp) (hb : PuB X W b fb) : PuS X W (.Assign [.Subscript a b pos'] e pos) (sPutD i fp fb f) := by
  refine ps_store hw hs h1 hass (set_dict hu) (fun {H0 H H1 Z0 Z Z1 σ ρ} S ex {c d d' o j q v y g} ec eg ek ho nn ⟨gy, hj⟩ => ?_) (fun _ _ _ _ _ => trivial) he ha (pj_b hb)
  unfold putD at ek
  split at ek
  · rename_i kvs
    cases ekk : kyO j with
    | none => rw [ekk] at ek; cases ek
    | some k =>
      rw [ekk] at ek
      have ek : (if kvs.length < lineMax ∧ nS o = true then some (O.dk (put kvs k o)) else none) = some d' := ek
      by_cases hn : kvs.length < lineMax ∧ nS o = true
      · rw [if_pos hn] at ek
        cases ek
        obtain ⟨w, a, vs, g0, hw', sv, ha', hnd, hos, nd, mu⟩ := S.cellK ec eg
        have hos1 := OwnsK.frame ex.kp _ _ _ (fun b hb => by
          obtain ⟨u, e⟩ := (OwnsK.mut _ _ _ hos b hb).some
          rw [e]; exact ex.keep _ _ e) hos
        obtain ⟨g', q1, q2, q3⟩ := OwnsK.put (k := k) hn.2 ho hos1
        refine ⟨w, a, hw', sv, fun Q hQ => ?_⟩
        obtain ⟨S', k'⟩ := mu H1 Z1 ex _ _ _ (put_nodup _ _ hnd) q1 (q3 nd nn.1 fun b hb hg => by
          obtain ⟨u, e⟩ := (OwnsK.mut _ _ _ hos b hb).some
          rw [(nn.2 b hg).2] at e; cases e) (fun b hb => (q2 b hb).imp id fun hb => ⟨(nn.2 b hb).2, (nn.2 b hb).1⟩)
        have hkeys := OwnsK.keys hos
        have hlen : vs.length = kvs.length := by
          have := congrArg List.length hkeys
          simpa using this
        refine ⟨a, _, rfl, ?_, hQ _ _ S' k'⟩
        rw [put_putK k v (by rw [hkeys]; exact hnd), key_own hj ekk]
        exact .k (ex.keep _ _ ha') (by rw [hlen, ← line_eq]; exact hn.1)
      · rw [if_neg hn] at ek; cases ek
  · cases ek
theorem ps_putT (hu : X.A.units + 1 < cLine) {es : List Expr} {kk : Nat} {fs : EA} {pos' pt : Pos} (hw : swappedStores [.Subscript a (.Tuple es kk pt) pos'] e X.env = pure none) (hs : swapsWithSole [.Subscript a (.Tuple es kk pt) pos'] e pos.line X.env = pure false) (h1 : (assignEach [.Subscript a (.Tuple es kk pt) pos'] X.env).map (·.2) = [assign (.Subscript a (.Tuple es kk pt) pos') X.env])
    (hass : ∀ v, assign (.Subscript a (.Tuple es kk pt) pos') X.env v = (do
      let ov ← holding [v] (eval a X.env)
      let iv ← holding [v, ov] (eval (.Tuple es kk pt) X.env)
      standAt pos'
      holding [v, ov, iv] (setItem ov iv v)
      release [v, ov, iv] []))
    (he : PuE X W e f) (ha : PuP X W a i fp) (hb : PuAB X W es fs) : PuS X W (.Assign [.Subscript a (.Tuple es kk pt) pos'] e pos) (sPutT i fp fs f) := by
  have hC : ∀ (j : List O) (o d d' : O), putT j o d = some d' → j.length ≤ lineMax := fun j o d d' ek => by
    unfold putT at ek
    split at ek
    · cases ekk : kysO j with
      | none => rw [ekk] at ek; cases ek
      | some k =>
        rw [ekk] at ek
        rename_i kvs
        have ek : (if kvs.length < lineMax ∧ j.length ≤ lineMax ∧ nS o = true then some (O.dt (put kvs k o)) else none) = some d' := ek
        by_cases hn : kvs.length < lineMax ∧ j.length ≤ lineMax ∧ nS o = true
        · exact hn.2.1
        · rw [if_neg hn] at ek; cases ek
    · cases ek
  refine ps_store hw hs h1 hass (set_dict hu) (fun {H0 H H1 Z0 Z Z1 σ ρ} S ex {c d d' o j q v y g} ec eg ek ho nn ⟨b, vs0, g0, hy, hb', hj⟩ => ?_) hC he ha (pj_t hb)
  · unfold putT at ek
    split at ek
    · rename_i kvs
      cases ekk : kysO j with
      | none => rw [ekk] at ek; cases ek
      | some k =>
        rw [ekk] at ek
        have ek : (if kvs.length < lineMax ∧ j.length ≤ lineMax ∧ nS o = true then some (O.dt (put kvs k o)) else none) = some d' := ek
        by_cases hn : kvs.length < lineMax ∧ j.length ≤ lineMax ∧ nS o = true
        · rw [if_pos hn] at ek
          cases ek
          obtain ⟨w, a, vs, g0, hw', sv, ha', hnd, hos, nd, mu⟩ := S.cellT ec eg
          have hos1 := OwnsT.frame ex.kp _ _ _ (fun b hb => by
            obtain ⟨u, e⟩ := (OwnsT.mut _ _ _ hos b hb).some
            rw [e]; exact ex.keep _ _ e) hos
          obtain ⟨g', q1, q2, q3⟩ := OwnsT.put (k := k) hn.2.2 ho hos1
          refine ⟨w, a, hw', sv, fun Q hQ => ?_⟩
          obtain ⟨S', k'⟩ := mu H1 Z1 ex _ _ _ (put_nodup _ _ hnd) q1 (q3 nd nn.1 fun b hb hg => by
            obtain ⟨u, e⟩ := (OwnsT.mut _ _ _ hos b hb).some
            rw [(nn.2 b hg).2] at e; cases e) (fun b hb => (q2 b hb).imp id fun hb => ⟨(nn.2 b hb).2, (nn.2 b hb).1⟩)
          have hkeys := OwnsT.keys hos
          have hlen : vs.length = kvs.length := by
            have := congrArg List.length hkeys
            simpa using this
          refine ⟨a, _, rfl, ?_, hQ _ _ S' k'⟩
          rw [put_putK k v (by rw [hkeys]; exact hnd), hy]
          exact .t (ex.keep _ _ ha') (by rw [hb', keys_own hj ekk]) (by rw [hlen, ← line_eq]; exact hn.1)
        · rw [if_neg hn] at ek; cases ek
    · cases ek
/-- x[..].append(e) -/
theorem ps_addP {p2 p3 : Pos}
    (hs : swapsWith (.Call (.Attribute a "append" p2) [e] [] p3) none pos.line X.env = pure false)
    (hbase : attributeBase a "append" X.env (eval a X.env) = eval a X.env)
    (hfew : ((backTo p3 (starEach [e] X.env)).all (fun x => !x.1) && (backToKw p3 (keywordEach [] X.env)).all (fun x => x.1.isSome) && decide ([e].length + ([] : List Keyword).length + (if ([] : List Keyword).isEmpty then 0 else 1) < 30)) = true)
    (hline : (p2.endLine == p3.line) = true) (hst : starEach [e] X.env = (false, eval e X.env) :: starEach [] X.env) (hplain : (backTo p3 (starEach [] X.env)).any (·.1) = false) (ha : PuP X W a i fp) (he : PuE X W e f) :
    PuS X W (.Expr (.Call (.Attribute a "append" p2) [e] [] p3) pos) (sAddP i fp f) := by
  obtain ⟨te, pe, qe⟩ := he.ex
  obtain ⟨ta, pa, qa⟩ := ha.ex
  refine ⟨_, ps_expr (pe_bm PySem.F.plainAttrs_list PySem.F.slot_list_append PySem.F.type_list_append mt_append pa (pa_cons pe pa_nil hst) hbase hfew hline hst hplain) hs, ?_⟩
  intro H0 Z0 H Z σ ρ S D h
  show ta σ H fun x H1 => tyV X.K "list" x H1 ∧ te σ H1 fun y H2 => rAppend x [y] H2 fun _ H3 => D.nx σ H3
  unfold sAddP at h
  obtain ⟨q, eq, h⟩ := nox_ok' (r := fp ρ) (P := PostS X W H0 Z0 H Z D) id h
  by_cases hok : okP ρ i q = true
  · rw [if_pos hok] at h
    unfold okP at hok
    cases ec : ownAt ρ i with
    | none => rw [ec] at hok; cases hok
    | some c =>
      rw [ec] at hok
      obtain ⟨os, hd⟩ : ∃ os, getP c q = some (.l os) := by
        have hok : (match getP c q with
          | some (.l _) => true
          | _ => false) = true := hok
        split at hok
        · rename_i os e
          exact ⟨os, e⟩
        · cases hok
      refine qa S _ ?_
      unfold PostP
      rw [eq]
      refine ⟨⟨c, ec, by rw [hd]; rfl⟩, fun x H1 Z1 e1 hx => ?_⟩
      have main : tyV X.K "list" x H1 := by
        obtain ⟨w, a, vs, g0, hw', sv, ha', _⟩ := S.cellL ec hd
        have := (sv.ext e1.keep).fn (hx w hw')
        subst this
        exact .inl ⟨rfl, vs, SqL.of (e1.keep _ _ ha')⟩
      refine ⟨main, qe (S.grow e1) _ ?_⟩
      revert h
      unfold PostE Res.out
      cases f ρ with
      | bad => exact id
      | err cn d => exact fun h => ErrP.grow (PostS.errE S h) e1
      | ok o =>
        dsimp only
        intro h v H2 Z2 g2 e2 o2 n2
        obtain ⟨c', d, d', ec', eg', ek, h⟩ := chg_nx h
        rw [ec] at ec'
        cases ec'
        rw [hd] at eg'
        cases eg'
        replace ek : (if os.length < lineMax ∧ nS o = true then some (O.l (os ++ [o])) else none) = some d' := ek
        by_cases hn : os.length < lineMax ∧ nS o = true
        · rw [if_pos hn] at ek
          cases ek
          obtain ⟨w, a, vs, g0, hw', sv, ha', hos, nd, mu⟩ := S.cellL ec hd
          have e12 := e1.trans e2
          have n2' := (n2 trivial).grow e1
          obtain ⟨S', k'⟩ := mu H2 Z2 e12 (os ++ [o]) (vs ++ [v]) (g0 ++ g2) (Owns.app (hos.ext e12) ⟨v, [], g2, [], rfl, by simp, o2, ⟨rfl, rfl⟩, hn.2⟩) (List.nodup_append.mpr ⟨nd, n2'.1, fun b hb c hc q => by
              obtain ⟨u, z⟩ := Owns.dom _ _ _ hos b hb
              rw [q, (n2'.2 c hc).2] at z; cases z⟩) fun b hb => by
            rcases List.mem_append.mp hb with hb | hb
            · exact .inl hb
            · exact .inr ⟨(n2'.2 b hb).2, (n2'.2 b hb).1⟩
          have := (sv.ext e1.keep).fn (hx w hw')
          subst this
          exact ⟨a, vs, v, rfl, rfl, e12.keep _ _ ha', by rw [hos.length, ← line_eq]; exact hn.1, h σ _ Z2 k' S'⟩
        · rw [if_neg hn] at ek; cases ek
  · rw [if_neg hok] at h
    exact h.elim
end
end U
end
/-! UX -/
section
set_option Elab.async false
set_option linter.all false
set_option maxRecDepth 100000
/-! UX: dicts read, all, any, sorted, .. -/
namespace U
open PySem L2
section
variable {X : Cx} {W : WX} {own : Prop} {e a b c : Expr} {f fa fb fc : EV} {pos : Pos} {K : PySem.W.Frag} {H H' : Hp} {Z Z' : Zs} {es : List Expr} {fs : EA} {apos cpos : Pos}
/-! ### new dicts -/
theorem pu_newK : PuE X W (.Dict [] [] pos) eNewK := by
  refine ⟨_, pe_dnewK, fun {H0 Z0 H Z σ ρ} S Q p q hq => ?_⟩
  have e := Ext.new (Z := Z) (o := .dK []) S.ext.zd hq
  refine p (.ref q) _ Z [q] e ⟨q, [], [], rfl, rfl, upd_same, List.nodup_nil, rfl, rfl⟩ fun _ => ⟨by simp, fun b hb => ?_⟩
  rw [List.mem_singleton] at hb
  subst hb
  exact ⟨fun z => S.ext.zd _ z hq, hq⟩
theorem pu_newT : PuE X W (.Dict [] [] pos) eNewT := by
  refine ⟨_, pe_dnewT, fun {H0 Z0 H Z σ ρ} S Q p q hq => ?_⟩
  have e := Ext.new (Z := Z) (o := .dT []) S.ext.zd hq
  refine p (.ref q) _ Z [q] e ⟨q, [], [], rfl, rfl, upd_same, List.nodup_nil, rfl, rfl⟩ fun _ => ⟨by simp, fun b hb => ?_⟩
  rw [List.mem_singleton] at hb
  subst hb
  exact ⟨fun z => S.ext.zd _ z hq, hq⟩
theorem OwnsK.look {k : Ky} : ∀ {kvs : List (Ky × O)} {vs : List (Ky × V)} {g : List Addr}, OwnsK H Z K kvs vs g → (U.look kvs k = none ∧ U.look vs k = none) ∨ ∃ o v f, U.look kvs k = some o ∧ U.look vs k = some v ∧ Own H Z K o v f
  | [], vs, g, h => by rw [h.1]; exact .inl ⟨rfl, rfl⟩
  | (q, o) :: kvs, vs, g, h => by
    obtain ⟨v, r, f, g', rfl, rfl, h1, h2, h3⟩ := h
    by_cases e : q = k
    · exact .inr ⟨o, v, f, by rw [U.look, if_pos e], by rw [U.look, if_pos e], h1⟩
    · rcases OwnsK.look h2 with ⟨q1, q2⟩ | ⟨o', v', f', q1, q2, q3⟩
      · exact .inl ⟨by rw [U.look, if_neg e, q1], by rw [U.look, if_neg e, q2]⟩
      · exact .inr ⟨o', v', f', by rw [U.look, if_neg e, q1], by rw [U.look, if_neg e, q2], q3⟩
theorem OwnsT.look {k : List Ky} : ∀ {kvs : List (List Ky × O)} {vs : List (List Ky × V)} {g : List Addr}, OwnsT H Z K kvs vs g → (U.look kvs k = none ∧ U.look vs k = none) ∨ ∃ o v f, U.look kvs k = some o ∧ U.look vs k = some v ∧ Own H Z K o v f
  | [], vs, g, h => by rw [h.1]; exact .inl ⟨rfl, rfl⟩
  | (q, o) :: kvs, vs, g, h => by
    obtain ⟨v, r, f, g', rfl, rfl, h1, h2, h3⟩ := h
    by_cases e : q = k
    · exact .inr ⟨o, v, f, by rw [U.look, if_pos e], by rw [U.look, if_pos e], h1⟩
    · rcases OwnsT.look h2 with ⟨q1, q2⟩ | ⟨o', v', f', q1, q2, q3⟩
      · exact .inl ⟨by rw [U.look, if_neg e, q1], by rw [U.look, if_neg e, q2]⟩
      · exact .inr ⟨o', v', f', by rw [U.look, if_neg e, q1], by rw [U.look, if_neg e, q2], q3⟩
/-- what of a dict is asked: data -/
theorem gz_post {H0 : Hp} {Z0 : Zs} {σ : L2.St} {Q : VK} {o : O} {v : V} {g : List Addr} (e0 : Ext H0 Z0 H Z) (h : Own H Z X.K o v g) (p : PostE X W True σ H0 Z0 (gZ o) Q) : Q v H := by
  cases o with
  | z d => exact p v H Z [] e0 ⟨rfl, h.2⟩ fun _ => New.nil
  | _ => exact p.elim
theorem nox_bind {α β : Type} {r : Res α} {k : α → Res β} {P : Res β → Prop} (hb : ¬ P .bad) (h : P (r.nox.bind k)) : ∃ a, r = .ok a ∧ P (k a) := by
  cases r with
  | ok a => exact ⟨a, rfl, h⟩
  | err _ _ => exact absurd h hb
  | bad => exact absurd h hb
theorem pu_get1K (hu : X.A.units + 1 < cLine) (ha : PuB X W a fa) (hb : PuB X W b fb) (m : M1 X a "get" apos b cpos) : PuE X W (.Call (.Attribute a "get" apos) [b] [] cpos) (eGet1K fa fb) := by
  obtain ⟨ta, pa, qa⟩ := ha.ex
  obtain ⟨tb, pb, qb⟩ := hb.ex
  refine ⟨_, pe_dget1 hu pa pb m, fun {H0 Z0 H Z σ ρ} S Q p => ?_⟩
  unfold eGet1K at p
  obtain ⟨d, ed, p⟩ := nox_bind (P := fun r => PostE X W True σ H Z r Q) id p
  unfold tDGet1
  refine qa S _ ?_
  unfold PostE
  rw [ed]
  intro x H1 Z1 g1 e1 o1 _
  cases d with
  | dk kvs =>
    obtain ⟨j, ej, p⟩ := nox_bind (P := fun r => PostE X W True σ H Z r Q) id p
    obtain ⟨a', vs, g, rfl, rfl, h1, nd, h2⟩ := o1
    refine ⟨a', rfl, .inl ⟨vs, .inl h1⟩, qb (S.grow e1) _ ?_⟩
    unfold PostE
    rw [ej]
    intro y H2 Z2 g2 e2 o2 _
    cases ek : kyO j with
    | none => rw [ek] at p; exact p.elim
    | some k =>
      rw [ek] at p
      dsimp only at p
      refine ⟨valV vs k, by rw [key_own o2 ek]; exact .k (e2.keep _ _ h1), ?_⟩
      rw [← look_val]
      have h2' := OwnsK.frame e2.kp _ _ _ (fun b hb => by
        obtain ⟨u, e⟩ := (OwnsK.mut _ _ _ h2 b hb).some
        rw [e]; exact e2.keep _ _ e) h2
      rcases h2'.look (k := k) with ⟨q1, q2⟩ | ⟨o, v, f', q1, q2, q3⟩
      · rw [q1] at p
        rw [q2]
        exact gz_post (o := .z .none) (g := []) (e1.trans e2) ⟨rfl, rfl⟩ p
      · rw [q1] at p
        rw [q2]
        exact gz_post (e1.trans e2) q3 p
  | _ => exact p.elim
theorem pu_get2K (hu : X.A.units + 1 < cLine) (ha : PuB X W a fa) (hb : PuB X W b fb) (hc : PuB X W c fc) (m : M2 X a "get" apos b c cpos) : PuE X W (.Call (.Attribute a "get" apos) [b, c] [] cpos) (eGet2K fa fb fc) := by
  obtain ⟨ta, pa, qa⟩ := ha.ex
  obtain ⟨tb, pb, qb⟩ := hb.ex
  obtain ⟨tc, pc, qc⟩ := hc.ex
  refine ⟨_, pe_dget2 hu pa pb pc m, fun {H0 Z0 H Z σ ρ} S Q p => ?_⟩
  unfold eGet2K at p
  obtain ⟨d, ed, p⟩ := nox_bind (P := fun r => PostE X W True σ H Z r Q) id p
  unfold tDGet2
  refine qa S _ ?_
  unfold PostE
  rw [ed]
  intro x H1 Z1 g1 e1 o1 _
  cases d with
  | dk kvs =>
    obtain ⟨j, ej, p⟩ := nox_bind (P := fun r => PostE X W True σ H Z r Q) id p
    obtain ⟨z, ez, p⟩ := nox_bind (P := fun r => PostE X W True σ H Z r Q) id p
    obtain ⟨a', vs, g, rfl, rfl, h1, nd, h2⟩ := o1
    refine ⟨a', rfl, .inl ⟨vs, .inl h1⟩, qb (S.grow e1) _ ?_⟩
    unfold PostE
    rw [ej]
    intro y H2 Z2 g2 e2 o2 _
    refine qc ((S.grow e1).grow e2) _ ?_
    unfold PostE
    rw [ez]
    intro w H3 Z3 g3 e3 o3 _
    cases ek : kyO j with
    | none => rw [ek] at p; exact p.elim
    | some k =>
      rw [ek] at p
      dsimp only at p
      refine ⟨valV vs k, by rw [key_own o2 ek]; exact .k (e3.keep _ _ (e2.keep _ _ h1)), ?_⟩
      rw [← look_val]
      have h2' := OwnsK.frame (e2.trans e3).kp _ _ _ (fun b hb => by
        obtain ⟨u, e⟩ := (OwnsK.mut _ _ _ h2 b hb).some
        rw [e]; exact (e2.trans e3).keep _ _ e) h2
      rcases h2'.look (k := k) with ⟨q1, q2⟩ | ⟨o, v, f', q1, q2, q3⟩
      · rw [q1] at p
        rw [q2]
        exact gz_post (e1.trans (e2.trans e3)) o3 p
      · rw [q1] at p
        rw [q2]
        exact gz_post (e1.trans (e2.trans e3)) q3 p
  | _ => exact p.elim
theorem pu_get2T (hu : X.A.units + 1 < cLine) {kk : Nat} {pt : Pos} (ha : PuB X W a fa) (hb : PuAB X W es fs) (hc : PuB X W c fc) (m : M2 X a "get" apos (.Tuple es kk pt) c cpos) : PuE X W (.Call (.Attribute a "get" apos) [.Tuple es kk pt, c] [] cpos) (eGet2T fa fs fc) := by
  obtain ⟨ta, pa, qa⟩ := ha.ex
  obtain ⟨tb, pb, qb⟩ := (pj_t (k := kk) (p := pt) hb).ex
  obtain ⟨tc, pc, qc⟩ := hc.ex
  refine ⟨_, pe_dget2 hu pa pb pc m, fun {H0 Z0 H Z σ ρ} S Q p => ?_⟩
  unfold eGet2T at p
  obtain ⟨d, ed, p⟩ := nox_bind (P := fun r => PostE X W True σ H Z r Q) id p
  unfold tDGet2
  refine qa S _ ?_
  unfold PostE
  rw [ed]
  intro x H1 Z1 g1 e1 o1 _
  cases d with
  | dt kvs =>
    obtain ⟨js, ej, p⟩ := nox_bind (P := fun r => PostE X W True σ H Z r Q) id p
    by_cases hl : js.length ≤ lineMax
    · rw [if_pos hl] at p
      obtain ⟨z, ez, p⟩ := nox_bind (P := fun r => PostE X W True σ H Z r Q) id p
      obtain ⟨a', vs, g, rfl, rfl, h1, nd, h2⟩ := o1
      refine ⟨a', rfl, .inr ⟨vs, .inl h1⟩, qb (S.grow e1) js ej hl _ fun y H2 Z2 e2 ⟨b', ws, g2, ey, hb', o2⟩ => ?_⟩
      refine qc ((S.grow e1).grow e2) _ ?_
      unfold PostE
      rw [ez]
      intro w H3 Z3 g3 e3 o3 _
      cases ek : kysO js with
      | none => rw [ek] at p; exact p.elim
      | some k =>
        rw [ek] at p
        dsimp only at p
        refine ⟨valV vs k, by rw [ey]; exact .t (e3.keep _ _ (e2.keep _ _ h1)) (by rw [e3.keep _ _ hb', keys_own o2 ek]), ?_⟩
        rw [← look_val]
        have h2' := OwnsT.frame (e2.trans e3).kp _ _ _ (fun b hb => by
          obtain ⟨u, e⟩ := (OwnsT.mut _ _ _ h2 b hb).some
          rw [e]; exact (e2.trans e3).keep _ _ e) h2
        rcases h2'.look (k := k) with ⟨q1, q2⟩ | ⟨o, v, f', q1, q2, q3⟩
        · rw [q1] at p
          rw [q2]
          exact gz_post (e1.trans (e2.trans e3)) o3 p
        · rw [q1] at p
          rw [q2]
          exact gz_post (e1.trans (e2.trans e3)) q3 p
    · rw [if_neg hl] at p
      exact p.elim
  | _ => exact p.elim
theorem pu_dg (hu : X.A.units + 1 < cLine) (hs : NoSl b) (ha : PuB X W a fa) (hb : PuB X W b fb) : PuE X W (.Subscript a b pos) (eDg fa fb) := by
  obtain ⟨ta, pa, qa⟩ := ha.ex
  obtain ⟨tb, pb, qb⟩ := hb.ex
  refine ⟨_, pe_dget hu pa pb hs, fun {H0 Z0 H Z σ ρ} S Q p => ?_⟩
  unfold eDg at p
  obtain ⟨d, ed, p⟩ := nox_bind (P := fun r => PostE X W True σ H Z r Q) id p
  unfold tDGet
  refine qa S _ ?_
  unfold PostE
  rw [ed]
  intro x H1 Z1 g1 e1 o1 _
  cases d with
  | dk kvs =>
    obtain ⟨j, ej, p⟩ := nox_bind (P := fun r => PostE X W True σ H Z r Q) id p
    obtain ⟨a', vs, g, rfl, rfl, h1, nd, h2⟩ := o1
    refine qb (S.grow e1) _ ?_
    unfold PostE
    rw [ej]
    intro y H2 Z2 g2 e2 o2 _
    cases ek : kyO j with
    | none => rw [ek] at p; exact p.elim
    | some k =>
      rw [ek] at p
      have h2' := OwnsK.frame e2.kp _ _ _ (fun b hb => by
        obtain ⟨u, e⟩ := (OwnsK.mut _ _ _ h2 b hb).some
        rw [e]; exact e2.keep _ _ e) h2
      rcases h2'.look (k := k) with ⟨q1, q2⟩ | ⟨o, v, f', q1, q2, q3⟩
      · rw [Option.bind_some, q1] at p
        exact p.elim
      · rw [Option.bind_some, q1] at p
        dsimp only at p
        refine ⟨a', v, rfl, ?_, gz_post (e1.trans e2) q3 p⟩
        rw [← q2, look_val, key_own o2 ek]
        exact .k (e2.keep _ _ h1)
  | _ => exact p.elim
end
end U
end
/-! UY -/
section
set_option Elab.async false
set_option linter.all false
set_option maxRecDepth 100000
/-! UY: dict(xs), all, any, sorted. -/
namespace U
open PySem L2
section
variable {K : PySem.W.Frag} {H H' : Hp} {Z Z' : Zs}
/-! ### dict(xs) -/
theorem pairsD_kv : ∀ {ds : List PyData} {vs : List V} {ps : List (Ky × PyData)}, pairsD ds = some ps → RZs H Z K ds vs → ∃ (as : List Addr) (kvs : List (Key × V)), vs = as.map V.ref ∧ Paired (fun p kv => SqT K H p [kV kv.1, kv.2]) as kvs ∧ Paired (fun (kv : Key × V) (p : Ky × PyData) => kv.1 = p.1 ∧ RZ H Z K p.2 kv.2) kvs ps
  | [], vs, ps, e, h => by
    cases e
    rw [show vs = [] from h]
    exact ⟨[], [], rfl, .nil, .nil⟩
  | .tuple [k, v] :: r, vs, ps, e, h => by
    rw [pairsD] at e
    cases ek : kyO (.z k) with
    | none => rw [ek] at e; cases e
    | some j =>
      rw [ek] at e
      have e : (pairsD r).map ((j, v) :: ·) = some ps := e
      cases er : pairsD r with
      | none => rw [er] at e; cases e
      | some ps' =>
        rw [er] at e
        cases e
        obtain ⟨x, vr, rfl, ⟨a, ws, rfl, h1, w1, wr, rfl, q1, w2, wr2, rfl, q2, q3⟩, h2⟩ := h
        rw [show wr2 = [] from q3] at h1
        obtain ⟨as, kvs, rfl, p1, p2⟩ := pairsD_kv er h2
        have ho : Own H Z K (.z k) w1 [] := ⟨rfl, q1⟩
        have hw : w1 = kV j := key_own ho ek
        exact ⟨a :: as, (j, w2) :: kvs, rfl, .cons (by rw [← hw]; exact h1) p1, .cons ⟨rfl, q2⟩ p2⟩
  | .none :: _, _, _, e, _ => by cases e
  | .bool _ :: _, _, _, e, _ => by cases e
  | .int _ :: _, _, _, e, _ => by cases e
  | .str _ :: _, _, _, e, _ => by cases e
  | .list _ :: _, _, _, e, _ => by cases e
  | .dict _ :: _, _, _, e, _ => by cases e
  | .tuple [] :: _, _, _, e, _ => by cases e
  | .tuple [_] :: _, _, _, e, _ => by cases e
  | .tuple (_ :: _ :: _ :: _) :: _, _, _, e, _ => by cases e
theorem merge_owns : ∀ {kvs : List (Key × V)} {ps : List (Ky × PyData)} {acc : List (Ky × O)} {ws : List (Ky × V)}, Paired (fun (kv : Key × V) (p : Ky × PyData) => kv.1 = p.1 ∧ RZ H Z K p.2 kv.2) kvs ps → OwnsK H Z K acc ws [] → (acc.map (·.1)).Nodup →
    OwnsK H Z K (ps.foldl (fun kvs p => U.put kvs p.1 (.z p.2)) acc) (mergeK ws kvs) [] ∧ ((ps.foldl (fun kvs p => U.put kvs p.1 (.z p.2)) acc).map (·.1)).Nodup
  | _, _, acc, ws, .nil, h, nd => ⟨h, nd⟩
  | _, _, acc, ws, .cons (a := kv) (b := p) h1 h2, h, nd => by
    obtain ⟨g', q1, q2, _⟩ := OwnsK.put (k := p.1) (o := .z p.2) (v := kv.2) (f := []) rfl ⟨rfl, h1.2⟩ h
    have eg : g' = [] := by
      cases g' with
      | nil => rfl
      | cons b g' => exact ((q2 b List.mem_cons_self).elim (fun h => by cases h) fun h => by cases h)
    subst eg
    rw [put_putK p.1 kv.2 (by rw [OwnsK.keys h]; exact nd)] at q1
    have q1' : OwnsK H Z K (U.put acc p.1 (.z p.2)) (putK ws kv.1 kv.2) [] := by rw [h1.1]; exact q1
    have r := merge_owns h2 q1' (put_nodup p.1 (.z p.2) nd)
    exact r
end
section
variable {X : Cx} {K : PySem.W.Frag}
theorem gr_dict : GRL K (fun xs H Q => ∃ (a : Addr) (ps : List Addr) (kvs : List (Key × V)), xs = [.ref a] ∧ SqL K H a (ps.map V.ref) ∧ Paired (fun p kv => SqT K H p [kV kv.1, kv.2]) ps kvs ∧ ∀ p, H p = none → Q (.ref p) (upd H p (.dK (mergeK [] kvs)))) kDict := fun {H Z vs os fp} hz oA Q => by
  unfold kDict
  split
  · rename_i o
    obtain ⟨v, rfl, g, h⟩ := ownA1 oA
    cases e : lz o with
    | none => exact fun p => p.elim
    | some ds =>
      cases e2 : pairsD ds with
      | none => simp only [Option.bind_some, e2]; exact fun p => p.elim
      | some ps =>
        simp only [Option.bind_some, e2]
        intro p
        obtain ⟨a, vs, rfl, h1, h2⟩ := h.lz e
        obtain ⟨as, kvs, rfl, p1, p2⟩ := pairsD_kv e2 h2
        refine ⟨a, as, kvs, rfl, SqL.of h1, p1, fun q hq => ?_⟩
        obtain ⟨m1, m2⟩ := merge_owns p2 (acc := []) (ws := []) ⟨rfl, rfl⟩ List.nodup_nil
        have ex := Ext.new (Z := Z) (o := .dK (mergeK [] kvs)) hz hq
        refine p (.ref q) _ Z [q] ex ⟨q, _, [], rfl, rfl, upd_same, m2, OwnsK.frame ex.kp _ _ _ (fun b hb => by cases hb) m1⟩ ⟨by simp, fun b hb => ?_⟩
        rw [List.mem_singleton] at hb
        subst hb
        exact ⟨fun z => hz _ z hq, hq⟩
  · exact fun p => p.elim
theorem boolsD_bl {H : Hp} {Z : Zs} : ∀ {ds : List PyData} {vs : List V} {bs : List Bool}, boolsD ds = some bs → RZs H Z K ds vs → vs = bs.map V.bl
  | [], vs, bs, e, h => by cases e; exact h
  | .bool b :: r, vs, bs, e, h => by
    rw [boolsD] at e
    cases er : boolsD r with
    | none => rw [er] at e; cases e
    | some bs' =>
      rw [er] at e
      cases e
      obtain ⟨x, vr, rfl, h1, h2⟩ := h
      rw [show x = .bl b from h1, boolsD_bl er h2]; rfl
  | .none :: _, _, _, e, _ => by cases e
  | .int _ :: _, _, _, e, _ => by cases e
  | .str _ :: _, _, _, e, _ => by cases e
  | .list _ :: _, _, _, e, _ => by cases e
  | .tuple _ :: _, _, _, e, _ => by cases e
  | .dict _ :: _, _, _, e, _ => by cases e
theorem gr_all : GRL K (rAll K) kAll := fun {H Z vs os fp} hz oA Q => by
  unfold kAll
  split
  · rename_i o
    obtain ⟨v, rfl, g, h⟩ := ownA1 oA
    cases e : lz o with
    | none => exact fun p => p.elim
    | some ds =>
      cases e2 : boolsD ds with
      | none => simp only [Option.bind_some, e2]; exact fun p => p.elim
      | some bs =>
        simp only [Option.bind_some, e2]
        intro p
        obtain ⟨a, vs, rfl, h1, h2⟩ := h.lz e
        exact ⟨a, bs, rfl, SqL.of (by rw [← boolsD_bl e2 h2]; exact h1), PostG.z hz rz_bl p⟩
  · exact fun p => p.elim
theorem gr_any : GRL K (rAny K) kAny := fun {H Z vs os fp} hz oA Q => by
  unfold kAny
  split
  · rename_i o
    obtain ⟨v, rfl, g, h⟩ := ownA1 oA
    cases e : lz o with
    | none => exact fun p => p.elim
    | some ds =>
      cases e2 : boolsD ds with
      | none => simp only [Option.bind_some, e2]; exact fun p => p.elim
      | some bs =>
        simp only [Option.bind_some, e2]
        intro p
        obtain ⟨a, vs, rfl, h1, h2⟩ := h.lz e
        exact ⟨a, bs, rfl, SqL.of (by rw [← boolsD_bl e2 h2]; exact h1), PostG.z hz rz_bl p⟩
  · exact fun p => p.elim
end
/-! ### sorted -/
mutual
theorem akin_alike : ∀ a b : PyData, akin a b = true → PySem.W.alike a b = true
  | .none, .none, _ => by simp [PySem.W.alike]
  | .bool _, .bool _, _ => by simp [PySem.W.alike]
  | .int _, .int _, _ => by simp [PySem.W.alike]
  | .str _, .str _, _ => by simp [PySem.W.alike]
  | .list xs, .list ys, h => by rw [akin] at h; rw [PySem.W.alike]; exact akins_alike xs ys h
  | .tuple xs, .tuple ys, h => by rw [akin] at h; rw [PySem.W.alike]; exact akins_alike xs ys h
  | .none, .bool _, h | .none, .int _, h | .none, .str _, h | .none, .list _, h | .none, .tuple _, h | .none, .dict _, h => by simp [akin] at h
  | .bool _, .none, h | .bool _, .int _, h | .bool _, .str _, h | .bool _, .list _, h | .bool _, .tuple _, h | .bool _, .dict _, h => by simp [akin] at h
  | .int _, .none, h | .int _, .bool _, h | .int _, .str _, h | .int _, .list _, h | .int _, .tuple _, h | .int _, .dict _, h => by simp [akin] at h
  | .str _, .none, h | .str _, .bool _, h | .str _, .int _, h | .str _, .list _, h | .str _, .tuple _, h | .str _, .dict _, h => by simp [akin] at h
  | .list _, .none, h | .list _, .bool _, h | .list _, .int _, h | .list _, .str _, h | .list _, .tuple _, h | .list _, .dict _, h => by simp [akin] at h
  | .tuple _, .none, h | .tuple _, .bool _, h | .tuple _, .int _, h | .tuple _, .str _, h | .tuple _, .list _, h | .tuple _, .dict _, h => by simp [akin] at h
  | .dict _, _, h => by simp [akin] at h
theorem akins_alike : ∀ a b : List PyData, akins a b = true → PySem.W.alikeAll a b = true
  | [], _, _ => by simp [PySem.W.alikeAll]
  | _ :: _, [], _ => by simp [PySem.W.alikeAll]
  | x :: xs, y :: ys, h => by
    rw [akins, Bool.and_eq_true] at h
    rw [PySem.W.alikeAll, akin_alike x y h.1, akins_alike xs ys h.2]
    rfl
end
mutual
theorem ltD_eq : ∀ a b : PyData, akin a b = true → ltD a b = PySem.W.dataLt a b
  | .none, .none, _ => by rw [PySem.W.dataLt]; rfl
  | .bool x, .bool y, _ => by rw [PySem.W.dataLt_bool]; cases x <;> cases y <;> decide
  | .int _, .int _, _ => by rw [PySem.W.dataLt_int]; rfl
  | .str _, .str _, _ => by rw [PySem.W.dataLt_str]; rfl
  | .list xs, .list ys, h => by rw [akin] at h; rw [ltD, PySem.W.dataLt_list, ltDs_eq xs ys h]
  | .tuple xs, .tuple ys, h => by rw [akin] at h; rw [ltD, PySem.W.dataLt_tuple, ltDs_eq xs ys h]
  | .none, .bool _, h | .none, .int _, h | .none, .str _, h | .none, .list _, h | .none, .tuple _, h | .none, .dict _, h => by simp [akin] at h
  | .bool _, .none, h | .bool _, .int _, h | .bool _, .str _, h | .bool _, .list _, h | .bool _, .tuple _, h | .bool _, .dict _, h => by simp [akin] at h
  | .int _, .none, h | .int _, .bool _, h | .int _, .str _, h | .int _, .list _, h | .int _, .tuple _, h | .int _, .dict _, h => by simp [akin] at h
  | .str _, .none, h | .str _, .bool _, h | .str _, .int _, h | .str _, .list _, h | .str _, .tuple _, h | .str _, .dict _, h => by simp [akin] at h
  | .list _, .none, h | .list _, .bool _, h | .list _, .int _, h | .list _, .str _, h | .list _, .tuple _, h | .list _, .dict _, h => by simp [akin] at h
  | .tuple _, .none, h | .tuple _, .bool _, h | .tuple _, .int _, h | .tuple _, .str _, h | .tuple _, .list _, h | .tuple _, .dict _, h => by simp [akin] at h
  | .dict _, _, h => by simp [akin] at h
theorem ltDs_eq : ∀ a b : List PyData, akins a b = true → ltDs a b = PyProof.Rows.lexLt PyProof.Rows.itemOrd (PySem.W.keyToksAll a) (PySem.W.keyToksAll b)
  | [], [], _ => by rfl
  | [], _ :: _, _ => by rfl
  | _ :: _, [], _ => by rfl
  | x :: xs, y :: ys, h => by
    rw [akins, Bool.and_eq_true] at h
    rw [PySem.W.dataLt_cons (akin_alike x y h.1), ltDs, eqD_eq, ltDs_eq xs ys h.2, ltD_eq x y h.1]
end
section
variable {X : Cx} {K : PySem.W.Frag}
/-- sorted(xs) of data: the items as they are laid, in order -/
def rSortD (K : PySem.W.Frag) : List V → Hp → VK → Prop := fun xs H Q => ∃ (a : Addr) (vs : List V) (ds : List PyData) (P : V → PyData → Prop), xs = [.ref a] ∧ H a = some (.lst vs) ∧ DpAll K H vs ds ∧ Paired P vs ds ∧ fit ds ∧ ds.length ≤ lineMax ∧
  ∀ (ws : List V) (p : Addr), Paired P ws (ds.mergeSort fun a b => !ltD b a) → H p = none → Q (.ref p) (upd H p (.lst ws))
theorem each_of {P : V → PyData → Prop} : ∀ {vs : List V} {us : List Value} {ds : List PyData}, Paired P vs ds → Vals vs us → PySem.W.EachIs (fun u d => ∃ v, RelV v u ∧ P v d) us ds
  | _, _, _, .nil, r => by cases r; exact .nil
  | _, _, _, .cons h t, r => by
    cases r with
    | cons r1 r2 => exact .cons ⟨_, r1, h⟩ (each_of t r2)
theorem of_each {P : V → PyData → Prop} : ∀ {us : List Value} {ds : List PyData}, PySem.W.EachIs (fun u d => ∃ v, RelV v u ∧ P v d) us ds → ∃ vs, Vals vs us ∧ Paired P vs ds
  | _, _, .nil => ⟨[], .nil, .nil⟩
  | _, _, .cons ⟨v, r, h⟩ t => by
    obtain ⟨vs, q1, q2⟩ := of_each t
    exact ⟨v :: vs, .cons r q1, .cons h q2⟩
theorem each_reads {h : Heap} : ∀ {us : List Value} {ds : List PyData} {as : List Addr}, ReadsAll h us ds as → PySem.W.EachIs (fun v b => ∃ as, Reads h v b as) us ds
  | _, _, _, .nil => .nil
  | _, _, _, .cons h t => .cons ⟨_, h⟩ (each_reads t)
theorem cr_sortD (hu : X.A.units + 65 < cLine) : CallR X (.builtin "sorted") (rSortD X.K) := by
  intro pins s σ H xs us Q I r h
  obtain ⟨a, vs, ds, P, rfl, ha, dp, pr, ft, hl, q⟩ := h
  obtain ⟨its, rv, pl, hz⟩ := I.list (SqL.of ha)
  obtain ⟨u, rfl, ru⟩ := vals1 r
  obtain rfl : u = Value.ref a := ru
  obtain ⟨as, rd⟩ := Dp.readsAll I ds vs its dp rv
  have m := ft.1
  have fin : ∀ d ∈ ds, d.depth ≤ 60 := fun d hd => (fine_lay 60 d (ft.2.2 d hd)).2
  refine PySem.W.sorted_data (bs := ds) (enc := id) pl.isList (each_of pr rv) (each_reads rd) ?_ ?_ (by rw [← line_eq]; exact hl) (fun d hd => by have := fin d hd; show X.A.units + 2 + d.depth < cLine; omega) fun out ho eo => ?_
  · rw [List.map_id]
    exact fun d hd e he => akin_alike _ _ (m d hd e he)
  · rw [List.map_id]
    rcases ft.2.1 with h | h
    · refine .inl fun d hd => ?_
      have := h d hd
      cases d with
      | tuple xs =>
        cases xs with
        | nil => cases this
        | cons x r => exact ⟨x, r, rfl⟩
      | _ => cases this
    · refine .inr fun d hd => ⟨fun e => ?_, fun xs e => ?_⟩
      · have := h d hd
        rw [e] at this; cases this
      · have := h d hd
        rw [e] at this; cases this
  · have same : ds.mergeSort (PySem.W.dataLe false id) = ds.mergeSort fun a b => !ltD b a := by
      have := List.map_mergeSort (r := PySem.W.dataLe false id) (s := fun a b => !ltD b a) (f := id) (l := ds) fun d hd e he => by
        rw [PySem.W.dataLe_eq]
        show (bif false then _ else !PySem.W.dataLt e d) = !ltD e d
        rw [ltD_eq e d (m e he d hd)]
        rfl
      simpa using this
    rw [same] at eo
    obtain ⟨ws, r1, r2⟩ := of_each eo
    obtain ⟨n, hn⟩ := PyProof.Rows.sortedAll_at s.heap its out.toArray
    have hd : s.heap.objs.size ≤ s.heap.objs.size + 1 := Nat.le_succ _
    refine ⟨.ref (s.heap.objs.size + 1), upd H (s.heap.objs.size + 1) (.lst ws), I.laid (t' := s.toks) (fun b o e => PyProof.Rows.sortedAll_old e) hd ⟨?_, out, n, r1, hn⟩, rfl, q _ _ r2 (I.hok.fresh hd)⟩
    have : ws.length = ds.length := by
      rw [r1.length, ho]
    rw [this, ← line_eq]
    exact hl
theorem RZs.paired {H : Hp} {Z : Zs} : ∀ {ds : List PyData} {vs : List V}, RZs H Z K ds vs → Paired (fun v d => RZ H Z K d v) vs ds
  | [], vs, h => by rw [show vs = [] from h]; exact .nil
  | d :: ds, vs, h => by
    obtain ⟨v, r, rfl, h1, h2⟩ := h
    exact .cons h1 h2.paired
theorem RZs.of_paired {H : Hp} {Z : Zs} : ∀ {ds : List PyData} {vs : List V}, Paired (fun v d => RZ H Z K d v) vs ds → RZs H Z K ds vs
  | _, _, .nil => rfl
  | _, _, .cons h1 h2 => ⟨_, _, rfl, h1, RZs.of_paired h2⟩
theorem gr_sort : GRL K (rSortD K) kSorted := fun {H Z vs os fp} hz oA Q => by
  unfold kSorted
  split
  · rename_i o
    obtain ⟨v, rfl, g, h⟩ := ownA1 oA
    cases e : lz o with
    | none => exact fun p => p.elim
    | some ds =>
      dsimp only
      by_cases hf : fit ds ∧ ds.length ≤ lineMax
      · rw [if_pos hf]
        intro p
        obtain ⟨a, vs, rfl, h1, h2⟩ := h.lz e
        exact ⟨a, vs, ds, _, rfl, h1, RZs.dp ds vs h2, h2.paired, hf.1, hf.2, fun ws q hw hq => PostG.lst hz (RZs.of_paired hw) p hq⟩
      · rw [if_neg hf]
        exact fun p => p.elim
  · exact fun p => p.elim
theorem gr_lenD : GRL K (fun xs H Q => ∃ a kvs, xs = [V.ref a] ∧ H a = some (.dK kvs) ∧ Q (.int kvs.length) H) kLenD := fun {H Z vs os fp} hz oA Q => by
  unfold kLenD
  split
  · rename_i kvs
    obtain ⟨v, rfl, g, a, ws, g', rfl, rfl, h1, nd, h2⟩ := ownA1 oA
    intro p
    refine ⟨a, ws, rfl, h1, ?_⟩
    have e : ws.length = kvs.length := by
      have := congrArg List.length (OwnsK.keys h2)
      simpa using this
    rw [e]
    exact PostG.z hz rz_int p
  · exact fun p => p.elim
theorem keys_rz {H : Hp} {Z : Zs} : ∀ {kvs : List (Ky × O)} {vs : List (Ky × V)} {g : List Addr}, OwnsK H Z K kvs vs g → RZs H Z K (kvs.map fun p => kyD p.1) (vs.map fun kv => kV kv.1)
  | [], vs, g, h => by rw [h.1]; exact rfl
  | (k, o) :: kvs, vs, g, h => by
    obtain ⟨v, r, f, g', rfl, rfl, h1, h2, h3⟩ := h
    refine ⟨kV k, _, rfl, ?_, keys_rz h2⟩
    cases k <;> rfl
theorem gr_listD : GRL K (fun xs H Q => ∃ (a : Addr) (kvs : List (Key × V)), xs = [.ref a] ∧ Rd H a (.dK kvs) ∧ ∀ p, H p = none → Q (.ref p) (upd H p (.lst (kvs.map fun kv => kV kv.1)))) kListD := fun {H Z vs os fp} hz oA Q => by
  unfold kListD
  split
  · rename_i kvs
    obtain ⟨v, rfl, g, a, ws, g', rfl, rfl, h1, nd, h2⟩ := ownA1 oA
    exact fun p => ⟨a, ws, rfl, .inl h1, fun q hq => PostG.lst hz (keys_rz h2) p hq⟩
  · exact fun p => p.elim
end
end U
end
/-! UR -/
section
set_option Elab.async false
set_option linter.all false
set_option maxRecDepth 100000
/-! UR: repr. -/
namespace U
open PySem L2 PySem.Spec PyProof.Rows
section
variable {X : Cx} {pins : List (Addr × Obj)} {σ : L2.St} {H : Hp} {Z : Zs} {s : Shared}
mutual
theorem fine_nodict : ∀ (n : Nat) (d : PyData), fine n d = true → d.hasDict = false
  | n, .none, _ => by simp [PyData.hasDict]
  | n, .bool _, _ => by simp [PyData.hasDict]
  | n, .int _, _ => by simp [PyData.hasDict]
  | n, .str _, _ => by simp [PyData.hasDict]
  | n + 1, .list xs, h => by rw [fine] at h; rw [PyData.hasDict]; exact fines_nodict n xs h
  | n + 1, .tuple xs, h => by rw [fine] at h; rw [PyData.hasDict]; exact fines_nodict n xs h
  | 0, .list xs, h => by simp [fine] at h
  | 0, .tuple xs, h => by simp [fine] at h
  | n, .dict _, h => by cases n <;> simp [fine] at h
theorem fines_nodict : ∀ (n : Nat) (ds : List PyData), fines n ds = true → PyData.hasDictAll ds = false
  | n, [], _ => by simp [PyData.hasDictAll]
  | n, d :: ds, h => by
    rw [fines, Bool.and_eq_true] at h
    rw [PyData.hasDictAll, fine_nodict n d h.1, fines_nodict n ds h.2]; rfl
end
/-- flat data stands nowhere -/
theorem flat_reads {d : PyData} {v : V} {u : Value} (I : Inv X pins σ H s) (hf : flat d = true) (h : RZ H Z X.K d v) (r : RelV v u) : Reads s.heap u d [] := by
  cases d with
  | none => rw [show v = .non from h] at r; rw [show u = Value.none from r]; exact .none
  | bool b => rw [show v = .bl b from h] at r; rw [show u = Value.bool b from r]; exact .bool b
  | int i =>
    rw [show v = .int i from h] at r
    obtain ⟨t, rfl⟩ := (show ∃ t, u = Value.int i t from r)
    exact .int i t
  | str x =>
    rw [show v = .str x from h] at r
    obtain ⟨t, rfl⟩ := (show ∃ t, u = Value.str x t from r)
    exact .str x t
  | list _ => cases hf
  | tuple _ => cases hf
  | dict _ => cases hf
theorem ky_reads {h : Heap} : ∀ {k : List Ky} {us : List Value}, Vals (k.map kV) us → ReadsAll h us (k.map kyD) []
  | [], us, r => by cases r; exact .nil
  | k :: ks, us, r => by
    cases r with
    | cons r1 r2 =>
      refine .cons (as := []) (bs := []) ?_ (ky_reads r2)
      cases k with
      | inl i =>
        obtain ⟨t, rfl⟩ := (show ∃ t, _ = Value.int i t from r1)
        exact .int i t
      | inr x =>
        obtain ⟨t, rfl⟩ := (show ∃ t, _ = Value.str x t from r1)
        exact .str x t
theorem stripT_map : ∀ kvs : List (List Ky × O), stripT kvs = kvs.map fun p => (.tuple (p.1.map kyD), strip p.2)
  | [] => by rw [stripT]; rfl
  | (k, o) :: r => by rw [stripT, stripT_map r]; rfl
/-- a dict by tuples, of flat data -/
theorem dt_reads {kvs : List (List Ky × O)} {v : V} {g : List Addr} {u : Value} (I : Inv X pins σ H s) (hf : ∀ p ∈ kvs, flatO p.2 = true) (h : Own H Z X.K (.dt kvs) v g) (r : RelV v u) : ∃ as, Reads s.heap u (strip (.dt kvs)) as ∧ sysModules ∉ as := by
  obtain ⟨a, vs, g', rfl, rfl, h1, nd, h2⟩ := h
  obtain rfl : u = Value.ref a := r
  obtain ⟨hz, hsm, xs, kt, o, es, ep, e1, e2, e3, e4, e5, e6⟩ := dt_of I.hok h1
  have hsys : a ≠ sysModules := by simpa using hsm
  -- keys and values, entry by entry
  have key : ∀ {kvs : List (List Ky × O)} {vs : List (List Ky × V)} {g : List Addr} {xs : List (List L2.Key × Addr × Value)}, (∀ p ∈ kvs, flatO p.2 = true) → OwnsT H Z X.K kvs vs g → KT H vs xs →
      ReadsAll s.heap (xs.map fun x => Value.ref x.2.1) (kvs.map fun p => .tuple (p.1.map kyD)) [] ∧ ReadsAll s.heap (xs.map fun x => x.2.2) (kvs.map fun p => strip p.2) [] := by
    intro kvs
    induction kvs with
    | nil =>
      intro vs g xs _ ho hk
      rw [ho.1] at hk
      cases hk
      exact ⟨.nil, .nil⟩
    | cons p kvs ih =>
      obtain ⟨k, o⟩ := p
      intro vs g xs hf ho hk
      obtain ⟨v, r, f, g1, rfl, rfl, q1, q2, q3⟩ := ho
      cases hk with
      | cons hx hr =>
        obtain ⟨i1, i2⟩ := ih (fun x hx => hf x (List.mem_cons_of_mem _ hx)) q2 hr
        obtain ⟨k1, k2, k3⟩ := hx
        have k1' := k1
        subst k1
        obtain ⟨_, its, rv, ot, t1, t2, n, t3⟩ := I.hok _ _ k2
        have hp := hf _ List.mem_cons_self
        refine ⟨?_, ?_⟩
        · refine .cons (as := []) (bs := []) (.tuple t1 t2 t3 ?_) i1
          exact ky_reads rv
        · cases o with
          | z d =>
            refine .cons (as := []) (bs := []) ?_ i2
            show Reads s.heap _ (strip (.z d)) []
            rw [strip_z]
            exact flat_reads I hp q1.2 k3
          | _ => cases hp
  obtain ⟨r1, r2⟩ := key hf h2 kt
  refine ⟨[a], ?_, by simpa using hsys.symm⟩
  rw [strip, stripT_map]
  refine Reads.dict (as := []) (bs := []) e1 e2.1 e3 ?_ ?_
  · rw [e4, List.map_map, List.map_map]
    exact r1
  · rw [e4, List.map_map, List.map_map]
    exact r2
/-- a part that is shown -/
theorem part_reads {o : O} {v : V} {g : List Addr} {u : Value} (I : Inv X pins σ H s) (hs : shows o = true) (h : Own H Z X.K o v g) (r : RelV v u) : ∃ as, Reads s.heap u (strip o) as ∧ ((strip o).hasDict = true → sysModules ∉ as) := by
  cases o with
  | z d =>
    obtain ⟨as, q⟩ := Dp.reads I d v u (RZ.dp d v h.2) r
    rw [strip_z]
    exact ⟨as, q, fun e => by rw [fine_nodict 59 d hs] at e; cases e⟩
  | dt kvs =>
    obtain ⟨as, q, n⟩ := dt_reads I (fun p hp => List.all_eq_true.mp hs p hp) h r
    exact ⟨as, q, fun _ => n⟩
  | _ => cases hs
theorem parts_reads (I : Inv X pins σ H s) : ∀ {os : List O} {vs : List V} {g : List Addr} {us : List Value}, os.all shows = true → Owns H Z X.K os vs g → Vals vs us → PyData.showableAll (strips os) = true → (∀ t ∈ PyData.shownAll (strips os), t.length ≤ sizeLine) →
    ∃ as bs, ReadsAll s.heap us (strips os) as ∧ ReadAtMost s.heap (PyData.depthAll (strips os)) bs ∧ ReprAllK X.prog X.w bs s.heap (PyData.depthAll (strips os)) us (PyData.shownAll (strips os))
  | [], vs, g, us, _, ho, r, _, _ => by
    rw [ho.1] at r
    cases r
    rw [strips]
    exact ⟨[], [], .nil, (fun _ h => nomatch h), by rw [PyData.shownAll]; exact .nil⟩
  | o :: os, vs, g, us, hs, ho, r, hw, hl => by
    obtain ⟨v, rest, f, g', rfl, rfl, h1, h2, _⟩ := ho
    rw [List.all_cons, Bool.and_eq_true] at hs
    rw [strips] at hw hl ⊢
    rw [PyData.showableAll, Bool.and_eq_true] at hw
    rw [PyData.shownAll] at hl ⊢
    cases r with
    | cons r1 r2 =>
      obtain ⟨as, q1, q2⟩ := part_reads I hs.1 h1 r1
      obtain ⟨bs, b1, b2⟩ := ReprK.of_reads (prog := X.prog) (w := X.w) q1 hw.1 q2 (hl _ List.mem_cons_self)
      obtain ⟨as', bs', c0, c1, c2⟩ := parts_reads I hs.2 h2 r2 hw.2 fun t ht => hl t (List.mem_cons_of_mem _ ht)
      rw [PyData.depthAll]
      refine ⟨_, bs ++ bs', .cons q1 c0, (b1.mono (Nat.le_max_left _ _)).append (c1.mono (Nat.le_max_right _ _)), .cons ((b2.more fun b hb => List.mem_append_left _ hb).level_le (Nat.le_max_left _ _)) (c2.more_le (fun b hb => List.mem_append_right _ hb) (Nat.le_max_right _ _))⟩
theorem ky_depth : ∀ k : List Ky, PyData.depthAll (k.map kyD) = 0
  | [] => by simp [PyData.depthAll]
  | k :: ks => by
    rw [List.map_cons, PyData.depthAll, ky_depth ks]
    cases k <;> simp [kyD, PyData.depth]
theorem kv_depth : ∀ {kvs : List (List Ky × O)}, (∀ p ∈ kvs, flatO p.2 = true) → PyData.depthKv (stripT kvs) ≤ 1
  | [], _ => by rw [stripT, PyData.depthKv]; omega
  | (k, o) :: r, h => by
    have ih := kv_depth fun p hp => h p (List.mem_cons_of_mem _ hp)
    have ho := h _ List.mem_cons_self
    rw [stripT, PyData.depthKv, PyData.depth, ky_depth]
    cases o with
    | z d =>
      rw [strip_z]
      have hd : d.depth = 0 := by
        cases d <;> first | (simp [PyData.depth]; done) | cases ho
      omega
    | _ => cases ho
theorem part_depth {o : O} (h : shows o = true) : (strip o).depth ≤ 59 := by
  cases o with
  | z d => rw [strip_z]; exact (fine_lay 59 d h).2
  | dt kvs =>
    have := kv_depth (kvs := kvs) fun p hp => List.all_eq_true.mp h p hp
    rw [strip, PyData.depth]
    omega
  | _ => cases h
theorem parts_depth : ∀ {os : List O}, os.all shows = true → PyData.depthAll (strips os) ≤ 59
  | [], _ => by rw [strips, PyData.depthAll]; omega
  | o :: os, h => by
    rw [List.all_cons, Bool.and_eq_true] at h
    rw [strips, PyData.depthAll]
    have := part_depth h.1
    have := parts_depth h.2
    omega
/-- repr(x) -/
def rRepr (K : PySem.W.Frag) : List V → Hp → VK → Prop := fun xs H Q => ∃ (Z : Zs) (v : V) (o : O) (g : List Addr) (t : Str), xs = [v] ∧ Own H Z K o v g ∧ kRepr [o] = .ok (.z (.str t)) ∧ Q (.str t) H
theorem cr_repr (hg : X.A.guards = some []) (hu : X.A.units + 65 < cLine) : CallR X (.builtin "repr") (rRepr X.K) := by
  intro pins s σ H xs us Q I r h
  obtain ⟨Z, v, o, g, t, rfl, ho, hk, q⟩ := h
  obtain ⟨u, rfl, ru⟩ := vals1 r
  have fin : ∀ (h' : Heap) (tk : Nat) (u : Tok), (∀ b ob, s.heap.get? b = some ob → h'.get? b = some ob) → L2.EP X pins σ Q (.str t u) { s with heap := h', toks := tk } := fun h' tk u hk => ⟨.str t, H, I.kept hk, ⟨u, rfl⟩, q⟩
  cases o with
  | z d =>
    unfold kRepr at hk
    dsimp only at hk
    by_cases hc : fine 60 d = true ∧ d.showable = true ∧ d.shown.length ≤ lineMax ∧ boxed d = true
    · rw [if_pos hc] at hk
      cases hk
      obtain ⟨as, rd⟩ := Dp.reads I d v u (RZ.dp d v ho.2) ru
      have nd := PyData.noDict_hsm (as := as) (fine_nodict 60 d hc.1)
      have dep := (fine_lay 60 d hc.1).2
      obtain ⟨a, rfl⟩ : ∃ a, u = Value.ref a := by
        have hb := hc.2.2.2
        cases d with
        | list ds =>
          obtain ⟨_, a, vs, rfl, _⟩ := ho
          exact ⟨a, ru⟩
        | tuple ds =>
          obtain ⟨_, a, vs, rfl, _⟩ := ho
          exact ⟨a, ru⟩
        | _ => cases hb
      exact repr_of_reads' rd hc.2.1 nd hg (by omega) (fun _ _ e => e) (fun h' u tk hk => fin h' tk u hk) (by rw [← line_eq]; exact hc.2.2.1)
    · rw [if_neg hc] at hk; cases hk
  | t os =>
    unfold kRepr at hk
    dsimp only at hk
    by_cases hc : os.all shows = true ∧ (strip (.t os)).showable = true ∧ (strip (.t os)).shown.length ≤ lineMax
    · rw [if_pos hc] at hk
      cases hk
      obtain ⟨a, vs, rfl, h1, h2⟩ := ho
      obtain rfl : u = Value.ref a := ru
      obtain ⟨its, rv, pt, hz⟩ := I.tuple h1
      obtain ⟨ot, t1, t2, n, t3⟩ : ∃ ot, s.heap.get? a = some ot ∧ ot.cls = .type "tuple" ∧ ∃ n, ot.data = .seq its.toArray n := by
        obtain ⟨ot, n, x1, x2, x3⟩ := (show s.heap.IsTuple a its.toArray from pt)
        exact ⟨ot, by assumption, by assumption, _, by assumption⟩
      have e0 : strip (.t os) = .tuple (strips os) := by rw [strip]
      have hw : PyData.showableAll (strips os) = true := by have := hc.2.1; rw [e0, PyData.showable] at this; exact this
      have hlen : (tupleText (PyData.shownAll (strips os))).length ≤ sizeLine := by have := hc.2.2; rw [e0, PyData.shown, line_eq] at this; exact this
      obtain ⟨as, bs, q1, q2, q3⟩ := parts_reads I hc.1 h2 rv hw fun t ht => Nat.le_trans (tupleText_mem_le ht) hlen
      have rt : Reads s.heap (.ref a) (.tuple (strips os)) as := .tuple t1 t2 t3 (by rw [List.toList_toArray]; exact q1)
      have hna : a ∉ bs := not_mem_of_deeper rt (by rw [PyData.depth]; omega) q2
      rw [e0, PyData.shown] at fin
      refine call_repr_slot (by omega) ⟨ot, t1, t2⟩ F.slot_tuple_repr (call_tuple_reprK t1 t2 t3 hna (by rw [List.toList_toArray]; exact q3) (A := X.A.in1) hg (fun b _ => Clear.nil b) ?_ (fun _ _ e => e) (fun h' u tk hk => ⟨_, _, rfl, fin h' tk u hk⟩) hlen)
      have := parts_depth hc.1
      show X.A.units + 1 + (PyData.depthAll (strips os) + 1) < cLine
      omega
    · rw [if_neg hc] at hk; cases hk
  | _ => cases hk
theorem kRepr_str {os : List O} {q : O} (h : kRepr os = .ok q) : ∃ o t, os = [o] ∧ q = .z (.str t) := by
  unfold kRepr at h
  split at h
  · split at h
    · cases h; exact ⟨_, _, rfl, rfl⟩
    · cases h
  · split at h
    · cases h; exact ⟨_, _, rfl, rfl⟩
    · cases h
  · cases h
theorem gr_repr {K : PySem.W.Frag} : GRL K (rRepr K) kRepr := fun {H Z vs os fp} hz oA Q => by
  cases e : kRepr os with
  | bad => exact fun p => p.elim
  | err _ _ => exact fun p => p.elim
  | ok q =>
    obtain ⟨o, t, rfl, rfl⟩ := kRepr_str e
    obtain ⟨v, rfl, g, h⟩ := ownA1 oA
    exact fun p => ⟨Z, v, o, g, t, rfl, h, e, PostG.z hz (d := .str t) rfl p⟩
end
end U
end
/-! UQ -/
section
set_option Elab.async false
set_option linter.all false
set_option maxRecDepth 100000
/-! UQ: t[::-1] of a tuple. -/
namespace U
open PySem L2 PySem.Spec PyProof.Rows HT
section
variable {prog : Program} {w : World} {A : Around} {E : Value → Shared → Prop} {s : Shared}
theorem rev_places (n : Nat) : Builtin.Slice.slicePlaces ((n : Int) - 1) (-1) (-1) = n := by
  unfold Builtin.Slice.slicePlaces
  rw [if_neg (by omega)]
  by_cases h : (n : Int) - 1 > -1
  · rw [if_pos h]
    show (((n : Int) - 1 - -1 - 1) / 1 + 1).toNat = n
    rw [Int.ediv_one]
    omega
  · rw [if_neg h]
    omega
theorem rev_applied {sl : Addr} {vs : Value} {n : Nat} {Q : Int × Int × Nat → Shared → Prop} (hs : s.heap.IsSliceOf sl .none .none vs) (pv : IsPart vs (some (-1))) (h : Q ((n : Int) - 1, -1, n) s) :
    wpAny (model prog w) A (Builtin.Slice.sliceApplied (.ref sl) (pure (n : Int))) Q E s := by
  obtain ⟨o, at_o, cls_o, data_o⟩ := id hs
  unfold Builtin.Slice.sliceApplied Builtin.Slice.sliceFields
  refine wpAny_bind (wpAny_bind (wpAny_field at_o data_o (x := .none) rfl (wpAny_bind (wpAny_field at_o data_o (x := .none) rfl (wpAny_bind (wpAny_field at_o data_o (x := vs) rfl (wpAny_pure ?_)))))))
  refine wpAny_bind (slicePart_ pv ?_)
  show wpAny _ _ (if ((-1 : Int) == 0) = true then _ else _) _ _ s
  rw [if_neg (by decide)]
  refine wpAny_bind (slicePart_none (wpAny_bind (slicePart_none (wpAny_bind (wpAny_pure ?_)))))
  have ea : Builtin.Slice.sliceAdjust none none (-1) (n : Int) = ((n : Int) - 1, -1) := by
    unfold Builtin.Slice.sliceAdjust
    simp
  show wpAny _ _ (match Builtin.Slice.sliceAdjust none none (-1) (n : Int) with
    | (lo, hi) => pure (lo, (-1 : Int), Builtin.Slice.slicePlaces lo hi (-1))) _ _ s
  rw [ea]
  refine wpAny_pure ?_
  rw [rev_places]
  exact h
theorem rev_pick (xs : Array Value) : ((List.range xs.size).filterMap fun (k : Nat) => xs[((xs.size : Int) - 1 + (k : Int) * -1).toNat]?).toArray = xs.toList.reverse.toArray := by
  have e : ∀ n : Nat, n ≤ xs.size → ((List.range n).filterMap fun (k : Nat) => xs[((n : Int) - 1 + (k : Int) * -1).toNat]?) = (xs.toList.take n).reverse := by
    intro n
    induction n with
    | zero => intro _; rfl
    | succ n ih =>
      intro hn
      rw [List.range_succ_eq_map, List.filterMap_cons]
      have h0 : (((n + 1 : Nat) : Int) - 1 + ((0 : Nat) : Int) * -1).toNat = n := by omega
      have hx : xs[n]? = some xs[n] := Array.getElem?_eq_getElem hn
      rw [h0, hx]
      dsimp only
      rw [List.filterMap_map]
      have e2 : ((fun (k : Nat) => xs[(((n + 1 : Nat) : Int) - 1 + (k : Int) * -1).toNat]?) ∘ Nat.succ) = fun (k : Nat) => xs[((n : Int) - 1 + (k : Int) * -1).toNat]? := by
        funext k
        show xs[(((n + 1 : Nat) : Int) - 1 + ((k + 1 : Nat) : Int) * -1).toNat]? = _
        congr 1
        omega
      rw [e2, ih (by omega), List.take_succ_eq_append_getElem (by rw [Array.length_toList]; omega), List.reverse_append]
      simp
  rw [e xs.size (Nat.le_refl _)]
  have : xs.toList.take xs.size = xs.toList := by
    rw [List.take_of_length_le (by simp)]
  rw [this]
theorem getItem_tuple_rev {t sl : Addr} {items : Array Value} {vs : Value} {Q : Value → Shared → Prop} (ht : IsTup s.heap t items) (hs : s.heap.IsSliceOf sl .none .none vs) (pv : IsPart vs (some (-1)))
    (h : Q (.ref s.heap.objs.size) { s with heap := s.heap.push { cls := .type "tuple", data := .seq items.toList.reverse.toArray } }) (hsz : items.size ≤ sizeLine) : wpAny (model prog w) A (getItem (.ref t) (.ref sl)) Q E s := by
  have fits : sizeOk (.seq items.toList.reverse.toArray) := by
    show items.toList.reverse.toArray.size ≤ sizeLine
    rw [List.size_toArray, List.length_reverse, Array.length_toList]
    exact hsz
  obtain ⟨o, at_o, cls_o, data_o⟩ := id hs
  unfold getItem
  try with_reducible refine wpAny_holding ?_
  first | refine wpAny_bind (wpAny_pure ?_) | skip
  refine wpAny_bind (wpAny_sequenceKey ht.typeIs (by decide) ?_)
  refine wpAny_bind (wpAny_callSpecial?_slot (name := Str.ofString "__getitem__") ht.typeIs PyProof.Rows.slot_tuple_getitem (wpAny_call_entry PyProof.Rows.slot_tuple_getitem ht.typeIs entry_tuple_getitem ?_ (args_tuple_getitem _ _)))
  show wpAny _ _ (Builtin.Tuple.tupleItemsOf (.ref t) >>= _) _ _ s
  refine wpAny_bind (tupleItemsOf_ ht (wpAny_bind (wpAny_typeOf (show s.TypeIs (.ref sl) "slice" from ⟨o, at_o, cls_o⟩) ?_)))
  rw [if_pos (by decide)]
  refine wpAny_bind (rev_applied hs pv ?_)
  have no : ¬ ((((items.size : Int) - 1) == 0 && (-1 : Int) == 1 && items.size == items.size) = true) := by
    rw [show ((-1 : Int) == 1) = false from rfl, Bool.and_false, Bool.false_and]
    exact Bool.false_ne_true
  show wpAny _ _ (if (((items.size : Int) - 1) == 0 && (-1 : Int) == 1 && items.size == items.size) = true then _ else _) _ _ s
  rw [if_neg no, rev_pick]
  first
    | exact wpAny_bind (m := Builtin.Tuple.tupleExact _) (wpAny_newObj_type (wpAny_pure ⟨_, rfl, wpAny_pure h⟩) fits)
    | exact wpAny_bind (m := Builtin.Tuple.tupleExact _) (wpAny_newObj_type (wpAny_bind (wpAny_pure (wpAny_pure ⟨_, rfl, wpAny_pure h⟩))) fits)
    | exact wpAny_bind (wpAny_bind (m := Builtin.Tuple.tupleExact _) (wpAny_newObj_type (wpAny_pure (wpAny_pure ⟨_, rfl, wpAny_pure h⟩)) fits))
    | exact wpAny_bind (wpAny_bind (m := Builtin.Tuple.tupleExact _) (wpAny_newObj_type (wpAny_pure ⟨_, rfl, wpAny_pure h⟩) fits))
end
section
variable {X : Cx} {W : WX} {e : Expr} {f : EV} {te : TE} {k : Nat} {p1 p2 p3 pos : Pos}
def tRevT (K : PySem.W.Frag) (te : TE) : TE := fun σ H Q => te σ H fun x H1 => ∃ a xs, x = .ref a ∧ SqT K H1 a xs ∧ ∀ p, H1 p = none → Q (.ref p) (upd H1 p (.tup xs.reverse))
theorem pe_revT (he : PE X e te) : PE X (.Subscript e (.Slice none none (some (.UnaryOp .USub (.Constant (.int 1) k p1) p2)) p3) pos) (tRevT X.K te) := by
  constructor
  intro pins s σ H Q I h
  refine Subscript_ (thn (he.run pins s σ H _ I h) ?_)
  rintro v s1 ⟨x, H1, I1, r1, a, xs, rfl, hx, q⟩
  cases r1
  have minus : PO X (some (.UnaryOp .USub (.Constant (.int 1) k p1) p2)) (tPart (tUn (rU fun i => .int (-i)) (tC (.int 1)))) := po_some (pe_un un_neg pe_int)
  refine wpAny_Slice (thn (po_none.run pins s1 σ H1 (fun o H2 => o = none ∧ H2 = H1) I1 ⟨rfl, rfl⟩) ?_)
  rintro vl s2 ⟨l, H2, I2, pl, rfl, rfl⟩
  cases pl
  refine thn (po_none.run pins s2 σ H2 (fun o H3 => o = none ∧ H3 = H2) I2 ⟨rfl, rfl⟩) ?_
  rintro vu s3 ⟨u, H3, I3, pu, rfl, rfl⟩
  cases pu
  refine thn (minus.run pins s3 σ H3 (fun o H4 => o = some (-1) ∧ H4 = H3) I3 ⟨1, rfl, -1, rfl, rfl, rfl⟩) ?_
  rintro vs s4 ⟨o, H4, I4, ps, rfl, rfl⟩
  have J : L2.Inv X pins σ H4 { s4 with heap := s4.heap.push { cls := .type "slice", data := .fields #[.none, .none, vs] } } := I4.kept (t' := s4.toks) fun b ob q => Heap.get?_push_of_some _ q
  obtain ⟨its, r, ht, hz⟩ := J.tuple hx
  refine tail_any (ops := [.ref a, .ref s4.heap.objs.size]) ht.typeIs PyProof.Rows.slot_tuple_getitem.lookup ?_ (by with_unfolding_all rfl)
  refine getItem_tuple_rev ht (Heap.IsSliceOf.new _ .none .none vs) ps ?_ (by rw [List.size_toArray, ← r.length]; exact hz)
  rw [List.toList_toArray]
  exact ⟨.ref _, _, J.laid (t' := s4.toks) (o := .tup xs.reverse) (fun b ob q => Heap.get?_push_of_some _ q) (Nat.le_refl _) ⟨by rw [List.length_reverse]; exact hz, _, r.reverse, IsTup.new _ _⟩, rfl, q _ (J.hok.fresh (Nat.le_refl _))⟩
theorem pu_revT (ha : PuB X W e f) : PuE X W (.Subscript e (.Slice none none (some (.UnaryOp .USub (.Constant (.int 1) k p1) p2)) p3) pos) (eRevT f) := by
  refine pu_1 (r := fun x H1 Q => ∃ a xs, x = .ref a ∧ SqT X.K H1 a xs ∧ ∀ p, H1 p = none → Q (.ref p) (upd H1 p (.tup xs.reverse))) (t := tRevT X.K) (fun _ => pe_revT) (fun _ _ _ _ => rfl) (fun {H Z x o f1} hz o1 Q => ?_) ha
  unfold gRevT
  cases e : tz o with
  | none => exact fun p => p.elim
  | some ds =>
    obtain ⟨a, vs, rfl, h1, h2⟩ := o1.tz e
    refine fun p => ⟨a, vs, rfl, h1, fun q hq => ?_⟩
    have key : ∀ {ds : List PyData} {vs : List V}, RZs H Z X.K ds vs → RZs H Z X.K ds.reverse vs.reverse := by
      intro ds
      induction ds with
      | nil => intro vs h; rw [show vs = [] from h]; exact rfl
      | cons d ds ih =>
        intro vs h
        obtain ⟨v, r, rfl, h1, h2⟩ := h
        rw [List.reverse_cons, List.reverse_cons]
        exact (ih h2).app ⟨v, [], rfl, h1, rfl⟩
    have ex := Ext.new (Z := Z) (o := .tup vs.reverse) hz hq
    exact p (.ref q) _ Z [] ex ⟨rfl, q, vs.reverse, rfl, SqT.of upd_same, RZs.kp ex.kp _ _ (key h2)⟩ New.nil
end
end U
end
/-! UT -/
section
set_option Elab.async false
set_option linter.all false
set_option maxRecDepth 100000
/-! UT: UW's rules in short, their side conditions shown on the way. -/
namespace U
open PySem L2
/-- the built-ins stand as they are -/
structure Blt (mg : Str → Option Value) : Prop where
  len : mg "len" = none
  range : mg "range" = none
  abs : mg "abs" = none
  int : mg "int" = none
  min : mg "min" = none
  max : mg "max" = none
  list : mg "list" = none
  isinstance : mg "isinstance" = none
  bool : mg "bool" = none
  tuple : mg "tuple" = none
section
variable {X : Cx} {W : WX} {own : Prop} {e a b c el it tg : Expr} {es : List Expr} {f fa fb fc : EV} {pos p : Pos} {fs : EA} {ta tb : EB}
/-- a name of the def -/
theorem nm (i : Nat) {x : Str} (hN : X.N[i]? = some x := by rfl) (hv : Vis X.env.scope x := by first | exact Or.inl rfl | exact Or.inr (Or.inl rfl) | exact Or.inr (Or.inr rfl)) (hd : (x == ("__debug__" : Str)) = false := by decide) (hcd : (x == ("__classdict__" : Str)) = false := by decide) : PuB X W (.Name x pos) (eVar i) := pu_var i hN hv hd hcd
/-- a constant of the module -/
theorem G_ {x : Str} {v : V} {u : Value} {d : PyData} (hm : X.mg x = some u) (r : RelV v u) (hd : ∀ H Z, RZ H Z X.K d v) (hg : Gl X x := by rfl) (hdb : (x == ("__debug__" : Str)) = false := by decide) : PuE X W (.Name x pos) (eC d) := pu_c (pe_glob hg hm r hdb) hd
theorem add_ (ha : PuB X W a fa) (hb : PuB X W b fb) : PuE X W (.BinOp a .Add b pos) (e2 gAdd fa fb) := pu_op op_addU gr_add ha hb
theorem sub_ (ha : PuB X W a fa) (hb : PuB X W b fb) : PuE X W (.BinOp a .Sub b pos) (e2 gSub fa fb) := pu_op op_sub gr_sub ha hb
theorem mul_ (ha : PuB X W a fa) (hb : PuB X W b fb) : PuE X W (.BinOp a .Mult b pos) (e2 gMul fa fb) := pu_op op_mulU gr_mul ha hb
theorem mod_ (ha : PuB X W a fa) (hb : PuB X W b fb) : PuE X W (.BinOp a .Mod b pos) (e2 gMod fa fb) := pu_op op_modN gr_mod ha hb
theorem div_ (ha : PuB X W a fa) (hb : PuB X W b fb) : PuE X W (.BinOp a .FloorDiv b pos) (e2 gDiv fa fb) := pu_op op_fdivN gr_div ha hb
theorem pow_ (ha : PuB X W a fa) (hb : PuB X W b fb) : PuE X W (.BinOp a .Pow b pos) (e2 gPow fa fb) := pu_op op_pow gr_pow ha hb
section
variable (hu : X.A.units + 65 < cLine)
include hu
theorem eq_ (ha : PuB X W a fa) (hb : PuB X W b fb) : PuE X W (.Compare a [.Eq] [b] pos) (e2 gEq fa fb) := pu_cmp (op_eqU (by omega)) gr_eq (nomark _) ha hb
theorem ne_ (ha : PuB X W a fa) (hb : PuB X W b fb) : PuE X W (.Compare a [.NotEq] [b] pos) (e2 gNe fa fb) := pu_cmp (op_neU (by omega)) gr_ne (nomark _) ha hb
theorem lt_ (ha : PuB X W a fa) (hb : PuB X W b fb) : PuE X W (.Compare a [.Lt] [b] pos) (e2 gLt fa fb) := pu_cmp (op_ltU (by omega)) gr_ord (nomark _) ha hb
theorem le_ (ha : PuB X W a fa) (hb : PuB X W b fb) : PuE X W (.Compare a [.LtE] [b] pos) (e2 gLe fa fb) := pu_cmp (op_leU (by omega)) gr_ord (nomark _) ha hb
theorem in_ (ha : PuB X W a fa) (hb : PuB X W b fb) (hm : behindInMarks .In b = false := by rfl) : PuE X W (.Compare a [.In] [b] pos) (e2 gIn fa fb) := pu_cmp (op_memU hu) gr_mem hm ha hb
theorem nin_ (ha : PuB X W a fa) (hb : PuB X W b fb) (hm : behindInMarks .NotIn b = false := by rfl) : PuE X W (.Compare a [.NotIn] [b] pos) (e2 gNin fa fb) := pu_cmp (op_nmemU hu) gr_mem hm ha hb
theorem teq_ (ha : PuB X W a fa) (hb : PuB X W b fb) : PuT X W (.Compare a [.Eq] [b] pos) (U.tB (e2 gEq fa fb)) := pt_cmp' (op_eqU (by omega)) gr_eq (nomark _) ha hb
theorem tne_ (ha : PuB X W a fa) (hb : PuB X W b fb) : PuT X W (.Compare a [.NotEq] [b] pos) (U.tB (e2 gNe fa fb)) := pt_cmp' (op_neU (by omega)) gr_ne (nomark _) ha hb
theorem tlt_ (ha : PuB X W a fa) (hb : PuB X W b fb) : PuT X W (.Compare a [.Lt] [b] pos) (U.tB (e2 gLt fa fb)) := pt_cmp' (op_ltU (by omega)) gr_ord (nomark _) ha hb
theorem tle_ (ha : PuB X W a fa) (hb : PuB X W b fb) : PuT X W (.Compare a [.LtE] [b] pos) (U.tB (e2 gLe fa fb)) := pt_cmp' (op_leU (by omega)) gr_ord (nomark _) ha hb
theorem tin_ (ha : PuB X W a fa) (hb : PuB X W b fb) (hm : behindInMarks .In b = false := by rfl) : PuT X W (.Compare a [.In] [b] pos) (U.tB (e2 gIn fa fb)) := pt_cmp' (op_memU hu) gr_mem hm ha hb
theorem tnin_ (ha : PuB X W a fa) (hb : PuB X W b fb) (hm : behindInMarks .NotIn b = false := by rfl) : PuT X W (.Compare a [.NotIn] [b] pos) (U.tB (e2 gNin fa fb)) := pt_cmp' (op_nmemU hu) gr_mem hm ha hb
theorem tch_le_lt (ha : PuB X W a fa) (hb : PuB X W b fb) (hc : PuB X W c fc) (hm : lastMarks [.LtE, .Lt] [b, c] = false := by with_unfolding_all rfl) : PuT X W (.Compare a [.LtE, .Lt] [b, c] pos) (U.tB (eCh gLe gLt fa fb fc)) := pt_ch (op_leU (by omega)) (op_ltU (by omega)) gr_ord gr_ord hm ha hb hc
theorem ch_le_lt (ha : PuB X W a fa) (hb : PuB X W b fb) (hc : PuB X W c fc) (hm : lastMarks [.LtE, .Lt] [b, c] = false := by with_unfolding_all rfl) : PuE X W (.Compare a [.LtE, .Lt] [b, c] pos) (eCh gLe gLt fa fb fc) := pu_ch (op_leU (by omega)) (op_ltU (by omega)) gr_ord gr_ord hm ha hb hc
theorem tch_le_le (ha : PuB X W a fa) (hb : PuB X W b fb) (hc : PuB X W c fc) (hm : lastMarks [.LtE, .LtE] [b, c] = false := by with_unfolding_all rfl) : PuT X W (.Compare a [.LtE, .LtE] [b, c] pos) (U.tB (eCh gLe gLe fa fb fc)) := pt_ch (op_leU (by omega)) (op_leU (by omega)) gr_ord gr_ord hm ha hb hc
theorem ch_le_le (ha : PuB X W a fa) (hb : PuB X W b fb) (hc : PuB X W c fc) (hm : lastMarks [.LtE, .LtE] [b, c] = false := by with_unfolding_all rfl) : PuE X W (.Compare a [.LtE, .LtE] [b, c] pos) (eCh gLe gLe fa fb fc) := pu_ch (op_leU (by omega)) (op_leU (by omega)) gr_ord gr_ord hm ha hb hc
end
theorem gt_ (ha : PuB X W a fa) (hb : PuB X W b fb) : PuE X W (.Compare a [.Gt] [b] pos) (e2 gGt fa fb) := pu_cmp op_gt gr_IB (nomark _) ha hb
theorem ge_ (ha : PuB X W a fa) (hb : PuB X W b fb) : PuE X W (.Compare a [.GtE] [b] pos) (e2 gGe fa fb) := pu_cmp op_ge gr_IB (nomark _) ha hb
theorem is_ (ha : PuB X W a fa) (hb : PuB X W b fb) : PuE X W (.Compare a [.Is] [b] pos) (e2 gIs fa fb) := pu_cmp op_isN gr_is (nomark _) ha hb
theorem isnt_ (ha : PuB X W a fa) (hb : PuB X W b fb) : PuE X W (.Compare a [.IsNot] [b] pos) (e2 gIsnt fa fb) := pu_cmp op_notN gr_isnt (nomark _) ha hb
theorem tgt_ (ha : PuB X W a fa) (hb : PuB X W b fb) : PuT X W (.Compare a [.Gt] [b] pos) (U.tB (e2 gGt fa fb)) := pt_cmp' op_gt gr_IB (nomark _) ha hb
theorem tge_ (ha : PuB X W a fa) (hb : PuB X W b fb) : PuT X W (.Compare a [.GtE] [b] pos) (U.tB (e2 gGe fa fb)) := pt_cmp' op_ge gr_IB (nomark _) ha hb
theorem tis_ (ha : PuB X W a fa) (hb : PuB X W b fb) : PuT X W (.Compare a [.Is] [b] pos) (U.tB (e2 gIs fa fb)) := pt_cmp' op_isN gr_is (nomark _) ha hb
theorem tisnt_ (ha : PuB X W a fa) (hb : PuB X W b fb) : PuT X W (.Compare a [.IsNot] [b] pos) (U.tB (e2 gIsnt fa fb)) := pt_cmp' op_notN gr_isnt (nomark _) ha hb
theorem ix_ (ha : PuB X W a fa) (hb : PuB X W b fb) (hs : PlainIx b := by exact fun _ _ => rfl) : PuE X W (.Subscript a b pos) (e2 gIx fa fb) := pu_ix hs ix_U gr_ix ha hb
/-- any other test -/
theorem tv_ (ha : PX X W own a fa) (he : ∀ whole, isTrue a X.env whole = (do let v ← whole; standAt a.pos; holding [v] (truthy v)) := by intro _; rfl) : PuT X W a (tV fa) := pt_v he ha
theorem ac (ha : PX X W own e f) (hs : PAX X W own es fs) (he : starEach (e :: es) X.env = (false, eval e X.env) :: starEach es X.env := by rfl) : PAX X W own (e :: es) (aCons f fs) := pa_cons' ha hs he
section
variable (B : Blt X.mg)
include B
theorem len_ (ha : PuAB X W [e] fs) (hg : Gl X "len" := by rfl) (he : starEach [e] X.env = (false, eval e X.env) :: starEach [] X.env := by rfl) (hpl : (backTo pos (starEach [] X.env)).any (·.1) = false := by rfl) : PuE X W (.Call (.Name "len" p) [e] [] pos) (eK kLen fs) := pu_kb call_len_seq gr_len hg B.len PySem.boot_len (by decide) (by decide) he hpl ha
theorem abs_ (ha : PuAB X W [e] fs) (hg : Gl X "abs" := by rfl) (he : starEach [e] X.env = (false, eval e X.env) :: starEach [] X.env := by rfl) (hpl : (backTo pos (starEach [] X.env)).any (·.1) = false := by rfl) : PuE X W (.Call (.Name "abs" p) [e] [] pos) (eK kAbs fs) := pu_kb call_abs gr_abs hg B.abs PyProof.Rows.boot_abs (by decide) (by decide) he hpl ha
theorem int_ (ha : PuAB X W [e] fs) (hg : Gl X "int" := by rfl) (he : starEach [e] X.env = (false, eval e X.env) :: starEach [] X.env := by rfl) (hpl : (backTo pos (starEach [] X.env)).any (·.1) = false := by rfl) : PuE X W (.Call (.Name "int" p) [e] [] pos) (eK kInt fs) := pu_kt call_int1 gr_int hg B.int PyProof.Rows.boot_int (by decide) (by decide) he hpl ha
theorem list_ (ha : PuAB X W [e] fs) (hg : Gl X "list" := by rfl) (he : starEach [e] X.env = (false, eval e X.env) :: starEach [] X.env := by rfl) (hpl : (backTo pos (starEach [] X.env)).any (·.1) = false := by rfl) : PuE X W (.Call (.Name "list" p) [e] [] pos) (eK kList fs) := pu_kt call_list_of gr_list hg B.list PyProof.Rows.boot_list (by decide) (by decide) he hpl ha
theorem min2_ (hc : X.calm = true) (ha : PuAB X W [a, b] fs) (hg : Gl X "min" := by rfl) (he : starEach [a, b] X.env = (false, eval a X.env) :: starEach [b] X.env := by rfl) (hpl : (backTo pos (starEach [b] X.env)).any (·.1) = false := by rfl) : PuE X W (.Call (.Name "min" p) [a, b] [] pos) (eK kMin2 fs) := pu_kb (call_min2 hc) gr_min2 hg B.min PyProof.Rows.boot_min (by decide) (by decide) he hpl ha
theorem max2_ (hc : X.calm = true) (ha : PuAB X W [a, b] fs) (hg : Gl X "max" := by rfl) (he : starEach [a, b] X.env = (false, eval a X.env) :: starEach [b] X.env := by rfl) (hpl : (backTo pos (starEach [b] X.env)).any (·.1) = false := by rfl) : PuE X W (.Call (.Name "max" p) [a, b] [] pos) (eK kMax2 fs) := pu_kb (call_max2 hc) gr_max2 hg B.max PyProof.Rows.boot_max (by decide) (by decide) he hpl ha
theorem isi_int {p2 : Pos} (ha : PuB X W a fa) (hgI : Gl X "isinstance" := by rfl) (hgT : Gl X "int" := by rfl) (he : starEach [a, .Name "int" p2] X.env = (false, eval a X.env) :: starEach [.Name "int" p2] X.env := by rfl) (he2 : starEach [.Name "int" p2] X.env = (false, eval (.Name "int" p2) X.env) :: starEach [] X.env := by rfl) (hpl : (backTo pos (starEach [.Name "int" p2] X.env)).any (·.1) = false := by rfl) :
    PuE X W (.Call (.Name "isinstance" p) [a, .Name "int" p2] [] pos) (eIsi .int fa) := pu_isi .int hgI B.isinstance hgT B.int PyProof.Rows.boot_int (by decide) (by decide) he he2 hpl ha
theorem isi_bool {p2 : Pos} (ha : PuB X W a fa) (hgI : Gl X "isinstance" := by rfl) (hgT : Gl X "bool" := by rfl) (he : starEach [a, .Name "bool" p2] X.env = (false, eval a X.env) :: starEach [.Name "bool" p2] X.env := by rfl) (he2 : starEach [.Name "bool" p2] X.env = (false, eval (.Name "bool" p2) X.env) :: starEach [] X.env := by rfl) (hpl : (backTo pos (starEach [.Name "bool" p2] X.env)).any (·.1) = false := by rfl) :
    PuE X W (.Call (.Name "isinstance" p) [a, .Name "bool" p2] [] pos) (eIsi .bool fa) := pu_isi .bool hgI B.isinstance hgT B.bool PyProof.Rows.boot_bool (by decide) (by decide) he he2 hpl ha
theorem isi_list {p2 : Pos} (ha : PuB X W a fa) (hgI : Gl X "isinstance" := by rfl) (hgT : Gl X "list" := by rfl) (he : starEach [a, .Name "list" p2] X.env = (false, eval a X.env) :: starEach [.Name "list" p2] X.env := by rfl) (he2 : starEach [.Name "list" p2] X.env = (false, eval (.Name "list" p2) X.env) :: starEach [] X.env := by rfl) (hpl : (backTo pos (starEach [.Name "list" p2] X.env)).any (·.1) = false := by rfl) :
    PuE X W (.Call (.Name "isinstance" p) [a, .Name "list" p2] [] pos) (eIsi .list fa) := pu_isi .list hgI B.isinstance hgT B.list PyProof.Rows.boot_list (by decide) (by decide) he he2 hpl ha
theorem isi_tuple {p2 : Pos} (ha : PuB X W a fa) (hgI : Gl X "isinstance" := by rfl) (hgT : Gl X "tuple" := by rfl) (he : starEach [a, .Name "tuple" p2] X.env = (false, eval a X.env) :: starEach [.Name "tuple" p2] X.env := by rfl) (he2 : starEach [.Name "tuple" p2] X.env = (false, eval (.Name "tuple" p2) X.env) :: starEach [] X.env := by rfl) (hpl : (backTo pos (starEach [.Name "tuple" p2] X.env)).any (·.1) = false := by rfl) :
    PuE X W (.Call (.Name "isinstance" p) [a, .Name "tuple" p2] [] pos) (eIsi .tuple fa) := pu_isi .tuple hgI B.isinstance hgT B.tuple PyProof.Rows.boot_tuple (by decide) (by decide) he he2 hpl ha
theorem r1_ (ha : PuB X W a fa) (hg : Gl X "range" := by rfl) (hs : starEach [a] X.env = [(false, eval a X.env)] := by rfl) : PIX X W True tg (.Call (.Name "range" p) [a] [] pos) (iR1 fa) := pi_r1 hg B.range hs ha
theorem r2_ (ha : PuB X W a fa) (hb : PuB X W b fb) (hg : Gl X "range" := by rfl) (hs : starEach [a, b] X.env = [(false, eval a X.env), (false, eval b X.env)] := by rfl) (hs2 : starEach [b] X.env = [(false, eval b X.env)] := by rfl) : PIX X W True tg (.Call (.Name "range" p) [a, b] [] pos) (iR2 fa fb) := pi_r2 hg B.range hs hs2 ha hb
end
/-- a def's call -/
theorem call_ {x : Str} {k k' n : Nat} {F : List O → Res O} (c : Cal X.prog X.w X.K X.mg X.base x k n F) (gd : X.A.guards = some []) (hr : Room k' X.A) (tk : Takes X W) (ha : PuAB X W (e :: es) fs) (hk : k ≤ k' := by decide) (hlen : (e :: es).length = n := by rfl) (hg : Gl X x := by rfl) (hdb : (x == ("__debug__" : Str)) = false := by decide)
    (he : starEach (e :: es) X.env = (false, eval e X.env) :: starEach es X.env := by rfl) (hpl : (backTo pos (starEach es X.env)).any (·.1) = false := by rfl) : PuE X W (.Call (.Name x p) (e :: es) [] pos) (eCall F fs) := pu_cal c gd hr hk tk ha hlen hg hdb he hpl
end
/-! ### targets and statements -/
section
variable {X : Cx} {W : WX} {own : Prop} {e a b c tg it el : Expr} {f fa fb fc : EV} {pos : Pos} {ta tb : EB} {st : Stmt} {sts sts' body : List Stmt} {fs gs : ES} {g : EG} {gl : List EG} {fi : EI} {vs : List Nat} {tgs es : List Expr}
theorem tn (i : Nat) {x : Str} (nd : X.N.Nodup) (hi : X.N[i]? = some x := by rfl) (hx : Loc X.env.scope x := by first | exact Or.inl rfl | exact Or.inr rfl) (hf : X.fn x = true ∨ X.env.scope.names.lookup x = some .local := by first | exact Or.inl rfl | exact Or.inr rfl) : PuG X (.Name x pos) (tN i) := pg_n i nd hi hx hf
theorem tl (i : Nat) {x : Str} (nd : X.N.Nodup) (hi : X.N[i]? = some x := by rfl) (hx : Loc X.env.scope x := by first | exact Or.inl rfl | exact Or.inr rfl) (hf : X.fn x = true ∨ X.env.scope.names.lookup x = some .local := by first | exact Or.inl rfl | exact Or.inr rfl) (hv : i ∈ vs := by decide) : PuL X (.Name x pos) (tNr i) vs := pl_n i nd hi hx hf hv
theorem gc (h : PuG X tg g) (hs : PuGs X tgs gl) (ha : (assignEach (tg :: tgs) X.env).map (·.2) = assign tg X.env :: (assignEach tgs X.env).map (·.2) := by rfl) : PuGs X (tg :: tgs) (g :: gl) := pgs_cons' h hs ha
theorem tt {k n : Nat} (hc : X.calm = true) (h : PuGs X es gl) (hn : (assignEach es X.env).length = n := by rfl) (hst : (assignEach es X.env).findIdx? (·.1) = none := by rfl) (hg : gl.length = n := by rfl) : PuG X (.Tuple es k pos) (tT gl) := pg_t hc h hn hst hg
theorem lc' (h : PuL X tg g vs) (hs : PuLs X tgs gl vs) (ha : (assignEach (tg :: tgs) X.env).map (·.2) = assign tg X.env :: (assignEach tgs X.env).map (·.2) := by rfl) : PuLs X (tg :: tgs) (g :: gl) vs := pls_cons h hs ha
theorem ltt {k n : Nat} (hc : X.calm = true) (h : PuLs X es gl vs) (hn : (assignEach es X.env).length = n := by rfl) (hst : (assignEach es X.env).findIdx? (·.1) = none := by rfl) (hg : gl.length = n := by rfl) : PuL X (.Tuple es k pos) (tT gl) vs := pl_t hc h hn hst hg
theorem asg (he : PuE X W e f) (hg : PuG X tg g) (hs : swapsWithSole [tg] e pos.line X.env = pure false := by rfl) (hw : swappedStores [tg] e X.env = pure none := by rfl) (h1 : (assignEach [tg] X.env).map (·.2) = [assign tg X.env] := by rfl) : PuS X W (.Assign [tg] e pos) (sAsg f g) := ps_asg' hs hw h1 he hg
theorem aug_add (i : Nat) {x : Str} {p' : Pos} (nd : X.N.Nodup) (he : PuB X W e f) (hi : X.N[i]? = some x := by rfl) (hx : Loc X.env.scope x := by first | exact Or.inl rfl | exact Or.inr rfl) (hf : X.fn x = true ∨ X.env.scope.names.lookup x = some .local := by first | exact Or.inl rfl | exact Or.inr rfl) :
    PuS X W (.AugAssign (.Name x p') .Add e pos) (sAug i (fun a b => a + b) f) := ps_aug' i nd hi hx hf ip_add he
theorem app (i : Nat) {x : Str} {p1 p2 p3 : Pos} (he : PuE X W e f) (hN : X.N[i]? = some x := by rfl) (hv : Vis X.env.scope x := by first | exact Or.inl rfl | exact Or.inr (Or.inl rfl) | exact Or.inr (Or.inr rfl)) (hd : (x == ("__debug__" : Str)) = false := by decide) (hcd : (x == ("__classdict__" : Str)) = false := by decide)
    (hs : swapsWith (.Call (.Attribute (.Name x p1) "append" p2) [e] [] p3) none pos.line X.env = pure false := by rfl)
    (hbase : attributeBase (.Name x p1) "append" X.env (eval (.Name x p1) X.env) = eval (.Name x p1) X.env := by rfl)
    (hfew : ((backTo p3 (starEach [e] X.env)).all (fun x => !x.1) && (backToKw p3 (keywordEach [] X.env)).all (fun x => x.1.isSome) && decide ([e].length + ([] : List Keyword).length + (if ([] : List Keyword).isEmpty then 0 else 1) < 30)) = true := by rfl)
    (hline : (p2.endLine == p3.line) = true := by rfl) (hst : starEach [e] X.env = (false, eval e X.env) :: starEach [] X.env := by rfl) (hplain : (backTo p3 (starEach [] X.env)).any (·.1) = false := by rfl) :
    PuS X W (.Expr (.Call (.Attribute (.Name x p1) "append" p2) [e] [] p3) pos) (sApp i f) := ps_app i hN hv hd hcd hs hbase hfew hline hst hplain he
theorem mv (i : Nat) {x : Str} {p : Pos} (hN : X.N[i]? = some x := by rfl) (hv : Vis X.env.scope x := by first | exact Or.inl rfl | exact Or.inr (Or.inl rfl) | exact Or.inr (Or.inr rfl)) (hd : (x == ("__debug__" : Str)) = false := by decide) (hcd : (x == ("__classdict__" : Str)) = false := by decide) : PuS X W (.Return (some (.Name x p)) pos) (sRetMv i) := ps_mv i hN hv hd hcd
theorem drop_ (h : PX X W own e f) (hs : swapsWith e none pos.line X.env = pure false := by rfl) : PuS X W (.Expr e pos) (sDrop f) := ps_drop' hs h
theorem for_ (hp : PassesOwn (model X.prog X.w) X.A X.env X.xe) (hc : X.calm = true) (hi : PIX X W True tg it fi) (hg : PuG X tg g) (hb : PuSs X W body fs) (hs : ∀ x, foldedSetIterable it X.env x = pure x := by intro _; rfl) : PuS X W (.For tg it body [] pos) (sFor fi g fs) := ps_for' hp hc hs hi hg hb
end
/-- where a def stands -/
structure Df (K : PySem.W.Frag) (mg : Str → Option Value) (x : Str) (st : Stmt) (ps : List Str) : Prop where
  ex : ∃ (f : Addr) (fd : FuncData), Fun K x x st f fd ∧ mg x = some (.ref f) ∧ Binds K fd ps []
theorem hu65 {A : Around} {k : Nat} (hr : Room k A) : A.units + 65 < cLine := by
  have := hr.un
  omega
/-- a def's worth from its body -/
theorem calU {P : Program} {w : World} {K : PySem.W.Frag} {mg : Str → Option Value} {base : Heap} {x : Str} {st : Stmt} {N ps : List Str} {k : Nat} {fs : ES} (D : Df K mg x st ps) (Sc : FnScope N ps (defScope st))
    (hb : ∀ (f : Addr) (cdv : Value) (A : Around) (outer : List PySem.Env) (s : Shared) (H : Hp) (E : XK), A.guards = some [] → Room k (A.deeper (PyProof.Rows.envOfC x (defScope st) s.heap.objs.size f cdv)) →
      PuSs (cxOf (L2.CX P w) P w K mg base N x (defScope st) f cdv A outer s H E) (fun cls d _ H => E cls d H) (defBody st) fs) :
    Cal P w K mg base x (k + 1) ps.length (run N.length fs) := by
  obtain ⟨f, fd, F, hm, b⟩ := D.ex
  exact ⟨f, fd, ps, fnU F Sc (hb f), hm, F.kp, b, rfl⟩
/-! ### the law itself -/
def spL (K : PySem.W.Frag) : Sp := fun vs H Q _ => ∃ (a : Addr) (ns : List Int), vs = [.ref a] ∧ Only H ∧ SqL K H a (ns.map V.int) ∧ ns.length ≤ 63 ∧ ∀ H', Q (.bl true) H'
theorem spL_of {K : PySem.W.Frag} {mg : Str → Option Value} {F : List O → Res O} (M : ∀ ns : List Int, ns.length ≤ 63 → F [.s ns] = .ok (.z (.bool true))) : ∀ vs H Q E, spL K vs H Q E → spU K mg 1 F vs H Q E := by
  intro vs H Q E ⟨a, ns, e, on, h, hl, q⟩
  subst e
  refine ⟨fun _ => False, [.s ns], [], fun _ z => z.elim, rfl, ⟨.ref a, [], [], [], rfl, rfl, ⟨rfl, a, rfl, ?_⟩, rfl, rfl⟩, ?_⟩
  · rcases h with (h | ⟨o, h⟩) | h
    · rcases on a with z | ⟨o, xs, z⟩
      · rw [h] at z; cases z
      · rw [h] at z; cases z
    · exact .inl ⟨o, h⟩
    · exact .inr (.inr h)
  · rw [M ns hl]
    intro v H' Z' g _ ho _
    rw [show v = .bl true from ho.2]
    exact q H'
theorem cx_no {P : Program} {w : World} {H : Hp} {s : Shared} {e : Value} {s' : Shared} (h : L2.CX P w [] H s (fun _ _ _ => False) e s') : False := by
  obtain ⟨_, _, _, _, _, _, _, _, _, _, _, _, z⟩ := h
  exact z
end U
end
/-! UV -/
section
set_option Elab.async false
set_option linter.all false
set_option maxRecDepth 100000
/-! UV: the later rules in short. -/
namespace U
open PySem L2
/-- more built-ins that stand as they are -/
structure Blt2 (mg : Str → Option Value) : Prop where
  sorted : mg "sorted" = none
  all : mg "all" = none
  any : mg "any" = none
  repr : mg "repr" = none
  dict : mg "dict" = none
section
variable {X : Cx} {W : WX} {own : Prop} {e a b c el it tg : Expr} {es : List Expr} {f fa fb fc : EV} {pos p : Pos} {fs : EA} {ta tb : EB} {fp : EP} {apos cpos pos' : Pos}
section
variable (B : Blt X.mg)
include B
theorem lenD_ (ha : PuAB X W [e] fs) (hg : Gl X "len" := by rfl) (he : starEach [e] X.env = (false, eval e X.env) :: starEach [] X.env := by rfl) (hpl : (backTo pos (starEach [] X.env)).any (·.1) = false := by rfl) : PuE X W (.Call (.Name "len" p) [e] [] pos) (eK kLenD fs) := pu_kb call_lenD gr_lenD hg B.len PySem.boot_len (by decide) (by decide) he hpl ha
theorem listD_ (hc : X.calm = true) (ha : PuAB X W [e] fs) (hg : Gl X "list" := by rfl) (he : starEach [e] X.env = (false, eval e X.env) :: starEach [] X.env := by rfl) (hpl : (backTo pos (starEach [] X.env)).any (·.1) = false := by rfl) : PuE X W (.Call (.Name "list" p) [e] [] pos) (eK kListD fs) := pu_kt (call_listD hc) gr_listD hg B.list PyProof.Rows.boot_list (by decide) (by decide) he hpl ha
end
section
variable (B : Blt2 X.mg)
include B
theorem sorted_ (hu : X.A.units + 65 < cLine) (ha : PuAB X W [e] fs) (hg : Gl X "sorted" := by rfl) (he : starEach [e] X.env = (false, eval e X.env) :: starEach [] X.env := by rfl) (hpl : (backTo pos (starEach [] X.env)).any (·.1) = false := by rfl) : PuE X W (.Call (.Name "sorted" p) [e] [] pos) (eK kSorted fs) := pu_kb (cr_sortD hu) gr_sort hg B.sorted PyProof.Rows.boot_sorted (by decide) (by decide) he hpl ha
theorem all_ (hc : X.calm = true) (ha : PuAB X W [e] fs) (hg : Gl X "all" := by rfl) (he : starEach [e] X.env = (false, eval e X.env) :: starEach [] X.env := by rfl) (hpl : (backTo pos (starEach [] X.env)).any (·.1) = false := by rfl) : PuE X W (.Call (.Name "all" p) [e] [] pos) (eK kAll fs) := pu_kb (cr_all hc) gr_all hg B.all PyProof.Rows.boot_all (by decide) (by decide) he hpl ha
theorem any_ (hc : X.calm = true) (ha : PuAB X W [e] fs) (hg : Gl X "any" := by rfl) (he : starEach [e] X.env = (false, eval e X.env) :: starEach [] X.env := by rfl) (hpl : (backTo pos (starEach [] X.env)).any (·.1) = false := by rfl) : PuE X W (.Call (.Name "any" p) [e] [] pos) (eK kAny fs) := pu_kb (cr_any hc) gr_any hg B.any PyProof.Rows.boot_any (by decide) (by decide) he hpl ha
theorem repr_ (gd : X.A.guards = some []) (hu : X.A.units + 65 < cLine) (ha : PuAB X W [e] fs) (hg : Gl X "repr" := by rfl) (he : starEach [e] X.env = (false, eval e X.env) :: starEach [] X.env := by rfl) (hpl : (backTo pos (starEach [] X.env)).any (·.1) = false := by rfl) : PuE X W (.Call (.Name "repr" p) [e] [] pos) (eK kRepr fs) := pu_kb (cr_repr gd hu) gr_repr hg B.repr PyProof.Rows.boot_repr (by decide) (by decide) he hpl ha
theorem dict_ (hc : X.calm = true) (ha : PuAB X W [e] fs) (hg : Gl X "dict" := by rfl) (he : starEach [e] X.env = (false, eval e X.env) :: starEach [] X.env := by rfl) (hpl : (backTo pos (starEach [] X.env)).any (·.1) = false := by rfl) : PuE X W (.Call (.Name "dict" p) [e] [] pos) (eK kDict fs) := pu_kt (call_dictP hc) gr_dict hg B.dict PyProof.Rows.boot_dict (by decide) (by decide) he hpl ha
end
section
variable (hu : X.A.units + 65 < cLine)
include hu
theorem get1K_ (ha : PuB X W a fa) (hb : PuB X W b fb) (m : M1 X a "get" apos b cpos := by exact ⟨rfl, rfl, rfl, rfl⟩) : PuE X W (.Call (.Attribute a "get" apos) [b] [] cpos) (eGet1K fa fb) := pu_get1K (by omega) ha hb m
theorem get2K_ (ha : PuB X W a fa) (hb : PuB X W b fb) (hc : PuB X W c fc) (m : M2 X a "get" apos b c cpos := by exact ⟨rfl, rfl, rfl, rfl⟩) : PuE X W (.Call (.Attribute a "get" apos) [b, c] [] cpos) (eGet2K fa fb fc) := pu_get2K (by omega) ha hb hc m
theorem get2T_ {kk : Nat} {pt : Pos} (ha : PuB X W a fa) (hb : PuAB X W es fs) (hc : PuB X W c fc) (m : M2 X a "get" apos (.Tuple es kk pt) c cpos := by exact ⟨rfl, rfl, rfl, rfl⟩) : PuE X W (.Call (.Attribute a "get" apos) [.Tuple es kk pt, c] [] cpos) (eGet2T fa fs fc) := pu_get2T (by omega) ha hb hc m
theorem dg_ (ha : PuB X W a fa) (hb : PuB X W b fb) (hs : NoSl b := by exact fun _ _ => rfl) : PuE X W (.Subscript a b pos) (eDg fa fb) := pu_dg (by omega) hs ha hb
theorem pk_ {i : Nat} (ha : PuP X W a i fp) (hb : PuB X W b fb) (hs : NoSl b := by exact fun _ _ => rfl) : PuP X W (.Subscript a b pos) i (pK fp fb) := pp_k (by omega) hs ha hb
theorem putD_ {i : Nat} (he : PuE X W e f) (ha : PuP X W a i fp) (hb : PuB X W b fb) (hw : swappedStores [.Subscript a b pos'] e X.env = pure none := by rfl) (hs : swapsWithSole [.Subscript a b pos'] e pos.line X.env = pure false := by rfl)
    (h1 : (assignEach [.Subscript a b pos'] X.env).map (·.2) = [assign (.Subscript a b pos') X.env] := by rfl)
    (hass : ∀ v, assign (.Subscript a b pos') X.env v = (do
      let ov ← holding [v] (eval a X.env)
      let iv ← holding [v, ov] (eval b X.env)
      standAt pos'
      holding [v, ov, iv] (setItem ov iv v)
      release [v, ov, iv] []) := by intro _; rfl) : PuS X W (.Assign [.Subscript a b pos'] e pos) (sPutD i fp fb f) := ps_putD (by omega) hw hs h1 hass he ha hb
theorem putT_ {i kk : Nat} {pt : Pos} (he : PuE X W e f) (ha : PuP X W a i fp) (hb : PuAB X W es fs) (hw : swappedStores [.Subscript a (.Tuple es kk pt) pos'] e X.env = pure none := by rfl) (hs : swapsWithSole [.Subscript a (.Tuple es kk pt) pos'] e pos.line X.env = pure false := by rfl)
    (h1 : (assignEach [.Subscript a (.Tuple es kk pt) pos'] X.env).map (·.2) = [assign (.Subscript a (.Tuple es kk pt) pos') X.env] := by rfl)
    (hass : ∀ v, assign (.Subscript a (.Tuple es kk pt) pos') X.env v = (do
      let ov ← holding [v] (eval a X.env)
      let iv ← holding [v, ov] (eval (.Tuple es kk pt) X.env)
      standAt pos'
      holding [v, ov, iv] (setItem ov iv v)
      release [v, ov, iv] []) := by intro _; rfl) : PuS X W (.Assign [.Subscript a (.Tuple es kk pt) pos'] e pos) (sPutT i fp fs f) := ps_putT (by omega) hw hs h1 hass he ha hb
end
theorem pn_ (i : Nat) {x : Str} (hN : X.N[i]? = some x := by rfl) (hv : Vis X.env.scope x := by first | exact Or.inl rfl | exact Or.inr (Or.inl rfl) | exact Or.inr (Or.inr rfl)) (hd : (x == ("__debug__" : Str)) = false := by decide) (hcd : (x == ("__classdict__" : Str)) = false := by decide) : PuP X W (.Name x pos) i pN := pp_n i hN hv hd hcd
theorem pi_ {i : Nat} (ha : PuP X W a i fp) (hb : PuB X W b fb) (hs : PlainIx b := by exact fun _ _ => rfl) : PuP X W (.Subscript a b pos) i (pIx fp fb) := pp_ix hs ha hb
theorem putL_ {i : Nat} (he : PuE X W e f) (ha : PuP X W a i fp) (hb : PuB X W b fb) (hw : swappedStores [.Subscript a b pos'] e X.env = pure none := by rfl) (hs : swapsWithSole [.Subscript a b pos'] e pos.line X.env = pure false := by rfl)
    (h1 : (assignEach [.Subscript a b pos'] X.env).map (·.2) = [assign (.Subscript a b pos') X.env] := by rfl)
    (hass : ∀ v, assign (.Subscript a b pos') X.env v = (do
      let ov ← holding [v] (eval a X.env)
      let iv ← holding [v, ov] (eval b X.env)
      standAt pos'
      holding [v, ov, iv] (setItem ov iv v)
      release [v, ov, iv] []) := by intro _; rfl) : PuS X W (.Assign [.Subscript a b pos'] e pos) (sPutL i fp fb f) := ps_putL hw hs h1 hass he ha hb
theorem addP_ {i : Nat} {p2 p3 : Pos} (ha : PuP X W a i fp) (he : PuE X W e f)
    (hs : swapsWith (.Call (.Attribute a "append" p2) [e] [] p3) none pos.line X.env = pure false := by rfl)
    (hbase : attributeBase a "append" X.env (eval a X.env) = eval a X.env := by rfl)
    (hfew : ((backTo p3 (starEach [e] X.env)).all (fun x => !x.1) && (backToKw p3 (keywordEach [] X.env)).all (fun x => x.1.isSome) && decide ([e].length + ([] : List Keyword).length + (if ([] : List Keyword).isEmpty then 0 else 1) < 30)) = true := by rfl)
    (hline : (p2.endLine == p3.line) = true := by rfl) (hst : starEach [e] X.env = (false, eval e X.env) :: starEach [] X.env := by rfl) (hplain : (backTo p3 (starEach [] X.env)).any (·.1) = false := by rfl) :
    PuS X W (.Expr (.Call (.Attribute a "append" p2) [e] [] p3) pos) (sAddP i fp f) := ps_addP hs hbase hfew hline hst hplain ha he
end
end U
end
/-! UE -/
section
set_option Elab.async false
set_option linter.all false
set_option maxRecDepth 100000
set_option maxHeartbeats 2000000
/-! UE: errors, while: the rules under UF's words. -/
namespace U
open PySem L2
section
variable {X : Cx} {W : WX} {own : Prop} {e a b c : Expr} {f fa fb fc : EV} {pos : Pos} {H0 H H' : Hp} {Z0 : Ent} {Z Z' : Zs} {σ : St} {ρ : Env} {ta tb : EB} {st : Stmt} {sts sts' body : List Stmt} {fs gs : ES} {D : Ends}
theorem ps_bad : PuS X W st sBad := ⟨fun _ _ _ => False, ⟨fun _ _ _ _ _ _ h => h.elim⟩, fun _ _ h => h⟩
theorem ps_while' {n : Nat} (hp : PassesOwn (model X.prog X.w) X.A X.env X.xe) (hc : PuT X W c ta) (hb : PuSs X W body fs) : PuS X W (.While c body [] pos) (sWh n ta fs) := by
  obtain ⟨t, p, q⟩ := hc.ex
  obtain ⟨u, p', q'⟩ := hb.ex
  refine ⟨_, ps_while hp p p', ?_⟩
  intro H0 Z0 H Z σ ρ S D h
  refine ⟨fun m σ' H' => ∃ Z' ρ', Kp H Z H' Z' ∧ SR X.K H0 Z0 H' Z' σ' ρ' ∧ PostS X W H0 Z0 H' Z' D (whGo ta fs m ρ'), ⟨n, Z, ρ, Kp.refl, S, h⟩, ?_⟩
  rintro m σ' H' ⟨Z', ρ', k, S', h'⟩
  cases m with
  | zero => exact h'.elim
  | succ m =>
    refine q S' _ ?_
    have h' : PostS X W H0 Z0 H' Z' D ((ta ρ').out ρ' fun b => if b = true then (fs ρ').turn (whGo ta fs m) else .nx ρ') := h'
    revert h'
    unfold PostT Res.out
    cases ta ρ' with
    | bad => exact id
    | err cn d => exact fun h => PostS.errE S' h
    | ok b =>
      cases b with
      | false =>
        intro h H1 Z1 ex
        have h : PostS X W H0 Z0 H' Z' D (.nx ρ') := h
        show D.nx σ' H1
        exact h σ' H1 Z1 ex.kp (S'.grow ex)
      | true =>
        intro h H1 Z1 ex
        rw [if_pos rfl]
        refine ⟨fun σ2 H2 => ∃ Z2 ρ2, Kp H Z H2 Z2 ∧ SR X.K H0 Z0 H2 Z2 σ2 ρ2 ∧ PostS X W H0 Z0 H2 Z2 D (whGo ta fs m ρ2), fun σ2 H2 hh => ⟨m, Nat.lt_succ_self m, hh⟩, q' (S'.grow ex) _ ?_⟩
        have h : PostS X W H0 Z0 H' Z' D ((fs ρ').turn (whGo ta fs m)) := h
        revert h
        cases fs ρ' with
        | nx ρ2 => exact fun h σ2 H2 Z2 k2 S2 => ⟨Z2, ρ2, (k.trans ex.kp).trans k2, S2, PostS.grow h (ex.kp.trans k2)⟩
        | ct ρ2 => exact fun h σ2 H2 Z2 k2 S2 => ⟨Z2, ρ2, (k.trans ex.kp).trans k2, S2, PostS.grow h (ex.kp.trans k2)⟩
        | bk ρ2 => exact fun h σ2 H2 Z2 k2 S2 => h σ2 H2 Z2 (ex.kp.trans k2) S2
        | rt o => exact fun h => h
        | err cn d ρ2 => exact fun h => PostS.grow (r := .err cn d ρ2) h ex.kp
        | bad => exact fun h => h
end
/-! ### the class of errors, and its __init__ -/
section
variable {P : Program} {w : World} {K : PySem.W.Frag} {mg : Str → Option Value} {base : Heap}
/-- what __init__(self, at) leaves -/
def spI (K : PySem.W.Frag) : Sp := fun vs H Q _ => ∃ (a C : Addr) (y : V), vs = [.ref a, y] ∧ OexC K C ∧ PySem.W.findIn K (.ref C) "at" = some none ∧ H a = some (exo a C none) ∧
  ∀ dx, H dx = none → dx ≠ a → Q .non (upd (upd H dx (exd dx [("at", y)])) a (exo a C (some dx)))
end
/-- what is known of an error's class -/
structure KC (K : PySem.W.Frag) (mg : Str → Option Value) (c : Str) (C fI : Addr) : Prop where
  mg : mg c = some (.ref C)
  ox : OexC K C
  xf : XfC K C
  hno : PySem.W.findIn K (.ref C) "at" = some none
  iC : PySem.W.findIn K (.ref C) "__init__" = some (some (.ref fI))
  tI : PySem.W.typeIn K (.ref fI) = some (.type "function")
/-- the __init__ -/
structure KI (P : Program) (w : World) (K : PySem.W.Frag) (mg : Str → Option Value) (base : Heap) (fI : Addr) : Prop where
  ex : ∃ fd, FnOk P w K mg base (L2.CX P w) 1 fI fd ["self", "at"] (spI K) ∧ Binds K fd ["self", "at"] []
section
variable {X : Cx} {W : WX} {e : Expr} {f : EV} {pos p pos' : Pos} {fs : ES} {D : Ends}
theorem upd_exc {H : Hp} {a dx : Addr} {u1 u2 u3 : HO} {v : HO} (ha : H a = none) (hne : dx ≠ a) : upd (del (upd (upd (upd H a u1) dx u2) a u3) a) dx v = upd H dx v := by
  funext b
  by_cases e : b = dx
  · subst e; rw [upd_same, upd_same]
  · rw [upd_ne e, upd_ne e]
    by_cases e2 : b = a
    · subst e2; rw [del_same, ha]
    · rw [del_ne e2, upd_ne e2, upd_ne e, upd_ne e2]
theorem ps_raise' {x : Str} {C fI : Addr} {k : Nat} (kc : KC X.K X.mg x C fI) (ki : KI X.prog X.w X.K X.mg X.base fI) (hc : X.calm = true) (tk : Takes X W) (hr : Room k X.A) (hk : 2 ≤ k) (hx : Passes (L2.CX X.prog X.w) X (fun _ _ _ => False)) (hg : Gl X x) (hdb : (x == ("__debug__" : Str)) = false)
    (he : starEach [e] X.env = (false, eval e X.env) :: starEach [] X.env) (hpl : (backTo pos (starEach [] X.env)).any (·.1) = false) (h : PuE X W e f) : PuS X W (.Raise (some (.Call (.Name x p) [e] [] pos)) none pos') (sRaise x f) := by
  obtain ⟨t, pe, q⟩ := h.ex
  obtain ⟨fd, F1, hb⟩ := ki.ex
  refine ⟨_, ps_raise hc tk (pmk_oex kc.ox kc.iC kc.tI F1 (hr.mono hk) hb .nil hx hg kc.mg (pa_cons pe pa_nil he) hdb he hpl), ?_⟩
  intro H0 Z0 H Z σ ρ S D h
  unfold sRaise at h
  show t σ H fun v H1 => _
  refine q S _ ?_
  revert h
  cases f ρ with
  | bad => exact fun h => h.elim
  | err cn d => exact fun h => h.elim
  | ok o =>
    cases o with
    | z d =>
      intro h v H1 Z1 g ex ow _
      have h : PostS X W H0 Z0 H Z D (.err x d ρ) := h
      refine ⟨by show 1 ≤ 1000; decide, fun a ha => ⟨a, C, v, rfl, kc.ox, kc.hno, upd_same, fun dx hdx hne => ⟨rfl, dx, [("at", v)], upd_same, ?_, ?_, ?_⟩⟩⟩
      · rw [upd_ne hne, upd_same]
      · rw [upd_ne hne] at hdx; exact hdx
      · have hd1 : H1 dx = none := by rw [upd_ne hne] at hdx; exact hdx
        rw [upd_exc ha hne]
        have ex2 := Ext.new (Z := Z1) (o := .xd [("at", v)]) ex.zd hd1
        exact h C dx v σ _ Z1 kc.mg (ex.trans ex2).kp (S.grow (ex.trans ex2)) upd_same (RZ.ext ex2 ow.2)
    | l _ => exact fun h => h.elim
    | t _ => exact fun h => h.elim
    | dk _ => exact fun h => h.elim
    | dt _ => exact fun h => h.elim
    | s _ => exact fun h => h.elim
    | x _ _ => exact fun h => h.elim
end
/-! ### try -/
/-- the suite's state: the exception is in slot i, its dict bears the data -/
structure XSt (K : PySem.W.Frag) (i : Nat) (a dx : Addr) (v : V) (dd : PyData) (σ : St) (H : Hp) (Z : Zs) : Prop where
  sl : σ[i]? = some (some (.ref a))
  zd : ∀ b, Z b → H b ≠ none
  xd : H dx = some (.xd [("at", v)])
  rz : RZ H Z K dd v
theorem XSt.grow {K : PySem.W.Frag} {i : Nat} {a dx : Addr} {v : V} {dd : PyData} {σ : St} {H H' : Hp} {Z Z' : Zs} (x : XSt K i a dx v dd σ H Z) (e : Ext H Z H' Z') : XSt K i a dx v dd σ H' Z' :=
  ⟨x.sl, e.zd, e.keep _ _ x.xd, RZ.ext e x.rz⟩
/-- an expression of the suite -/
structure PXh (X : Cx) (ks : List Str) (i : Nat) (e : Expr) (h : Str → PyData → O) : Prop where
  ex : ∀ (a : Addr) (oe : Obj) (C dx : Addr) (pn : List (Addr × Obj)) (c : Str), c ∈ ks → X.mg c = some (.ref C) → Zc (.ref C) (some dx) oe → (∃ vs, oe.data = .fields vs) → ∃ t : TE, PE (X.suite a ((a, oe) :: pn)) e t ∧
    ∀ (v : V) (dd : PyData) (σ : St) (H : Hp) (Z : Zs), XSt X.K i a dx v dd σ H Z → ∀ Q : VK, (∀ w H' Z' g, Ext H Z H' Z' → Own H' Z' X.K (h c dd) w g → New H Z' g → Q w H') → t σ H Q
structure PAh (X : Cx) (ks : List Str) (i : Nat) (es : List Expr) (hs : Str → PyData → List O) : Prop where
  ex : ∀ (a : Addr) (oe : Obj) (C dx : Addr) (pn : List (Addr × Obj)) (c : Str), c ∈ ks → X.mg c = some (.ref C) → Zc (.ref C) (some dx) oe → (∃ vs, oe.data = .fields vs) → ∃ t : TA, PA (X.suite a ((a, oe) :: pn)) es t ∧
    ∀ (v : V) (dd : PyData) (σ : St) (H : Hp) (Z : Zs), XSt X.K i a dx v dd σ H Z → ∀ Q : List V → Hp → Prop, (∀ ws H' Z' g, Ext H Z H' Z' → OwnA H' Z' X.K (hs c dd) ws g → New H Z' g → Q ws H') → t σ H Q
/-- the classes that are known -/
def KS (K : PySem.W.Frag) (mg : Str → Option Value) (ks : List Str) : Prop := ∀ c ∈ ks, ∃ C fI, KC K mg c C fI ∧ ExcC K C
section
variable {X : Cx} {W : WX} {ks : List Str} {i : Nat} {e : Expr} {es : List Expr} {h : Str → PyData → O} {hs : Str → PyData → List O} {pos p : Pos}
theorem xh_c {d : PyData} (he : ∀ Y : Cx, ∃ v, PE Y e (tC v) ∧ ∀ H Z, RZ H Z Y.K d v) : PXh X ks i e (fun _ _ => .z d) := ⟨fun a oe C dx pn c _ _ _ _ => by
  obtain ⟨v, p, r⟩ := he (X.suite a ((a, oe) :: pn))
  exact ⟨_, p, fun _ _ σ H Z x Q q => q v H Z [] (Ext.refl x.zd) ⟨rfl, r H Z⟩ New.nil⟩⟩
theorem xh_str {x : Str} {j : Nat} : PXh X ks i (.Constant (.str x) j pos) (fun _ _ => .z (.str x)) := xh_c fun Y => ⟨_, pe_str, fun _ _ => rfl⟩
theorem xh_int {n : Int} {j : Nat} : PXh X ks i (.Constant (.int n) j pos) (fun _ _ => .z (.int n)) := xh_c fun Y => ⟨_, pe_int, fun _ _ => rfl⟩
theorem xh_non {j : Nat} : PXh X ks i (.Constant .none j pos) (fun _ _ => .z .none) := xh_c fun Y => ⟨_, pe_non, fun _ _ => rfl⟩
theorem xh_bl {b : Bool} {j : Nat} : PXh X ks i (.Constant (.bool b) j pos) (fun _ _ => .z (.bool b)) := xh_c fun Y => ⟨_, pe_bl, fun _ _ => rfl⟩
theorem ah_nil : PAh X ks i [] (fun _ _ => []) := ⟨fun a oe C dx pn c _ _ _ _ => ⟨_, pa_nil, fun _ _ σ H Z x Q q => q [] H Z [] (Ext.refl x.zd) ⟨rfl, rfl⟩ New.nil⟩⟩
theorem ah_cons (h1 : PXh X ks i e h) (h2 : PAh X ks i es hs) (he : ∀ Y : Cx, starEach (e :: es) Y.env = (false, eval e Y.env) :: starEach es Y.env) : PAh X ks i (e :: es) (fun c d => h c d :: hs c d) := ⟨fun a oe C dx pn c m1 m2 m3 m4 => by
  obtain ⟨t, p, q⟩ := h1.ex a oe C dx pn c m1 m2 m3 m4
  obtain ⟨u, p', q'⟩ := h2.ex a oe C dx pn c m1 m2 m3 m4
  refine ⟨_, pa_cons p p' (he _), fun v dd σ H Z x Q k => ?_⟩
  unfold tCons
  refine q v dd σ H Z x _ fun w H1 Z1 g1 e1 o1 n1 => q' v dd σ H1 Z1 (x.grow e1) _ fun ws H2 Z2 g2 e2 o2 n2 => ?_
  exact k (w :: ws) H2 Z2 (g1 ++ g2) (e1.trans e2) ⟨w, ws, g1, g2, rfl, rfl, o1.ext e2, o2⟩ (New.app (n1.later (K := X.K) (fun b hb => o1.ne hb) e2) (fun b hb => o1.ne hb) n2 fun b => e1.back)⟩
theorem OwnA.len' {H : Hp} {Z : Zs} {K : PySem.W.Frag} {os : List O} {vs : List V} {g : List Addr} (h : OwnA H Z K os vs g) : vs.length = os.length := h.len
theorem xh_tup {k : Nat} (ha : PAh X ks i es hs) (hl : ∀ c d, (hs c d).length ≤ lineMax ∧ (hs c d).all nS = true) : PXh X ks i (.Tuple es k pos) (fun c d => mkT (hs c d)) := ⟨fun a oe C dx pn c m1 m2 m3 m4 => by
  obtain ⟨t, p, q⟩ := ha.ex a oe C dx pn c m1 m2 m3 m4
  refine ⟨_, pe_tup p, fun v dd σ H Z x Q k => ?_⟩
  unfold tTup
  refine q v dd σ H Z x _ fun vs H1 Z1 g1 e1 o1 n1 => ⟨by rw [o1.len, ← line_eq]; exact (hl c dd).1, fun r hr => ?_⟩
  have e2 := Ext.new (Z := Z1) (o := .tup vs) e1.zd hr
  exact k (.ref r) _ Z1 g1 (e1.trans e2) (mkT_own (SqT.of upd_same) (Owns.ext e2 (OwnA.owns (hl c dd).2 o1))) n1⟩
theorem xh_lst (ha : PAh X ks i es hs) (hl : ∀ c d, (hs c d).length ≤ lineMax ∧ (hs c d).all nS = true) : PXh X ks i (.List es pos) (fun c d => .l (hs c d)) := ⟨fun a oe C dx pn c m1 m2 m3 m4 => by
  obtain ⟨t, p, q⟩ := ha.ex a oe C dx pn c m1 m2 m3 m4
  refine ⟨_, pe_lst p, fun v dd σ H Z x Q k => ?_⟩
  unfold tLst
  refine q v dd σ H Z x _ fun vs H1 Z1 g1 e1 o1 n1 => ⟨by rw [o1.len, ← line_eq]; exact (hl c dd).1, fun r hr => ?_⟩
  have e2 := Ext.new (Z := Z1) (o := .lst vs) e1.zd hr
  refine k (.ref r) _ Z1 (r :: g1) (e1.trans e2) ⟨r, vs, g1, rfl, rfl, upd_same, Owns.ext e2 (OwnA.owns (hl c dd).2 o1)⟩ ?_
  refine ⟨List.nodup_cons.mpr ⟨fun z => OwnA.ne o1 r z hr, n1.1⟩, fun b hb => ?_⟩
  rcases List.mem_cons.mp hb with z | hb
  · subst z
    exact ⟨fun z => e1.zd _ z hr, e1.back hr⟩
  · exact n1.2 b hb⟩
theorem xh_at {n : Str} (ok : KS X.K X.mg ks) (hN : X.N[i]? = some n) (hv : Vis X.env.scope n) (hd : (n == ("__debug__" : Str)) = false) (hcd : (n == ("__classdict__" : Str)) = false)
    (hb : ∀ Y : Cx, attributeBase (.Name n p) "at" Y.env (eval (.Name n p) Y.env) = eval (.Name n p) Y.env) : PXh X ks i (.Attribute (.Name n p) "at" pos) (fun _ d => .z d) := ⟨fun a oe C dx pn c m1 m2 m3 m4 => by
  obtain ⟨C', fI, kc, ec⟩ := ok c m1
  have e1 : C' = C := by have := kc.mg.symm.trans m2; cases this; rfl
  subst e1
  refine ⟨_, pe_xf kc.xf kc.hno m3 m4 (pe_var (X := X.suite a ((a, oe) :: pn)) (i := i) hN hv hd hcd) (hb _), fun v dd σ H Z x Q k => ?_⟩
  exact ⟨.ref a, x.sl, rfl, rfl, dx, [("at", v)], v, rfl, x.xd, rfl, k v H Z [] (Ext.refl x.zd) ⟨rfl, x.rz⟩ New.nil⟩⟩
/-- isinstance(e, D), e the exception -/
theorem call_isE' {a C dx : Addr} {oe : Obj} {pn : List (Addr × Obj)} (ec : ExcC X.K C) (hz : Zc (.ref C) (some dx) oe) (hf : ∃ vs, oe.data = .fields vs) : CallR (X.suite a ((a, oe) :: pn)) (.builtin "isinstance")
    (fun xs H Q => ∃ (c : V) (cv : Value) (b : Bool), xs = [.ref a, c] ∧ (∀ u, RelV c u → u = cv) ∧ PySem.W.kitOne X.K (.ref C) cv = some b ∧ (∃ fs, H dx = some (.xd fs)) ∧ Q (.bl b) H) := by
  intro pins s σ H xs us Q I r h
  obtain ⟨c, cv, b, rfl, hcv, e, ⟨fs, ed⟩, q⟩ := h
  cases r with
  | cons rx rr =>
    cases rr with
    | cons rt rr =>
      cases rr
      cases rx
      have ec' := hcv _ rt
      subst ec'
      obtain ⟨hget, _⟩ := I.pin (a, oe) (List.mem_append.mpr (.inl List.mem_cons_self))
      obtain ⟨vs, hd⟩ := hf
      have hx : ObjOk X.prog X.w H s.heap dx (.xd fs) := I.hok dx _ ed
      obtain ⟨mA, hns, hr⟩ := hx
      obtain ⟨od, ho, hl⟩ := lookIn_ns hns
      have J : PySem.W.InstAt s.heap a oe C (some od) := ⟨hget, hz.1, by unfold PySem.W.notCls; rw [hd] <;> rfl, by rw [hz.2]; exact ho⟩
      have hcl : (PySem.W.clsIn X.K C).isSome = true := by
        obtain ⟨cd, hc, _⟩ := PySem.W.any_some ec.hd
        rw [hc]; rfl
      exact PySem.W.kia_one (PySem.W.kitx_exc hcl ec.hg ec.hk ec.hs ec.ha ec.hn ec.ht ec.hm) I.kIn J e (fun z => nomatch z) fun tk => ⟨.bl b, H, I.kept (t' := tk) fun _ _ z => z, rfl, q⟩
theorem xh_isi {n x : Str} {E : Addr} {p1 p2 p3 : Pos} {sub : Str → Bool} (ok : KS X.K X.mg ks) (hk : ∀ c ∈ ks, ∀ C, X.mg c = some (.ref C) → PySem.W.kitOne X.K (.ref C) (.ref E) = some (sub c)) (hN : X.N[i]? = some n) (hv : Vis X.env.scope n) (hd : (n == ("__debug__" : Str)) = false) (hcd : (n == ("__classdict__" : Str)) = false)
    (hgI : Gl X "isinstance") (hmI : X.mg "isinstance" = none) (hgT : Gl X x) (hmT : X.mg x = some (.ref E)) (hdx : (x == ("__debug__" : Str)) = false)
    (he : ∀ Y : Cx, starEach [.Name n p1, .Name x p2] Y.env = (false, eval (.Name n p1) Y.env) :: starEach [.Name x p2] Y.env) (he2 : ∀ Y : Cx, starEach [.Name x p2] Y.env = (false, eval (.Name x p2) Y.env) :: starEach [] Y.env) (hpl : ∀ Y : Cx, (backTo pos (starEach [.Name x p2] Y.env)).any (·.1) = false) :
    PXh X ks i (.Call (.Name "isinstance" p3) [.Name n p1, .Name x p2] [] pos) (fun c _ => .z (.bool (sub c))) := ⟨fun a oe C dx pn c m1 m2 m3 m4 => by
  obtain ⟨C', fI, kc, ec⟩ := ok c m1
  have e1 : C' = C := by have := kc.mg.symm.trans m2; cases this; rfl
  subst e1
  refine ⟨_, pe_callB (call_isE' ec m3 m4) hgI hmI PyProof.Rows.boot_isinstance (pa_cons (pe_var (X := X.suite a ((a, oe) :: pn)) (i := i) hN hv hd hcd) (pa_cons (pe_glob (v := .ref E) hgT hmT rfl hdx) pa_nil (he2 _)) (he _)) (by decide) (by decide) (he _) (hpl _), fun v dd σ H Z xs Q k => ?_⟩
  exact ⟨.ref a, xs.sl, .ref E, .ref E, sub c, rfl, fun u r => r, hk c m1 _ m2, ⟨_, xs.xd⟩, k (.bl (sub c)) H Z [] (Ext.refl xs.zd) ⟨rfl, rfl⟩ New.nil⟩⟩
end
/-- a block, as it is said -/
def cSs (X : Cx) (W : WX) (fs : ES) : TS := fun D σ H => ∃ H0 Z0 Z ρ, SR X.K H0 Z0 H Z σ ρ ∧ PostS X W H0 Z0 H Z D (fs ρ)
theorem cSs_ok {X Y : Cx} {W : WX} {sts : List Stmt} {fs : ES} (hK : Y.K = X.K) (hm : Y.mg = X.mg) (h : PuSs Y W sts fs) : PSs Y sts (cSs X W fs) := by
  obtain ⟨t, p, q⟩ := h.ex
  refine ⟨fun pins s σ H D I ⟨H0, Z0, Z, ρ, S, hp⟩ => p.run pins s σ H D I (q (by rw [hK]; exact S) D ?_)⟩
  revert hp
  unfold PostS
  rw [hK, hm]
  exact id
/-- the suite, as it is said -/
def tsH (X : Cx) (ks : List Str) (i : Nat) (h : Str → PyData → O) : Addr → Value → Option Addr → TS := fun a cls d D σ H => ∃ (c : Str) (C dx : Addr) (v : V) (dd : PyData) (Z : Zs), c ∈ ks ∧ X.mg c = some (.ref C) ∧ cls = .ref C ∧ d = some dx ∧ XSt X.K i a dx v dd σ H Z ∧
  ∀ w H' Z' g, Ext H Z H' Z' → Own H' Z' X.K (h c dd) w g → New H Z' g → D.rt w H'
section
variable {X : Cx} {W : WX} {ks : List Str} {i : Nat} {e : Expr} {h : Str → PyData → O} {pos pos' np rp : Pos} {x n : Str} {E : Addr} {sub : Str → Bool} {body : List Stmt} {fs : ES}
theorem ps_try' (ok : KS X.K X.mg ks) (hk : ∀ c ∈ ks, ∀ C, X.mg c = some (.ref C) → PySem.W.exmOne X.K (.ref C) (.ref E) = some (sub c)) (hs : X.stack = X.env :: X.outer) (hf : X.env.frame = some X.env.locals) (hN : X.N.Nodup) (hi : X.N[i]? = some n) (hln : X.env.kindOf n = some .local) (hc : Names X x (.ref E)) (tk : Takes X W)
    (hb : ∀ (W : WX) (pn : List (Addr × Obj)) (xe : Value → Shared → Prop), Takes (X.tr pn xe) W → PassesOwn (model X.prog X.w) X.A X.env xe → PuSs (X.tr pn xe) W body fs) (hx : PXh X ks i e h) :
    PuS X W (.Try body [.ExceptHandler (some (.Name x np)) (some n) [.Return (some e) rp] pos'] [] [] pos) (sTry i ks sub h fs) := by
  refine ⟨_, ps_try_as (tb := fun W => cSs X W fs) (ts := tsH X ks i h) hs hf hN hi hln hc tk (fun W pn xe tk' po => cSs_ok rfl rfl (hb W pn xe tk' po)) (fun a oe cls d pn hz hfl => ?_), ?_⟩
  · refine ⟨fun pins s σ H D I hh => ?_⟩
    obtain ⟨c, C, dx, v, dd, Z, m1, m2, rfl, rfl, xs, k⟩ := hh
    obtain ⟨t, p, q⟩ := hx.ex a oe C dx pn c m1 m2 hz hfl
    exact (pss_one (ps_ret p)).run pins s σ H D I (q v dd σ H Z xs _ k)
  intro H0 Z0 H Z σ ρ S D hp
  refine ⟨H0, Z0, Z, ρ, S, ?_⟩
  unfold sTry at hp
  revert hp
  cases fs ρ with
  | nx ρ' => exact id
  | bk ρ' => exact id
  | ct ρ' => exact id
  | rt o => exact id
  | bad => exact id
  | err c d ρ' =>
    dsimp only
    by_cases hc : c ∈ ks ∧ i < ρ'.length
    · rw [if_pos hc]
      intro hp C dx v σ' H' Z' m kp S' hd r
      refine ⟨sub c, hk c hc.1 C m, fun hb a ha => ?_, fun hb => ?_⟩
      · rw [if_pos hb] at hp
        obtain ⟨fp, sl, _, _⟩ := S'.own
        have hlen : i < σ'.length := by rw [Sls.len sl]; exact hc.2
        refine ⟨c, C, dx, v, d, Z', hc.1, m, rfl, rfl, ⟨by simp [hlen], S'.ext.zd, hd, r⟩, fun w H2 Z2 g ex ow nw => ?_⟩
        exact hp w H2 Z2 g (S'.ext.trans ex) ow ⟨nw.1, fun b hb => ⟨(nw.2 b hb).1, S'.ext.back (nw.2 b hb).2⟩⟩
      · rw [if_neg (by rw [hb]; exact Bool.noConfusion)] at hp
        exact hp C dx v σ' H' Z' m kp S' hd r
    · rw [if_neg hc]
      exact fun h => h.elim
end
/-! ### in short -/
/-- an error's class, all that is known of it -/
def KR (P : Program) (w : World) (K : PySem.W.Frag) (mg : Str → Option Value) (base : Heap) (c : Str) : Prop := ∃ C fI, KC K mg c C fI ∧ ExcC K C ∧ KI P w K mg base fI
def KE' (K : PySem.W.Frag) (mg : Str → Option Value) (ks : List Str) (D : Str) : Prop := ∃ E, mg D = some (.ref E) ∧ ∀ c ∈ ks, ∀ C, mg c = some (.ref C) → PySem.W.exmOne K (.ref C) (.ref E) = some (below D c)
def KQ (K : PySem.W.Frag) (mg : Str → Option Value) (ks : List Str) (D : Str) : Prop := ∃ E, mg D = some (.ref E) ∧ ∀ c ∈ ks, ∀ C, mg c = some (.ref C) → PySem.W.kitOne K (.ref C) (.ref E) = some (below D c)
theorem passes_no {X : Cx} {W : WX} (tk : Takes X W) : Passes (L2.CX X.prog X.w) X (fun _ _ _ => False) := fun _ σ _ _ e s' I c =>
  (tk.imp (W' := fun _ _ _ _ => False) fun _ _ _ _ h => h.elim) e s' (XE.of_call I (fun _ _ _ h => h) c)
section
variable {X : Cx} {W : WX} {ks : List Str} {i : Nat} {e c : Expr} {f : EV} {es : List Expr} {h : Str → PyData → O} {hs : Str → PyData → List O} {pos pos' p np rp : Pos} {x n : Str} {fs : ES} {body : List Stmt} {ta : EB}
theorem raise_ {x : Str} {k : Nat} (kr : KR X.prog X.w X.K X.mg X.base x) (tk : Takes X W) (hr : Room k X.A) (he : PuE X W e f) (hk : 2 ≤ k := by decide) (hc : X.calm = true := by rfl) (hg : Gl X x := by rfl) (hdb : (x == ("__debug__" : Str)) = false := by decide)
    (hst : starEach [e] X.env = (false, eval e X.env) :: starEach [] X.env := by rfl) (hpl : (backTo pos (starEach [] X.env)).any (·.1) = false := by rfl) : PuS X W (.Raise (some (.Call (.Name x p) [e] [] pos)) none pos') (sRaise x f) := by
  obtain ⟨C, fI, kc, _, ki⟩ := kr
  exact ps_raise' kc ki hc tk hr hk (passes_no tk) hg hdb hst hpl he
theorem while_ {n : Nat} (hp : PassesOwn (model X.prog X.w) X.A X.env X.xe) (hc : PuT X W c ta) (hb : PuSs X W body fs) : PuS X W (.While c body [] pos) (sWh n ta fs) := ps_while' hp hc hb
theorem try_ (nd : X.N.Nodup) (ok : KS X.K X.mg ks) (hk : KE' X.K X.mg ks x) (tk : Takes X W) (hb : ∀ (W : WX) (pn : List (Addr × Obj)) (xe : Value → Shared → Prop), Takes (X.tr pn xe) W → PassesOwn (model X.prog X.w) X.A X.env xe → PuSs (X.tr pn xe) W body fs) (hx : PXh X ks i e h)
    (hs : X.stack = X.env :: X.outer := by rfl) (hf : X.env.frame = some X.env.locals := by rfl) (hi : X.N[i]? = some n := by rfl) (hln : X.env.kindOf n = some .local := by rfl) (hg : Gl X x := by rfl) (hdb : (x == ("__debug__" : Str)) = false := by decide) :
    PuS X W (.Try body [.ExceptHandler (some (.Name x np)) (some n) [.Return (some e) rp] pos'] [] [] pos) (sTry i ks (below x) h fs) := by
  obtain ⟨E, hm, hk⟩ := hk
  exact ps_try' ok hk hs hf nd hi hln ⟨hg, hdb, .inl hm⟩ tk hb hx
theorem ahc (h1 : PXh X ks i e h) (h2 : PAh X ks i es hs) (he : ∀ Y : Cx, starEach (e :: es) Y.env = (false, eval e Y.env) :: starEach es Y.env := by intro _; rfl) : PAh X ks i (e :: es) (fun c d => h c d :: hs c d) := ah_cons h1 h2 he
theorem xtup {k : Nat} (ha : PAh X ks i es hs) (hl : ∀ c d, (hs c d).length ≤ lineMax ∧ (hs c d).all nS = true := by intro _ _; exact ⟨Nat.le_of_ble_eq_true rfl, rfl⟩) : PXh X ks i (.Tuple es k pos) (fun c d => mkT (hs c d)) := xh_tup ha hl
theorem xlst (ha : PAh X ks i es hs) (hl : ∀ c d, (hs c d).length ≤ lineMax ∧ (hs c d).all nS = true := by intro _ _; exact ⟨Nat.le_of_ble_eq_true rfl, rfl⟩) : PXh X ks i (.List es pos) (fun c d => .l (hs c d)) := xh_lst ha hl
theorem xat {n : Str} (ok : KS X.K X.mg ks) (hN : X.N[i]? = some n := by rfl) (hv : Vis X.env.scope n := by first | exact Or.inl rfl | exact Or.inr (Or.inl rfl) | exact Or.inr (Or.inr rfl)) (hd : (n == ("__debug__" : Str)) = false := by decide) (hcd : (n == ("__classdict__" : Str)) = false := by decide)
    (hb : ∀ Y : Cx, attributeBase (.Name n p) "at" Y.env (eval (.Name n p) Y.env) = eval (.Name n p) Y.env := by intro _; rfl) : PXh X ks i (.Attribute (.Name n p) "at" pos) (fun _ d => .z d) := xh_at ok hN hv hd hcd hb
theorem xisi {n x : Str} {p1 p2 p3 : Pos} (ok : KS X.K X.mg ks) (hk : KQ X.K X.mg ks x) (hmI : X.mg "isinstance" = none) (hN : X.N[i]? = some n := by rfl) (hv : Vis X.env.scope n := by first | exact Or.inl rfl | exact Or.inr (Or.inl rfl) | exact Or.inr (Or.inr rfl)) (hd : (n == ("__debug__" : Str)) = false := by decide) (hcd : (n == ("__classdict__" : Str)) = false := by decide)
    (hgI : Gl X "isinstance" := by rfl) (hgT : Gl X x := by rfl) (hdx : (x == ("__debug__" : Str)) = false := by decide)
    (he : ∀ Y : Cx, starEach [.Name n p1, .Name x p2] Y.env = (false, eval (.Name n p1) Y.env) :: starEach [.Name x p2] Y.env := by intro _; rfl) (he2 : ∀ Y : Cx, starEach [.Name x p2] Y.env = (false, eval (.Name x p2) Y.env) :: starEach [] Y.env := by intro _; rfl) (hpl : ∀ Y : Cx, (backTo pos (starEach [.Name x p2] Y.env)).any (·.1) = false := by intro _; rfl) :
    PXh X ks i (.Call (.Name "isinstance" p3) [.Name n p1, .Name x p2] [] pos) (fun c _ => .z (.bool (below x c))) := by
  obtain ⟨E, hm, hk⟩ := hk
  exact xh_isi ok hk hN hv hd hcd hgI hmI hgT hm hdx he he2 hpl
end
end U
end
/-! UH -/
section
set_option Elab.async false
set_option linter.all false
set_option maxRecDepth 100000
set_option maxHeartbeats 2000000
/-! UH: more changes of lists and dicts, min, max. -/
namespace U
open PySem L2
section
variable {H : Hp} {Z : Zs} {K : PySem.W.Frag}
theorem Owns.rev : ∀ {os : List O} {vs : List V} {g : List Addr}, Owns H Z K os vs g → ∃ g', Owns H Z K os.reverse vs.reverse g' ∧ (g.Nodup → g'.Nodup) ∧ ∀ b, b ∈ g' ↔ b ∈ g
  | [], vs, g, h => by
    obtain ⟨rfl, rfl⟩ := h
    exact ⟨[], ⟨rfl, rfl⟩, id, fun b => Iff.rfl⟩
  | o :: os, vs, g, h => by
    obtain ⟨v, r, f, g1, rfl, rfl, h1, h2, h3⟩ := h
    obtain ⟨g', q1, q2, q3⟩ := Owns.rev h2
    refine ⟨g' ++ f, ?_, fun n => ?_, fun b => ?_⟩
    · rw [List.reverse_cons, List.reverse_cons]
      have : Owns H Z K [o] [v] f := ⟨v, [], f, [], rfl, by simp, h1, ⟨rfl, rfl⟩, h3⟩
      exact Owns.app q1 this
    · rw [List.nodup_append] at n ⊢
      exact ⟨q2 n.2.1, n.1, fun a ha b hb e => n.2.2 b hb a ((q3 a).1 ha) e.symm⟩
    · rw [List.mem_append, List.mem_append, q3 b]; exact Or.comm
theorem Owns.init : ∀ {os : List O} {vs : List V} {g : List Addr}, Owns H Z K os vs g → ∃ g', Owns H Z K os.dropLast vs.dropLast g' ∧ (g.Nodup → g'.Nodup) ∧ ∀ b ∈ g', b ∈ g
  | [], vs, g, h => by
    obtain ⟨rfl, rfl⟩ := h
    exact ⟨[], ⟨rfl, rfl⟩, id, fun b hb => hb⟩
  | [o], vs, g, h => by
    obtain ⟨v, r, f, g1, rfl, rfl, h1, ⟨rfl, rfl⟩, h3⟩ := h
    exact ⟨[], ⟨rfl, rfl⟩, fun _ => List.nodup_nil, fun b hb => by cases hb⟩
  | o :: o2 :: os, vs, g, h => by
    obtain ⟨v, r, f, g1, rfl, rfl, h1, h2, h3⟩ := h
    obtain ⟨g', q1, q2, q3⟩ := Owns.init h2
    obtain ⟨v2, r2, _, _, rfl, _, _, _, _⟩ := h2
    refine ⟨f ++ g', ⟨v, _, f, g', rfl, rfl, h1, q1, h3⟩, fun n => ?_, fun b hb => ?_⟩
    · rw [List.nodup_append] at n ⊢
      exact ⟨n.1, q2 n.2.1, fun a ha b hb => n.2.2 a ha b (q3 b hb)⟩
    · rcases List.mem_append.1 hb with hb | hb
      · exact List.mem_append_left _ hb
      · exact List.mem_append_right _ (q3 b hb)
end
section
variable {X : Cx} {W : WX} {a e : Expr} {f : EV} {i : Nat} {fp : EP} {pos p2 p3 : Pos} {m : Str}
/-- a list's method without an argument -/
theorem ps_lm0 {r : V → List V → Hp → VK → Prop} {k : O → Option O} (hpe : ∀ {to : TE}, PE X a to → PE X (.Call (.Attribute a m p2) [] [] p3) (tBM0 X.K "list" r to)) (hs : swapsWith (.Call (.Attribute a m p2) [] [] p3) none pos.line X.env = pure false)
    (hl : ∀ d d', k d = some d' → ∃ os os', d = .l os ∧ d' = .l os')
    (hk : ∀ os os', k (.l os) = some (.l os') → ∀ {H : Hp} {Z : Zs} {vs g}, Owns H Z X.K os vs g → ∃ vs' g', Owns H Z X.K os' vs' g' ∧ (g.Nodup → g'.Nodup) ∧ (∀ b ∈ g', b ∈ g) ∧ ∀ (ax : Addr) (Q : VK), H ax = some (.lst vs) → (∀ v, Q v (upd H ax (.lst vs'))) → r (.ref ax) [] H Q)
    (ha : PuP X W a i fp) : PuS X W (.Expr (.Call (.Attribute a m p2) [] [] p3) pos) (sLm i fp k) := by
  obtain ⟨ta, pa, qa⟩ := ha.ex
  refine ⟨_, ps_expr (hpe pa) hs, ?_⟩
  intro H0 Z0 H Z σ ρ S D h
  show ta σ H fun x H1 => tyV X.K "list" x H1 ∧ r x [] H1 fun _ H3 => D.nx σ H3
  unfold sLm at h
  obtain ⟨q, eq, h⟩ := nox_ok' (r := fp ρ) (P := PostS X W H0 Z0 H Z D) id h
  obtain ⟨c, d, d', ec, hd, ek, h⟩ := chg_nx h
  obtain ⟨os, os', rfl, rfl⟩ := hl d d' ek
  refine qa S _ ?_
  unfold PostP
  rw [eq]
  refine ⟨⟨c, ec, by rw [hd]; rfl⟩, fun x H1 Z1 e1 hx => ?_⟩
  obtain ⟨w, ax, vs, g0, hw', sv, ha', hos, nd, mu⟩ := S.cellL ec hd
  have := (sv.ext e1.keep).fn (hx w hw')
  subst this
  have hax := e1.keep _ _ ha'
  obtain ⟨vs', g', o1, n1, m1, hr⟩ := hk os os' ek (hos.ext e1)
  obtain ⟨S', k'⟩ := mu H1 Z1 e1 os' vs' g' o1 (n1 nd) fun b hb => .inl (m1 b hb)
  exact ⟨.inl ⟨rfl, vs, SqL.of hax⟩, hr ax _ hax fun _ => h σ _ Z1 k' S'⟩
/-- a list's method with an argument -/
theorem ps_le {r : V → List V → Hp → VK → Prop} {k : O → O → Option O} (hpe : ∀ {to te : TE}, PE X a to → PE X e te → PE X (.Call (.Attribute a m p2) [e] [] p3) (fun σ H Q => to σ H fun x H1 => tyV X.K "list" x H1 ∧ te σ H1 fun y H2 => r x [y] H2 Q)) (hs : swapsWith (.Call (.Attribute a m p2) [e] [] p3) none pos.line X.env = pure false)
    (hl : ∀ o d d', k o d = some d' → ∃ os os', d = .l os ∧ d' = .l os')
    (hk : ∀ o os os', k o (.l os) = some (.l os') → ∀ {H : Hp} {Z : Zs} {vs g y gy}, Owns H Z X.K os vs g → Own H Z X.K o y gy → ∃ vs' g', Owns H Z X.K os' vs' g' ∧ (g.Nodup → g'.Nodup) ∧ (∀ b ∈ g', b ∈ g) ∧ ∀ (ax : Addr) (Q : VK), H ax = some (.lst vs) → (∀ v, Q v (upd H ax (.lst vs'))) → r (.ref ax) [y] H Q)
    (ha : PuP X W a i fp) (he : PuB X W e f) : PuS X W (.Expr (.Call (.Attribute a m p2) [e] [] p3) pos) (sLe i fp k f) := by
  obtain ⟨te, pe, qe⟩ := he.ex
  obtain ⟨ta, pa, qa⟩ := ha.ex
  refine ⟨_, ps_expr (hpe pa pe) hs, ?_⟩
  intro H0 Z0 H Z σ ρ S D h
  show ta σ H fun x H1 => tyV X.K "list" x H1 ∧ te σ H1 fun y H2 => r x [y] H2 fun _ H3 => D.nx σ H3
  unfold sLe at h
  obtain ⟨q, eq, h⟩ := nox_ok' (r := fp ρ) (P := PostS X W H0 Z0 H Z D) id h
  by_cases hok : okP ρ i q = true
  · rw [if_pos hok] at h
    unfold okP at hok
    cases ec : ownAt ρ i with
    | none => rw [ec] at hok; cases hok
    | some c =>
      rw [ec] at hok
      obtain ⟨os, hd⟩ : ∃ os, getP c q = some (.l os) := by
        have hok : (match getP c q with
          | some (.l _) => true
          | _ => false) = true := hok
        split at hok
        · rename_i os e
          exact ⟨os, e⟩
        · cases hok
      refine qa S _ ?_
      unfold PostP
      rw [eq]
      refine ⟨⟨c, ec, by rw [hd]; rfl⟩, fun x H1 Z1 e1 hx => ?_⟩
      have main : tyV X.K "list" x H1 := by
        obtain ⟨w, a, vs, g0, hw', sv, ha', _⟩ := S.cellL ec hd
        have := (sv.ext e1.keep).fn (hx w hw')
        subst this
        exact .inl ⟨rfl, vs, SqL.of (e1.keep _ _ ha')⟩
      refine ⟨main, qe (S.grow e1) _ ?_⟩
      revert h
      unfold PostE Res.out
      cases f ρ with
      | bad => exact id
      | err cn d => exact fun h => ErrP.grow (PostS.errE S h) e1
      | ok o =>
        dsimp only
        intro h v H2 Z2 g2 e2 o2 _
        obtain ⟨c', d, d', ec', eg', ek, h⟩ := chg_nx h
        rw [ec] at ec'
        cases ec'
        rw [hd] at eg'
        cases eg'
        obtain ⟨_, os', e3, rfl⟩ := hl o _ d' ek
        cases e3
        obtain ⟨w, ax, vs, g0, hw', sv, ha', hos, nd, mu⟩ := S.cellL ec hd
        have e12 := e1.trans e2
        have hax := e12.keep _ _ ha'
        obtain ⟨vs', g', o1, n1, m1, hr⟩ := hk o os os' ek (hos.ext e12) o2
        obtain ⟨S', k'⟩ := mu H2 Z2 e12 os' vs' g' o1 (n1 nd) fun b hb => .inl (m1 b hb)
        have := (sv.ext e1.keep).fn (hx w hw')
        subst this
        exact hr ax _ hax fun _ => h σ _ Z2 k' S'
  · rw [if_neg hok] at h
    exact h.elim
theorem reverse_ (ha : PuP X W a i fp) (hs : swapsWith (.Call (.Attribute a "reverse" p2) [] [] p3) none pos.line X.env = pure false := by rfl) (hbase : attributeBase a "reverse" X.env (eval a X.env) = eval a X.env := by rfl) (hline : (p2.endLine == p3.line) = true := by rfl) :
    PuS X W (.Expr (.Call (.Attribute a "reverse" p2) [] [] p3) pos) (sLm i fp revL) :=
  ps_lm0 (fun pa => pe_bm0 PySem.F.plainAttrs_list PySem.F.slot_list_reverse PySem.F.type_list_reverse mt_reverse pa hbase hline) hs (fun d d' h => by cases d <;> cases h; exact ⟨_, _, rfl, rfl⟩) (fun os os' h => by
    cases h
    intro H Z vs g ho
    obtain ⟨g', q1, q2, q3⟩ := ho.rev
    exact ⟨vs.reverse, g', q1, q2, fun b hb => (q3 b).1 hb, fun ax Q hax q => ⟨ax, vs, rfl, rfl, hax, q _⟩⟩) ha
theorem clear_ (ha : PuP X W a i fp) (hs : swapsWith (.Call (.Attribute a "clear" p2) [] [] p3) none pos.line X.env = pure false := by rfl) (hbase : attributeBase a "clear" X.env (eval a X.env) = eval a X.env := by rfl) (hline : (p2.endLine == p3.line) = true := by rfl) :
    PuS X W (.Expr (.Call (.Attribute a "clear" p2) [] [] p3) pos) (sLm i fp clrL) :=
  ps_lm0 (fun pa => pe_bm0 PySem.F.plainAttrs_list PySem.F.slot_list_clear PySem.F.type_list_clear mt_clear pa hbase hline) hs (fun d d' h => by cases d <;> cases h; exact ⟨_, _, rfl, rfl⟩) (fun os os' h => by
    cases h
    intro H Z vs g ho
    exact ⟨[], [], ⟨rfl, rfl⟩, fun _ => List.nodup_nil, (fun b hb => by cases hb), fun ax Q hax q => ⟨ax, vs, rfl, rfl, hax, q _⟩⟩) ha
theorem pop_ (ha : PuP X W a i fp) (hs : swapsWith (.Call (.Attribute a "pop" p2) [] [] p3) none pos.line X.env = pure false := by rfl) (hbase : attributeBase a "pop" X.env (eval a X.env) = eval a X.env := by rfl) (hline : (p2.endLine == p3.line) = true := by rfl) :
    PuS X W (.Expr (.Call (.Attribute a "pop" p2) [] [] p3) pos) (sLm i fp popL) :=
  ps_lm0 (fun pa => pe_bm0 PySem.F.plainAttrs_list PySem.F.slot_list_pop PySem.F.type_list_pop mt_pop pa hbase hline) hs (fun d d' h => by
    cases d with
    | l os =>
      have h : (if 0 < os.length then some (O.l os.dropLast) else none) = some d' := h
      split at h
      · cases h; exact ⟨_, _, rfl, rfl⟩
      · cases h
    | _ => cases h) (fun os os' h => by
    have h : (if 0 < os.length then some (O.l os.dropLast) else none) = some (.l os') := h
    split at h
    · next hp =>
      cases h
      intro H Z vs g ho
      obtain ⟨g', q1, q2, q3⟩ := ho.init
      have hv : vs.length = os.length := ho.length
      exact ⟨vs.dropLast, g', q1, q2, q3, fun ax Q hax q => ⟨ax, vs, vs[vs.length - 1]'(by omega), rfl, rfl, hax, by rw [List.getElem?_eq_getElem], q _⟩⟩
    · cases h) ha
theorem tBM1 {X : Cx} {K : PySem.W.Frag} {T : String} {r : V → List V → Hp → VK → Prop} {to te : TE} {e : Expr} (h : PE X e (tBM K T r to (tCons te tNil))) : PE X e (fun σ H Q => to σ H fun x H1 => tyV K T x H1 ∧ te σ H1 fun y H2 => r x [y] H2 Q) := h
theorem extend_ (ha : PuP X W a i fp) (he : PuB X W e f) (hs : swapsWith (.Call (.Attribute a "extend" p2) [e] [] p3) none pos.line X.env = pure false := by rfl) (hbase : attributeBase a "extend" X.env (eval a X.env) = eval a X.env := by rfl)
    (hfew : ((backTo p3 (starEach [e] X.env)).all (fun x => !x.1) && (backToKw p3 (keywordEach [] X.env)).all (fun x => x.1.isSome) && decide ([e].length + ([] : List Keyword).length + (if ([] : List Keyword).isEmpty then 0 else 1) < 30)) = true := by rfl)
    (hline : (p2.endLine == p3.line) = true := by rfl) (hst : starEach [e] X.env = (false, eval e X.env) :: starEach [] X.env := by rfl) (hplain : (backTo p3 (starEach [] X.env)).any (·.1) = false := by rfl) :
    PuS X W (.Expr (.Call (.Attribute a "extend" p2) [e] [] p3) pos) (sLe i fp extL f) :=
  ps_le (fun pa pe => tBM1 (pe_bm PySem.F.plainAttrs_list PySem.F.slot_list_extend PySem.F.type_list_extend mt_extend pa (pa_cons pe pa_nil hst) hbase hfew hline hst hplain)) hs (fun o d d' h => by
    cases d with
    | l os =>
      have h : (match lz o with
        | some ds => if os.length + ds.length ≤ lineMax then some (O.l (os ++ ds.map .z)) else none
        | none => none) = some d' := h
      split at h
      · split at h
        · cases h; exact ⟨_, _, rfl, rfl⟩
        · cases h
      · cases h
    | _ => cases h) (fun o os os' h => by
    have h : (match lz o with
        | some ds => if os.length + ds.length ≤ lineMax then some (O.l (os ++ ds.map .z)) else none
        | none => none) = some (.l os') := h
    split at h
    · next ds ez =>
      split at h
      · next hlen =>
        cases h
        intro H Z vs g y gy ho hy
        obtain ⟨b, ws, rfl, h1, h2⟩ := hy.lz ez
        refine ⟨vs ++ ws, g, by simpa using Owns.app ho (RZs.owns ds ws h2), id, fun b hb => hb, fun ax Q hax q => ⟨ax, b, vs, ws, rfl, rfl, hax, h1, ?_, q _⟩⟩
        rw [ho.length, h2.length, ← line_eq]; exact hlen
      · cases h
    · cases h) ha he
end
/-! ### remove -/
theorem rzs_erase {H : Hp} {Z : Zs} {K : PySem.W.Frag} : ∀ {ds : List PyData} {vs : List V}, RZs H Z K ds vs → ∀ j, RZs H Z K (ds.eraseIdx j) (vs.eraseIdx j)
  | [], vs, h, j => by rw [show vs = [] from h]; exact rfl
  | d :: ds, vs, h, j => by
    obtain ⟨v, r, rfl, h1, h2⟩ := h
    cases j with
    | zero => exact h2
    | succ j => exact ⟨v, _, rfl, h1, rzs_erase h2 j⟩
theorem placeD_eq (ds : List PyData) (d : PyData) : placeD ds d = PySem.SeqAt.dataPlace ds d := by
  unfold placeD PySem.SeqAt.dataPlace
  congr 1
  funext e
  exact eqD_eq e d
mutual
theorem fine_plain : ∀ (n : Nat) (d : PyData), fine n d = true → d.plain = true
  | _, .none, _ => by simp [PyData.plain]
  | _, .bool _, _ => by simp [PyData.plain]
  | _, .int _, _ => by simp [PyData.plain]
  | _, .str _, _ => by simp [PyData.plain]
  | n + 1, .list xs, h => by rw [fine] at h; simpa [PyData.plain] using fines_plain n xs h
  | n + 1, .tuple xs, h => by rw [fine] at h; simpa [PyData.plain] using fines_plain n xs h
  | 0, .list xs, h => by simp [fine] at h
  | 0, .tuple xs, h => by simp [fine] at h
  | n, .dict x, h => by cases n <;> simp [fine] at h
theorem fines_plain : ∀ (n : Nat) (ds : List PyData), fines n ds = true → PyData.plainAll ds = true
  | _, [], _ => by simp [PyData.plainAll]
  | n, d :: ds, h => by
    rw [fines, Bool.and_eq_true] at h
    simp [PyData.plainAll, fine_plain n d h.1, fines_plain n ds h.2]
end
theorem all_fines : ∀ {ds : List PyData}, ds.all (fine 60) = true → fines 60 ds = true
  | [], _ => rfl
  | d :: ds, h => by
    rw [List.all_cons, Bool.and_eq_true] at h
    rw [fines, h.1, all_fines h.2]; rfl
def rRemD (K : PySem.W.Frag) : V → List V → Hp → VK → Prop := fun x xs H Q => ∃ (l : Addr) (vs : List V) (y : V) (ds : List PyData) (d : PyData) (j : Nat), x = .ref l ∧ xs = [y] ∧ H l = some (.lst vs) ∧ DpAll K H vs ds ∧ Dp K H y d ∧ fines 60 ds = true ∧ fine 60 d = true ∧ placeD ds d = some j ∧ Q .non (upd H l (.lst (vs.eraseIdx j)))
theorem mt_remD {X : Cx} (hu : X.A.units + 65 < cLine) : MtM X "list.remove" (rRemD X.K) := by
  intro pins s σ H x xs v us Q I rx rxs h
  obtain ⟨l, vs, y, ds, d, j, rfl, rfl, hH, dp, dy, f1, f2, hp, q⟩ := h
  cases rx
  obtain ⟨u, rfl, ru⟩ := rxs.one
  obtain ⟨z, its, n, r, hl, e⟩ := I.lstM hH
  obtain ⟨as, rs⟩ := Dp.readsAll I ds vs its dp r
  obtain ⟨bs, rx⟩ := Dp.reads I d y u dy ru
  have dep : PyData.depthAll ds ≤ 60 := (fines_lay 60 ds f1).2
  have il : s.heap.IsList l its.toArray := ⟨_, e, rfl, n, rfl⟩
  refine PySem.SeqAt.remove_list_data il (by simpa using rs) rx (fines_plain 60 ds f1) (fine_plain 60 d f2) (by omega) (by rw [← placeD_eq]; exact hp) (by rw [List.size_toArray, ← hl]; exact z) ?_
  refine ⟨.non, _, I.lset (its' := its.eraseIdx j) hH e ?_ (r.eraseIdx j) ?_, rfl, q⟩
  · show its.toArray.eraseIdxIfInBounds j = (its.eraseIdx j).toArray
    rw [List.eraseIdxIfInBounds_toArray]
  · exact Nat.le_trans (len_erase vs j) z
theorem remL_some {o d' : O} {os : List O} (h : remL o (.l os) = some d') : ∃ d ds j, o = .z d ∧ allZ os = some ds ∧ fine 60 d = true ∧ ds.all (fine 60) = true ∧ placeD ds d = some j ∧ d' = .l ((ds.eraseIdx j).map .z) := by
  cases o with
  | z d =>
    cases e : allZ os with
    | none => simp only [remL, e] at h; cases h
    | some ds =>
      simp only [remL, e] at h
      split at h
      · next c =>
        rw [Option.map_eq_some_iff] at h
        obtain ⟨j, hj, rfl⟩ := h
        exact ⟨d, ds, j, rfl, rfl, c.1, c.2, hj, rfl⟩
      · cases h
  | _ => cases h
section
variable {X : Cx} {W : WX} {a e : Expr} {f : EV} {i : Nat} {fp : EP} {pos p2 p3 : Pos} {m : Str}
theorem remove_ (hu : X.A.units + 65 < cLine) (ha : PuP X W a i fp) (he : PuB X W e f) (hs : swapsWith (.Call (.Attribute a "remove" p2) [e] [] p3) none pos.line X.env = pure false := by rfl) (hbase : attributeBase a "remove" X.env (eval a X.env) = eval a X.env := by rfl)
    (hfew : ((backTo p3 (starEach [e] X.env)).all (fun x => !x.1) && (backToKw p3 (keywordEach [] X.env)).all (fun x => x.1.isSome) && decide ([e].length + ([] : List Keyword).length + (if ([] : List Keyword).isEmpty then 0 else 1) < 30)) = true := by rfl)
    (hline : (p2.endLine == p3.line) = true := by rfl) (hst : starEach [e] X.env = (false, eval e X.env) :: starEach [] X.env := by rfl) (hplain : (backTo p3 (starEach [] X.env)).any (·.1) = false := by rfl) :
    PuS X W (.Expr (.Call (.Attribute a "remove" p2) [e] [] p3) pos) (sLe i fp remL f) :=
  ps_le (fun pa pe => tBM1 (pe_bm PySem.F.plainAttrs_list PySem.F.slot_list_remove PySem.F.type_list_remove (mt_remD hu) pa (pa_cons pe pa_nil hst) hbase hfew hline hst hplain)) hs (fun o d d' h => by
    cases d with
    | l os =>
      obtain ⟨_, _, _, _, _, _, _, _, e⟩ := remL_some h
      exact ⟨_, _, rfl, e⟩
    | _ => cases h) (fun o os os' h => by
    obtain ⟨d, ds, j, rfl, ez, f1, f2, hj, e⟩ := remL_some h
    cases e
    intro H Z vs g y gy ho hy
    rw [allZ_eq ez] at ho
    obtain ⟨rfl, rz⟩ := ho.allz
    refine ⟨vs.eraseIdx j, [], RZs.owns _ _ (rzs_erase rz j), id, fun b hb => hb, fun ax Q hax q => ?_⟩
    exact ⟨ax, vs, y, ds, d, j, rfl, rfl, hax, RZs.dp ds vs rz, RZ.dp d y hy.2, all_fines f2, f1, hj, q _⟩) ha he
end
/-! d.clear() -/
def rDClr : V → List V → Hp → VK → Prop := fun x vs H Q => ∃ (a : Addr) (kvs : List (Key × V)), x = .ref a ∧ vs = [] ∧ H a = some (.dK kvs) ∧ Q .non (upd H a (.dK []))
theorem mtd_clear' {X : Cx} : MtR X "dict.clear" rDClr := by
  intro pins s σ H x vs v us Q I rx rv h
  obtain ⟨a, kvs, ex, ev, e, q⟩ := h
  subst ex
  subst ev
  obtain rfl : v = Value.ref a := rx
  have hus := rv.zero
  subst hus
  exact d_clear I e fun s' I' => ⟨.non, _, I', rfl, q⟩
theorem vals_get' : ∀ {vs : List V} {us : List Value}, Vals vs us → ∀ {i : Nat} {u : Value}, us[i]? = some u → ∃ w, vs[i]? = some w ∧ RelV w u
  | _, _, .nil, i, u, h => by cases i <;> cases h
  | _, _, .cons r t, i, u, h => by
    cases i with
    | zero => cases h; exact ⟨_, rfl, r⟩
    | succ i => exact vals_get' t (i := i) h
/-! ### dicts: pop, clear -/
section
variable {X : Cx} {W : WX} {a e : Expr} {f : EV} {i : Nat} {fp : EP} {pos p2 p3 : Pos}
theorem popD_ (hu : X.A.units + 65 < cLine) (ha : PuP X W a i fp) (he : PuB X W e f) (hs : swapsWith (.Call (.Attribute a "pop" p2) [e] [] p3) none pos.line X.env = pure false := by rfl) (m : M1 X a "pop" p2 e p3 := by exact ⟨rfl, rfl, rfl, rfl⟩) :
    PuS X W (.Expr (.Call (.Attribute a "pop" p2) [e] [] p3) pos) (sPopD i fp f) := by
  obtain ⟨te, pe, qe⟩ := he.ex
  obtain ⟨ta, pa, qa⟩ := ha.ex
  refine ⟨_, ps_expr (pe_dpop1 pa pe m) hs, ?_⟩
  intro H0 Z0 H Z σ ρ S D h
  show ta σ H fun x H1 => ∃ a, x = .ref a ∧ IsD H1 a ∧ te σ H1 fun y H2 => ∃ kvs k v, H2 a = some (.dK kvs) ∧ y = kV k ∧ valV kvs k = some v ∧ D.nx σ (upd H2 a (.dK (dropK kvs k)))
  unfold sPopD at h
  obtain ⟨q, eq, h⟩ := nox_ok' (r := fp ρ) (P := PostS X W H0 Z0 H Z D) id h
  obtain ⟨o, eo, h⟩ := nox_ok' (r := f ρ) (P := PostS X W H0 Z0 H Z D) id h
  obtain ⟨c, d, d', ec, hd, ek, h⟩ := chg_nx h
  cases d with
  | dk os =>
    have ek : (kyO o).bind (fun k => if (look os k).isSome = true then some (O.dk (out os k)) else none) = some d' := ek
    rw [Option.bind_eq_some_iff] at ek
    obtain ⟨k, hk, ek⟩ := ek
    split at ek
    · next hl =>
      cases ek
      refine qa S _ ?_
      unfold PostP
      rw [eq]
      refine ⟨⟨c, ec, by rw [hd]; rfl⟩, fun x H1 Z1 e1 hx => ?_⟩
      obtain ⟨w, ax, vs, g0, hw', sv, ha', hkn, hos, nd, mu⟩ := S.cellK ec hd
      have := (sv.ext e1.keep).fn (hx w hw')
      subst this
      refine ⟨ax, rfl, .inl ⟨vs, .inl (e1.keep _ _ ha')⟩, qe (S.grow e1) _ ?_⟩
      unfold PostE
      rw [eo]
      intro y H2 Z2 g2 e2 o2 _
      have e12 := e1.trans e2
      obtain ⟨g', q1, q2, q3⟩ := OwnsK.filter (fun j => decide (j ≠ k)) (OwnsK.frame e12.kp _ _ _ (fun b hb => by
        obtain ⟨u, z⟩ := (OwnsK.mut _ _ _ hos b hb).some
        rw [z]; exact e12.keep _ _ z) hos)
      have hkn' : ((out os k).map (·.1)).Nodup := by
        unfold out
        exact List.Nodup.sublist (List.Sublist.map _ List.filter_sublist) hkn
      obtain ⟨S', k'⟩ := mu H2 Z2 e12 (out os k) (dropK vs k) g' hkn' q1 (q3 nd) fun b hb => .inl (q2 b hb)
      have hv : (look vs k).isSome = true := by
        rcases OwnsK.look (k := k) hos with ⟨n1, _⟩ | ⟨o', v, f', n1, n2, _⟩
        · rw [n1] at hl; cases hl
        · rw [n2]; rfl
      obtain ⟨v, hv⟩ := Option.isSome_iff_exists.1 hv
      exact ⟨vs, k, v, e12.keep _ _ ha', key_own o2 hk, by rw [← look_val]; exact hv, h σ _ Z2 k' S'⟩
    · cases ek
  | z _ => cases ek
  | l _ => cases ek
  | t _ => cases ek
  | dt _ => cases ek
  | s _ => cases ek
  | x _ _ => cases ek
theorem clearD_ (ha : PuP X W a i fp) (hs : swapsWith (.Call (.Attribute a "clear" p2) [] [] p3) none pos.line X.env = pure false := by rfl) (hbase : attributeBase a "clear" X.env (eval a X.env) = eval a X.env := by rfl) (hline : (p2.endLine == p3.line) = true := by rfl) :
    PuS X W (.Expr (.Call (.Attribute a "clear" p2) [] [] p3) pos) (sClrD i fp) := by
  obtain ⟨ta, pa, qa⟩ := ha.ex
  refine ⟨_, ps_expr (pe_bm0 PySem.F.plainAttrs_dict PySem.F.slot_dict_clear PySem.F.type_dict_clear mtd_clear' pa hbase hline) hs, ?_⟩
  intro H0 Z0 H Z σ ρ S D h
  show ta σ H fun x H1 => tyV X.K "dict" x H1 ∧ rDClr x [] H1 fun _ H3 => D.nx σ H3
  unfold sClrD at h
  obtain ⟨q, eq, h⟩ := nox_ok' (r := fp ρ) (P := PostS X W H0 Z0 H Z D) id h
  obtain ⟨c, d, d', ec, hd, ek, h⟩ := chg_nx h
  cases d with
  | dk os =>
    cases ek
    refine qa S _ ?_
    unfold PostP
    rw [eq]
    refine ⟨⟨c, ec, by rw [hd]; rfl⟩, fun x H1 Z1 e1 hx => ?_⟩
    obtain ⟨w, ax, vs, g0, hw', sv, ha', hkn, hos, nd, mu⟩ := S.cellK ec hd
    have := (sv.ext e1.keep).fn (hx w hw')
    subst this
    obtain ⟨S', k'⟩ := mu H1 Z1 e1 [] [] [] List.nodup_nil ⟨rfl, rfl⟩ List.nodup_nil fun b hb => by cases hb
    exact ⟨.inr (.inr (.inl ⟨rfl, .inl ⟨vs, e1.keep _ _ ha'⟩⟩)), ax, vs, rfl, rfl, e1.keep _ _ ha', h σ _ Z1 k' S'⟩
  | z _ => cases ek
  | l _ => cases ek
  | t _ => cases ek
  | dt _ => cases ek
  | s _ => cases ek
  | x _ _ => cases ek
end
/-! ### min, max, tuple -/
theorem foldl_same {α : Type} {f g : α → α → α} (S : α → Prop) (hf : ∀ a b, S a → S b → f a b = g a b ∧ S (g a b)) : ∀ (xs : List α) (a : α), S a → (∀ x ∈ xs, S x) → xs.foldl f a = xs.foldl g a
  | [], _, _, _ => rfl
  | x :: xs, a, ha, hx => by
    obtain ⟨e, s⟩ := hf a x ha (hx x List.mem_cons_self)
    rw [List.foldl_cons, List.foldl_cons, e]
    exact foldl_same S hf xs _ s fun y hy => hx y (List.mem_cons_of_mem _ hy)
theorem fit_alike {ds : List PyData} (h : fit ds) : PySem.W.AlikeAll ds := by
  refine ⟨fun x hx y hy => akin_alike _ _ (h.1 x hx y hy), fun x hx e => ?_⟩
  subst e
  rcases h.2.1 with q | q
  · have := q _ hx; cases this
  · have := q _ hx; cases this
theorem minD_eq {d : PyData} {ds : List PyData} (h : fit (d :: ds)) : PySem.W.minD d ds = ds.foldl (fun a y => if ltD y a then y else a) d := by
  refine foldl_same (fun x => x ∈ d :: ds) (fun a b ha hb => ⟨?_, ?_⟩) ds d List.mem_cons_self fun x hx => List.mem_cons_of_mem _ hx
  · rw [ltD_eq b a (h.1 b hb a ha)]
  · split
    · exact hb
    · exact ha
theorem maxD_eq {d : PyData} {ds : List PyData} (h : fit (d :: ds)) : PySem.W.maxD d ds = ds.foldl (fun a y => if ltD a y then y else a) d := by
  refine foldl_same (fun x => x ∈ d :: ds) (fun a b ha hb => ⟨?_, ?_⟩) ds d List.mem_cons_self fun x hx => List.mem_cons_of_mem _ hx
  · rw [ltD_eq a b (h.1 a ha b hb)]
  · split
    · exact hb
    · exact ha
theorem depthAll_fit {ds : List PyData} (h : fit ds) : PyData.depthAll ds ≤ 60 := by
  have : fines 60 ds = true := all_fines (List.all_eq_true.2 h.2.2)
  exact (fines_lay 60 ds this).2
def rBest (K : PySem.W.Frag) (b : List PyData → Option PyData) : List V → Hp → VK → Prop := fun xs H Q => ∃ (a : Addr) (vs : List V) (ds : List PyData), xs = [.ref a] ∧ H a = some (.lst vs) ∧ DpAll K H vs ds ∧ fit ds ∧ ds ≠ [] ∧ ∀ (i : Nat) (w : V), vs[i]? = some w → ds[i]? = b ds → Q w H
section
variable {X : Cx} {K : PySem.W.Frag}
theorem best_ix {I' : Nat → Value → Prop} : True := trivial
theorem cr_min1 (hc : X.calm = true) (hu : X.A.units + 65 < cLine) : CallR X (.builtin "min") (rBest X.K minL) := by
  intro pins s σ H xs us Q I r h
  obtain ⟨a, vs, ds, rfl, ha, dp, ft, ne, q⟩ := h
  obtain ⟨z, its, n, rv, hl, e⟩ := I.lstM ha
  obtain ⟨u, rfl, ru⟩ := vals1 r
  obtain rfl : u = Value.ref a := ru
  obtain ⟨as, rs⟩ := Dp.readsAll I ds vs its dp rv
  cases ds with
  | nil => exact absurd rfl ne
  | cons d ds =>
    have dep := depthAll_fit ft
    have il : s.heap.IsList a its.toArray := ⟨_, e, rfl, n, rfl⟩
    refine PySem.W.min_list_data (I.ok.hd hc) il (by simpa using rs) (fit_alike ft) (by omega) fun i v h' tk bs hv rd k => ?_
    have hv : its[i]? = some v := by simpa using hv
    obtain ⟨w, hw, rw'⟩ := vals_get' rv hv
    obtain ⟨bs', rb, hlt, _, _⟩ := PySem.W.readsAll_at (by simpa using rs) i v hv
    obtain ⟨e1, _⟩ := PyProof.Rows.reads_det (fun b o hb _ => k b o hb) rb rd
    refine ⟨w, H, I.kept k, rw', q i w hw ?_⟩
    have hlt : i < (d :: ds).length := hlt
    rw [List.getElem?_eq_getElem hlt]
    show some _ = some _
    rw [← minD_eq ft, e1, List.getD_eq_getElem?_getD, List.getElem?_eq_getElem hlt]; rfl
theorem cr_max1 (hc : X.calm = true) (hu : X.A.units + 65 < cLine) : CallR X (.builtin "max") (rBest X.K maxL) := by
  intro pins s σ H xs us Q I r h
  obtain ⟨a, vs, ds, rfl, ha, dp, ft, ne, q⟩ := h
  obtain ⟨z, its, n, rv, hl, e⟩ := I.lstM ha
  obtain ⟨u, rfl, ru⟩ := vals1 r
  obtain rfl : u = Value.ref a := ru
  obtain ⟨as, rs⟩ := Dp.readsAll I ds vs its dp rv
  cases ds with
  | nil => exact absurd rfl ne
  | cons d ds =>
    have dep := depthAll_fit ft
    have il : s.heap.IsList a its.toArray := ⟨_, e, rfl, n, rfl⟩
    refine PySem.W.max_list_data (I.ok.hd hc) il (by simpa using rs) (fit_alike ft) (by omega) fun i v h' tk bs hv rd k => ?_
    have hv : its[i]? = some v := by simpa using hv
    obtain ⟨w, hw, rw'⟩ := vals_get' rv hv
    obtain ⟨bs', rb, hlt, _, _⟩ := PySem.W.readsAll_at (by simpa using rs) i v hv
    obtain ⟨e1, _⟩ := PyProof.Rows.reads_det (fun b o hb _ => k b o hb) rb rd
    refine ⟨w, H, I.kept k, rw', q i w hw ?_⟩
    have hlt : i < (d :: ds).length := hlt
    rw [List.getElem?_eq_getElem hlt]
    show some _ = some _
    rw [← maxD_eq ft, e1, List.getD_eq_getElem?_getD, List.getElem?_eq_getElem hlt]; rfl
theorem rzs_at {H : Hp} {Z : Zs} : ∀ {ds : List PyData} {vs : List V} {i : Nat} {w : V}, RZs H Z K ds vs → vs[i]? = some w → ∃ d, ds[i]? = some d ∧ RZ H Z K d w
  | [], vs, i, w, h, e => by rw [show vs = [] from h] at e; cases e
  | d :: ds, vs, i, w, h, e => by
    obtain ⟨v, r, rfl, h1, h2⟩ := h
    cases i with
    | zero => cases e; exact ⟨d, rfl, h1⟩
    | succ i => exact rzs_at (i := i) h2 e
theorem gr_best {b : List PyData → Option PyData} {g : List O → Res O} (hg : ∀ os, (∃ o ds d, os = [o] ∧ lz o = some ds ∧ fit ds ∧ b ds = some d ∧ g os = .ok (.z d)) ∨ g os = .bad) (hb : b [] = none) : GRL K (rBest K b) g := fun {H Z vs os fp} hz oA Q => by
  rcases hg os with ⟨o, ds, d, rfl, e, ft, eb, eg⟩ | eg
  · rw [eg]
    intro p
    obtain ⟨v, rfl, g', h⟩ := ownA1 oA
    obtain ⟨a, ws, rfl, h1, h2⟩ := h.lz e
    refine ⟨a, ws, ds, rfl, h1, RZs.dp ds ws h2, ft, fun z => (by rw [z, hb] at eb; cases eb), fun i w hw he => ?_⟩
    obtain ⟨d', hd', r⟩ := rzs_at h2 hw
    rw [he, eb] at hd'
    cases hd'
    exact PostG.z hz r p
  · rw [eg]
    exact fun p => p.elim
theorem gr_min1 : GRL K (rBest K minL) kMin1 := gr_best (fun os => by
  unfold kMin1
  split
  · rename_i o
    cases e : lz o with
    | none => exact .inr rfl
    | some ds =>
      dsimp only
      by_cases hf : fit ds
      · rw [if_pos hf]
        cases eb : minL ds with
        | none => exact .inr rfl
        | some d => exact .inl ⟨o, ds, d, rfl, e, hf, eb, rfl⟩
      · rw [if_neg hf]; exact .inr rfl
  · exact .inr rfl) rfl
theorem gr_max1 : GRL K (rBest K maxL) kMax1 := gr_best (fun os => by
  unfold kMax1
  split
  · rename_i o
    cases e : lz o with
    | none => exact .inr rfl
    | some ds =>
      dsimp only
      by_cases hf : fit ds
      · rw [if_pos hf]
        cases eb : maxL ds with
        | none => exact .inr rfl
        | some d => exact .inl ⟨o, ds, d, rfl, e, hf, eb, rfl⟩
      · rw [if_neg hf]; exact .inr rfl
  · exact .inr rfl) rfl
theorem PostG.tup {H : Hp} {Z : Zs} {Q : VK} {ds : List PyData} {vs : List V} {q : Addr} (hz : ∀ a, Z a → H a ≠ none) (h : RZs H Z K ds vs) (p : PostG H Z K (.ok (.z (.tuple ds))) Q) (hq : H q = none) : Q (.ref q) (upd H q (.tup vs)) := by
  have ex := Ext.new (Z := Z) (o := .tup vs) hz hq
  exact p (.ref q) _ Z [] ex ⟨rfl, q, vs, rfl, SqT.of upd_same, RZs.kp ex.kp _ _ h⟩ New.nil
theorem gr_tuple : GRL K (fun xs H Q => ∃ p ys, xs = [.ref p] ∧ ((SqL K H p ys ∧ ∀ l, H l = none → Q (.ref l) (upd H l (.tup ys))) ∨ (SqT K H p ys ∧ Q (.ref p) H))) kTuple := fun {H Z vs os fp} hz oA Q => by
  unfold kTuple
  split
  · rename_i o
    obtain ⟨v, rfl, g, h⟩ := ownA1 oA
    cases e : lz o with
    | some ds =>
      obtain ⟨a, vs, rfl, h1, h2⟩ := h.lz e
      exact fun p => ⟨a, vs, rfl, .inl ⟨SqL.of h1, fun l hl => PostG.tup hz h2 p hl⟩⟩
    | none =>
      dsimp only
      cases e' : tz o with
      | none => exact fun p => p.elim
      | some ds =>
        obtain ⟨a, vs, rfl, h1, h2⟩ := h.tz e'
        exact fun p => ⟨a, vs, rfl, .inr ⟨h1, p (.ref a) H Z [] (Ext.refl hz) ⟨rfl, a, vs, rfl, h1, h2⟩ New.nil⟩⟩
  · exact fun p => p.elim
end
section
variable {X : Cx} {W : WX} {e : Expr} {fs : EA} {p pos : Pos} (B : Blt X.mg) (B2 : Blt2 X.mg)
include B in
theorem min1_ (hc : X.calm = true) (hu : X.A.units + 65 < cLine) (ha : PuAB X W [e] fs) (hg : Gl X "min" := by rfl) (he : starEach [e] X.env = (false, eval e X.env) :: starEach [] X.env := by rfl) (hpl : (backTo pos (starEach [] X.env)).any (·.1) = false := by rfl) : PuE X W (.Call (.Name "min" p) [e] [] pos) (eK kMin1 fs) := pu_kb (cr_min1 hc hu) gr_min1 hg B.min PyProof.Rows.boot_min (by decide) (by decide) he hpl ha
include B in
theorem max1_ (hc : X.calm = true) (hu : X.A.units + 65 < cLine) (ha : PuAB X W [e] fs) (hg : Gl X "max" := by rfl) (he : starEach [e] X.env = (false, eval e X.env) :: starEach [] X.env := by rfl) (hpl : (backTo pos (starEach [] X.env)).any (·.1) = false := by rfl) : PuE X W (.Call (.Name "max" p) [e] [] pos) (eK kMax1 fs) := pu_kb (cr_max1 hc hu) gr_max1 hg B.max PyProof.Rows.boot_max (by decide) (by decide) he hpl ha
include B in
theorem tuple_ (ha : PuAB X W [e] fs) (hg : Gl X "tuple" := by rfl) (he : starEach [e] X.env = (false, eval e X.env) :: starEach [] X.env := by rfl) (hpl : (backTo pos (starEach [] X.env)).any (·.1) = false := by rfl) : PuE X W (.Call (.Name "tuple" p) [e] [] pos) (eK kTuple fs) := pu_kt call_tuple_of gr_tuple hg B.tuple PyProof.Rows.boot_tuple (by decide) (by decide) he hpl ha
end
/-! ### a def that changes its first argument -/
def spM (K : PySem.W.Frag) (n : Nat) (F : List O → Res O) : Sp := fun vs H Q _ => ∃ (Z : Zs) (o : O) (ds : List PyData) (v : V) (ws : List V) (g : List Addr), vs = v :: ws ∧ (∀ a, Z a → H a ≠ none) ∧ ds.length + 1 = n ∧ Own H Z K o v g ∧ g.Nodup ∧ (∀ a ∈ g, ¬ Z a) ∧ RZs H Z K ds ws ∧
  ∃ o', F (o :: ds.map .z) = .ok o' ∧ ∀ (H' : Hp) (Z' : Zs) (g' : List Addr), (∀ a u, a ∉ g → H a = some u → H' a = some u) → (∀ a, Z a → Z' a) → (∀ a, Z' a → Z a ∨ H a = none ∨ a ∈ g) → (∀ a, Z' a → H' a ≠ none) → Own H' Z' K o' v g' → g'.Nodup → (∀ a ∈ g', ¬ Z' a ∧ (a ∈ g ∨ H a = none)) → Q .non H'
section
variable {K : PySem.W.Frag} {H0 H : Hp} {Z0 : Ent} {Z : Zs} {σ : St} {ρ : Env}
/-- a slot's own thing is another one, somebody else's work -/
theorem SR.mut0 (S : SR K H0 Z0 H Z σ ρ) {i : Nat} {c : O} (hc : ownAt ρ i = some c) : ∃ (w : V) (f : List Addr), σ[i]? = some (some w) ∧ Own H Z K c w f ∧ f.Nodup ∧ (∀ b ∈ f, ¬ Z b) ∧
    ∀ (H2 : Hp) (Z2 : Zs), (∀ a u, a ∉ f → H a = some u → H2 a = some u) → (∀ a, Z a → Z2 a) → (∀ a, Z2 a → Z a ∨ H a = none ∨ a ∈ f) → (∀ a, Z2 a → H2 a ≠ none) → ∀ (c' : O) (f' : List Addr), Own H2 Z2 K c' w f' → f'.Nodup → (∀ b ∈ f', ¬ Z2 b ∧ (b ∈ f ∨ H b = none)) →
      SR K H0 Z0 H2 Z2 σ (setAtS ρ i c') ∧ Kp H Z H2 Z2 := by
  obtain ⟨fp, hs, nd, k⟩ := S.own
  obtain ⟨w, f, l, r, e1, hw, efp, q2⟩ : ∃ (w : V) (f l r : List Addr), σ[i]? = some (some w) ∧ Own H Z K c w f ∧ fp = l ++ f ++ r ∧
      (∀ (H' : Hp) (Z' : Zs) (c' : O) (f' : List Addr), Kp H Z H' Z' → (∀ a, a ∈ l ∨ a ∈ r → H' a = H a) → Own H' Z' K c' w f' → Sls H0 Z0 H' Z' K (setAtS ρ i c') (σ.set i (some w)) (l ++ f' ++ r)) := by
    unfold ownAt at hc
    cases hr : ρ[i]? with
    | none => rw [hr] at hc; cases hc
    | some s =>
      rw [hr] at hc
      cases s with
      | none => cases hc
      | some s =>
        cases s with
        | r o => cases hc
        | w o =>
          cases hc
          obtain ⟨w0, f0, l, r, e1, ⟨v, rfl, e2⟩, efp, q2⟩ := Sls.part hs hr
          refine ⟨v, f0, l, r, e1, e2, efp, fun H' Z' c' f' kp kk z => ?_⟩
          unfold setAtS
          rw [hr]
          exact q2 H' Z' (some (.w c')) (some v) f' kp kk ⟨v, rfl, z⟩
        | p o =>
          cases hc
          obtain ⟨w0, f0, l, r, e1, ⟨rfl, e2⟩, efp, q2⟩ := Sls.part hs hr
          refine ⟨Z0.pin, f0, l, r, e1, e2, efp, fun H' Z' c' f' kp kk z => ?_⟩
          unfold setAtS
          rw [hr]
          exact q2 H' Z' (some (.p c')) (some Z0.pin) f' kp kk ⟨rfl, z⟩
  have hm := Sls.mut hs
  have mem : ∀ b, b ∈ f → b ∈ fp := fun b hb => by rw [efp]; exact List.mem_append_left _ (List.mem_append_right _ hb)
  have meml : ∀ b, b ∈ l ∨ b ∈ r → b ∈ fp := fun b hb => by
    rw [efp]
    rcases hb with hb | hb
    · exact List.mem_append_left _ (List.mem_append_left _ hb)
    · exact List.mem_append_right _ hb
  rw [efp, List.append_assoc, List.nodup_append] at nd
  obtain ⟨n1, n2, n3⟩ := nd
  rw [List.nodup_append] at n2
  obtain ⟨m1, m2, m3⟩ := n2
  have out : ∀ b, (b ∈ l ∨ b ∈ r) → b ∉ f := fun b hb h => by
    rcases hb with hb | hb
    · exact n3 b hb b (List.mem_append_left _ h) rfl
    · exact m3 b h b hb rfl
  refine ⟨w, f, e1, hw, m1, fun b hb => (k b (mem b hb)).1, fun H2 Z2 ke zz zn zd c' f' ho nd2 hn => ?_⟩
  have kp : Kp H Z H2 Z2 := ⟨zz, fun b o z e => ke b o (fun h => (k b (mem b h)).1 z) e, fun b xs e => by
    have nb : b ∉ f := fun h => (hm b (mem b h)).rd e
    rcases e with e | ⟨o, e⟩
    · exact .inl (ke b _ nb e)
    · exact .inr ⟨o, ke b _ nb e⟩, fun b o x e => ke b _ (fun h => (hm b (mem b h)).nofrz e) e⟩
  have fr : ∀ b, (b ∈ l ∨ b ∈ r) → H2 b = H b := fun b hb => by
    obtain ⟨u, e⟩ := (hm b (meml b hb)).some
    rw [e]; exact ke b u (out b hb) e
  have h4 := q2 H2 Z2 c' f' kp fr ho
  rw [set_same e1] at h4
  have dom : ∀ b, b ∈ fp → H b ≠ none := fun b hb => by
    obtain ⟨u, e⟩ := (hm b hb).some
    rw [e]; exact fun z => by cases z
  have new : ∀ b ∈ f', ∀ c, (c ∈ l ∨ c ∈ r) → b ≠ c := fun b hb c hc e => by
    subst e
    rcases (hn b hb).2 with h | h
    · exact out b hc h
    · exact dom b (meml b hc) h
  have ln : ∀ b, (b ∈ l ∨ b ∈ r) → ¬ Z2 b ∧ H0 b = none := fun b hb => ⟨fun z => by
    rcases zn b z with h | h | h
    · exact (k b (meml b hb)).1 h
    · exact dom b (meml b hb) h
    · exact out b hb h, (k b (meml b hb)).2⟩
  refine ⟨⟨⟨fun b u e => ke b u (fun h => by rw [(k b (mem b h)).2] at e; cases e) (S.ext.keep b u e), fun b z => zz b (S.ext.zz b z), fun b z => ?_, zd⟩, l ++ f' ++ r, h4, ?_, fun b hb => ?_⟩, kp⟩
  · rcases zn b z with h | h | h
    · exact S.ext.zn b h
    · exact .inr (S.ext.back h)
    · exact .inr (k b (mem b h)).2
  · rw [List.append_assoc, List.nodup_append]
    refine ⟨n1, List.nodup_append.2 ⟨nd2, m2, fun a ha b hb => new a ha b (.inr hb)⟩, fun a ha b hb => ?_⟩
    rcases List.mem_append.1 hb with hb | hb
    · exact fun e => new b hb a (.inl ha) e.symm
    · exact n3 a ha b (List.mem_append_right _ hb)
  · rcases List.mem_append.1 hb with hb | hb
    · rcases List.mem_append.1 hb with hb | hb
      · exact ln b (.inl hb)
      · refine ⟨(hn b hb).1, ?_⟩
        rcases (hn b hb).2 with h | h
        · exact (k b (mem b h)).2
        · exact S.ext.back h
    · exact ln b (.inr hb)
end
section
variable {P : Program} {w : World} {K : PySem.W.Frag} {mg : Str → Option Value} {base : Heap}
theorem sls_data {H0 H : Hp} {Z0 : Ent} {Z : Zs} : ∀ {ds : List PyData} {ws : List V}, RZs H Z K ds ws → Sls H0 Z0 H Z K (ds.map fun d => some (.w (.z d))) (ws.map some) []
  | [], ws, h => by rw [show ws = [] from h]; exact ⟨rfl, rfl⟩
  | d :: ds, ws, h => by
    obtain ⟨v, r, rfl, h1, h2⟩ := h
    exact ⟨some v, r.map some, [], [], rfl, rfl, ⟨v, rfl, rfl, h1⟩, sls_data h2⟩
open Classical in
theorem fnM {x qual : Str} {st : Stmt} {f : Addr} {fd : FuncData} {N ps : List Str} {k : Nat} {fs : ES} (F : Fun K x qual st f fd) (Sc : FnScope N ps (defScope st))
    (hb : ∀ (cdv : Value) (A : Around) (outer : List PySem.Env) (s : Shared) (H : Hp) (E : XK), A.guards = some [] → Room k (A.deeper (PyProof.Rows.envOfC qual (defScope st) s.heap.objs.size f cdv)) →
      PuSs (cxOf (L2.CX P w) P w K mg base N qual (defScope st) f cdv A outer s H E) (fun cls d _ H => E cls d H) (defBody st) fs) :
    FnG P w K mg base (L2.CX P w) (k + 1) f fd ps (spM K ps.length (runP N.length fs)) := by
  refine FnG.mk' F Sc (fun {vs H Q E} h => ?_) fun cdv A outer s H vs Q E hg hr h => ?_
  · obtain ⟨Z, o, ds, v, ws, g, rfl, _, hn, _, _, _, rz, _⟩ := h
    rw [List.length_cons, rz.length, hn]
  obtain ⟨Z, o, ds, v, ws, g, rfl, hz, hn, ho, nd, nz, rz, o', hF, q⟩ := h
  obtain ⟨t, p, qq⟩ := (hb cdv A outer s H E hg hr).ex
  let H0 : Hp := fun a => if a ∈ g then none else H a
  have e0 : Ext H0 Z H Z := ⟨fun a u e => by
    by_cases m : a ∈ g
    · have : H0 a = none := if_pos m
      rw [this] at e; cases e
    · have : H0 a = H a := if_neg m
      rw [this] at e; exact e, fun _ z => z, fun _ z => .inl z, hz⟩
  have S : SR K H0 ⟨Z, v⟩ H Z (L2.start N (v :: ws)) (entryP N.length o ds) := by
    refine ⟨e0, g, ?_, nd, fun a ha => ⟨nz a ha, if_pos ha⟩⟩
    unfold L2.start entryP
    rw [List.length_cons, rz.length]
    have s1 : Sls H0 ⟨Z, v⟩ H Z K (some (.p o) :: (ds.map fun d => some (.w (.z d)))) ((v :: ws).map some) g := ⟨some v, ws.map some, g, [], rfl, by simp, ⟨rfl, ho⟩, sls_data rz⟩
    have := Sls.app s1 (sls_none (H0 := H0) (H := H) (Z0 := ⟨Z, v⟩) (Z := Z) (K := K) (N.length - (ds.length + 1)))
    rw [List.append_nil] at this
    exact this
  refine ⟨t, p, qq S _ ?_⟩
  have hF : (match allZ (ds.map O.z) with
    | some ds => match fs (entryP N.length o ds) with
      | .nx (some (.p o') :: _) => Res.ok o'
      | _ => .bad
    | none => .bad) = .ok o' := hF
  rw [show allZ (ds.map O.z) = some ds from allZ_map ds] at hF
  dsimp only at hF
  split at hF
  · next o2 r e =>
    cases hF
    rw [e]
    intro σ' H' Z' kp S'
    obtain ⟨fp, sl, nd', k'⟩ := S'.own
    obtain ⟨w', τ, f1, g1, _, efp, ⟨_, ow⟩, _⟩ := sl
    subst efp
    refine q H' Z' f1 (fun a u na e => S'.ext.keep a u (show (if a ∈ g then none else H a) = some u by rw [if_neg na]; exact e)) S'.ext.zz (fun a z => ?_) S'.ext.zd ow (List.nodup_append.mp nd').1 fun a ha => ?_
    · rcases S'.ext.zn a z with h | h
      · exact .inl h
      · by_cases m : a ∈ g
        · exact .inr (.inr m)
        · have h : (if a ∈ g then none else H a) = none := h
          rw [if_neg m] at h; exact .inr (.inl h)
    · obtain ⟨h1, h2⟩ := k' a (List.mem_append_left _ ha)
      refine ⟨h1, ?_⟩
      by_cases m : a ∈ g
      · exact .inl m
      · have h2 : (if a ∈ g then none else H a) = none := h2
        rw [if_neg m] at h2; exact .inr h2
  · cases hF
end
theorem ownA_z {H : Hp} {Z : Zs} {K : PySem.W.Frag} : ∀ {ds : List PyData} {vs : List V} {g : List Addr}, OwnA H Z K (ds.map .z) vs g → RZs H Z K ds vs
  | [], vs, g, h => h.1
  | d :: ds, vs, g, h => by
    obtain ⟨v, r, f, g', rfl, rfl, h1, h2⟩ := h
    exact ⟨v, r, rfl, h1.2, ownA_z h2⟩
/-- what callers know of such a def -/
structure CalM (P : Program) (w : World) (K : PySem.W.Frag) (mg : Str → Option Value) (base : Heap) (x : Str) (k n : Nat) (F : List O → Res O) : Prop where
  ex : ∃ (f : Addr) (fd : FuncData) (ps : List Str), FnG P w K mg base (L2.CX P w) k f fd ps (spM K ps.length F) ∧ mg x = some (.ref f) ∧ PySem.W.keepIn K (.ref f) = true ∧ Binds K fd ps [] ∧ ps.length = n
section
variable {X : Cx} {W : WX} {es : List Expr} {e : Expr} {g : EA} {pos pos' p p1 : Pos}
theorem callM_ (i : Nat) {x y : Str} {k k' n : Nat} {F : List O → Res O} (c : CalM X.prog X.w X.K X.mg X.base x k n F) (gd : X.A.guards = some []) (hr : Room k' X.A) (tk : Takes X W) (ha : PuAB X W es g) (hk : k ≤ k' := by decide) (hlen : es.length + 1 = n := by rfl)
    (hN : X.N[i]? = some y := by rfl) (hv : Vis X.env.scope y := by first | exact Or.inl rfl | exact Or.inr (Or.inl rfl) | exact Or.inr (Or.inr rfl)) (hd : (y == ("__debug__" : Str)) = false := by decide) (hcd : (y == ("__classdict__" : Str)) = false := by decide)
    (hg : Gl X x := by rfl) (hdb : (x == ("__debug__" : Str)) = false := by decide) (he : starEach (.Name y p1 :: es) X.env = (false, eval (.Name y p1) X.env) :: starEach es X.env := by rfl) (hpl : (backTo pos (starEach es X.env)).any (·.1) = false := by rfl)
    (hs : swapsWith (.Call (.Name x p) (.Name y p1 :: es) [] pos) none pos'.line X.env = pure false := by rfl) : PuS X W (.Expr (.Call (.Name x p) (.Name y p1 :: es) [] pos) pos') (sCallM i F g) := by
  obtain ⟨f, fd, ps, G, hm, kp, hb, hl⟩ := c.ex
  obtain ⟨t, pa, q⟩ := ha.ex
  refine ⟨_, ps_expr (pe_callG G gd (hr.mono hk) hg hm kp hb tk (pa_cons (pe_var (i := i) hN hv hd hcd) pa he) hdb he hpl) hs, ?_⟩
  intro H0 Z0 H Z σ ρ S D h
  show ∃ v, σ[i]? = some (some v) ∧ t σ H fun vs H1 => spM X.K ps.length F (v :: vs) H1 (fun _ H2 => D.nx σ H2) (WE W σ)
  unfold sCallM at h
  cases ec : ownAt ρ i with
  | none => rw [ec] at h; exact h.elim
  | some c =>
    rw [ec] at h
    obtain ⟨os, eg, h⟩ := nox_ok' (r := g ρ) (P := PostS X W H0 Z0 H Z D) id h
    cases ez : allZ os with
    | none => rw [ez] at h; exact h.elim
    | some ds =>
    rw [ez] at h
    have hos : os.length = es.length := ha.len ρ os eg
    have := allZ_eq ez
    subst this
    obtain ⟨o', eF, h⟩ := nox_ok' (r := F (c :: ds.map .z)) (P := PostS X W H0 Z0 H Z D) id h
    obtain ⟨w, f0, e1, hw, nd, nz, mu⟩ := S.mut0 ec
    refine ⟨w, e1, q S _ ?_⟩
    unfold PostA
    rw [eg]
    intro vs H1 Z1 g1 x1 oA _
    have rz : RZs H1 Z1 X.K ds vs := ownA_z oA
    have hw1 := hw.ext x1
    refine ⟨Z1, c, ds, w, vs, f0, rfl, x1.zd, ?_, hw1, nd, fun a ha z => ?_, rz, o', eF, fun H2 Z2 g' ke zz zn zd ow nd' hn => ?_⟩
    · rw [hl, ← hlen, ← hos, List.length_map]
    · rcases x1.zn a z with z | z
      · exact nz a ha z
      · exact hw.ne ha z
    · have hnS : nS o' = true := by
        by_cases e : nS o' = true
        · exact e
        · rw [if_neg e] at h; exact h.elim
      rw [if_pos hnS] at h
      obtain ⟨S', kp'⟩ := mu H2 Z2 (fun a u na e => ke a u na (x1.keep a u e)) (fun a z => zz a (x1.zz a z)) (fun a z => by
        rcases zn a z with z | z | z
        · exact (x1.zn a z).imp id .inl
        · exact .inr (.inl (x1.back z))
        · exact .inr (.inr z)) zd o' g' ow nd' fun b hb => ⟨(hn b hb).1, (hn b hb).2.imp id x1.back⟩
      exact h σ H2 Z2 kp' S'
end
end U
end
/-! UJ -/
section
set_option Elab.async false
set_option linter.all false
set_option maxRecDepth 100000
set_option maxHeartbeats 2000000
/-! UJ: list(range), parts that are lent, defs that change their first argument. -/
namespace U
open PySem L2
section
variable {X : Cx} {W : WX} {a b : Expr} {fa fb : EV} {pos p p2 : Pos}
theorem rgV_rz {H : Hp} {Z : Zs} {K : PySem.W.Frag} (j : Int) : RZs H Z K ((List.range j.toNat).map fun (i : Nat) => PyData.int (0 + (i : Int))) (rgV 0 j) := by
  have : ∀ is : List Nat, RZs H Z K (is.map fun (i : Nat) => PyData.int (0 + (i : Int))) (is.map fun (i : Nat) => V.int (0 + (i : Int))) := by
    intro is
    induction is with
    | nil => exact rfl
    | cons i is ih => exact ⟨_, _, rfl, rfl, ih⟩
  have e : rgV 0 j = (List.range j.toNat).map fun (i : Nat) => V.int (0 + (i : Int)) := by
    unfold rgV
    rw [Int.sub_zero]
  rw [e]
  exact this _
theorem listR_ (hc : X.calm = true) (hgL : Gl X "list" := by rfl) (hmL : X.mg "list" = none) (hgR : Gl X "range" := by rfl) (hmR : X.mg "range" = none) (ha : PuB X W a fa)
    (hs : starEach [a] X.env = (false, eval a X.env) :: starEach [] X.env := by rfl) (hs2 : starEach [.Call (.Name "range" p) [a] [] p2] X.env = (false, eval (.Call (.Name "range" p) [a] [] p2) X.env) :: starEach [] X.env := by rfl) :
    PuE X W (.Call (.Name "list" p3) [.Call (.Name "range" p) [a] [] p2] [] pos) (eRl fa) := by
  obtain ⟨t, pa, q⟩ := ha.ex
  refine ⟨_, pe_listRg hc hgL hmL (prg_1 hgR hmR pa hs) hs2, ?_⟩
  intro H0 Z0 H Z σ ρ S Q h
  show t σ H fun x H1 => ∃ n, x = .int n ∧ RgOk 0 n ∧ ∀ q, H1 q = none → Q (.ref q) (upd H1 q (.lst (rgV 0 n)))
  refine q S _ ?_
  revert h
  unfold eRl PostE
  cases fa ρ with
  | bad => exact id
  | err cn d => exact id
  | ok o =>
    rw [Res.bind_ok]
    cases o with
    | z d =>
      cases d with
      | int j =>
        dsimp only
        by_cases hj : far j = true ∧ j.toNat ≤ lineMax
        · rw [if_pos hj]
          intro h v H1 Z1 g1 e1 o1 _
          have h2 := far_iff.mp hj.1
          refine ⟨j, o1.2, ⟨by omega, by omega, h2.1, h2.2, by rw [Int.sub_zero]; exact hj.2⟩, fun r hr => ?_⟩
          have ex := Ext.new (Z := Z1) (o := .lst (rgV 0 j)) e1.zd hr
          have rz := rgV_rz (H := upd H1 r (.lst (rgV 0 j))) (Z := Z1) (K := X.K) j
          have ow := RZs.owns _ _ rz
          refine h (.ref r) _ Z1 [r] (e1.trans ex) ⟨r, _, [], rfl, rfl, upd_same, ?_⟩ fun _ => ⟨by simp, fun b hb => ?_⟩
          · have e : upTo j.toNat 0 = ((List.range j.toNat).map fun (i : Nat) => PyData.int (0 + (i : Int))).map O.z := by unfold upTo; rw [List.map_map]; rfl
            rw [e]; exact ow
          · rw [List.mem_singleton] at hb
            subst hb
            exact ⟨fun z => e1.zd _ z hr, e1.back hr⟩
        · rw [if_neg hj]
          exact fun h => h.elim
      | _ => exact fun h => h.elim
    | _ => exact fun h => h.elim
/-- a part that is lent -/
theorem ixB_ (ha : PuB X W a fa) (hb : PuB X W b fb) (hs : PlainIx b := by exact fun _ _ => rfl) : PuB X W (.Subscript a b pos) (eIxB fa fb) := by
  obtain ⟨ta, pa, qa⟩ := ha.ex
  obtain ⟨tb, pb, qb⟩ := hb.ex
  refine ⟨_, pe_ix (ix_U (X := X)) pa pb hs, ?_⟩
  intro H0 Z0 H Z σ ρ S Q h
  show ta σ H fun x H1 => tb σ H1 fun y H2 => rIx X.K x y H2 Q
  refine qa S _ ?_
  revert h
  unfold eIxB PostE
  cases fa ρ with
  | bad => exact id
  | err cn d => exact id
  | ok o1 =>
    rw [Res.bind_ok]
    intro h v H1 Z1 g1 e1 w1 _
    refine qb (S.grow e1) _ ?_
    revert h
    unfold PostE
    cases fb ρ with
    | bad => exact id
    | err cn d => exact fun h => ErrP.grow h e1
    | ok o2 =>
      rw [Res.bind_ok]
      intro h y H2 Z2 g2 e2 w2 _
      have w1 := w1.ext e2
      cases o2 with
      | z d =>
        cases d with
        | int i =>
          have ey : y = .int i := w2.2
          subst ey
          have h : (match (match seqO o1 with
              | some os => Res.of (at_ os i)
              | none => match tupO o1 with
                | some os => Res.of (at_ os i)
                | none => .bad).nox with
            | .ok o => ∀ v H' Z' g, Ext H Z H' Z' → Own H' Z' X.K o v g → (False → New H Z' g) → Q v H'
            | .err c d => ErrP X W σ H Z c d
            | .bad => False) := h
          cases es : seqO o1 with
          | some os =>
            rw [es] at h
            cases ea : at_ os i with
            | none => simp only [ea] at h; exact h.elim
            | some o =>
              simp only [ea] at h
              obtain ⟨ax, vs, g, rfl, h1, h2, _⟩ := w1.seq es
              obtain ⟨u, g', q1, q2⟩ := atI_own h2 ea
              exact .inl ⟨ax, vs, i, u, rfl, rfl, SqL.of h1, q1, h u H2 Z2 g' (e1.trans e2) q2 fun f => f.elim⟩
          | none =>
            rw [es] at h
            cases et : tupO o1 with
            | none => rw [et] at h; exact h.elim
            | some os =>
              rw [et] at h
              cases ea : at_ os i with
              | none => simp only [ea] at h; exact h.elim
              | some o =>
                simp only [ea] at h
                obtain ⟨ax, vs, rfl, h1, h2⟩ := w1.tup et
                obtain ⟨u, g', q1, q2⟩ := atI_own h2 ea
                exact .inr ⟨ax, vs, i, u, rfl, rfl, h1, q1, h u H2 Z2 g' (e1.trans e2) q2 fun f => f.elim⟩
        | _ => exact h.elim
      | _ => exact h.elim
end
/-- such a def's worth from its body -/
theorem calM {P : Program} {w : World} {K : PySem.W.Frag} {mg : Str → Option Value} {base : Heap} {x : Str} {st : Stmt} {N ps : List Str} {k : Nat} {fs : ES} (D : Df K mg x st ps) (Sc : FnScope N ps (defScope st))
    (hb : ∀ (f : Addr) (cdv : Value) (A : Around) (outer : List PySem.Env) (s : Shared) (H : Hp) (E : XK), A.guards = some [] → Room k (A.deeper (PyProof.Rows.envOfC x (defScope st) s.heap.objs.size f cdv)) →
      PuSs (cxOf (L2.CX P w) P w K mg base N x (defScope st) f cdv A outer s H E) (fun cls d _ H => E cls d H) (defBody st) fs) :
    CalM P w K mg base x (k + 1) ps.length (runP N.length fs) := by
  obtain ⟨f, fd, F, hm, b⟩ := D.ex
  exact ⟨f, fd, ps, fnM F Sc (hb f), hm, F.kp, b, rfl⟩
end U
end
/-! UK -/
section
set_option Elab.async false
set_option linter.all false
set_option maxRecDepth 100000
set_option maxHeartbeats 2000000
/-! UK: errors as values. -/
namespace U
open PySem L2
section
variable {X : Cx} {W : WX} {e a : Expr} {es : List Expr} {f : EV} {pos p pos' : Pos} {ta : TA} {te : TE}
theorem exv_ok {P : Program} {w : World} {H : Hp} {h : Heap} {a C dx : Addr} {oe : Obj} {vs : Array Value} (e : h.get? a = some oe) (z : Zc (.ref C) (some dx) oe) (d : oe.data = .fields vs) : ObjOk P w H h a (exv a C dx) :=
  ⟨⟨oe, vs, e, z, d⟩, ⟨oe, e⟩, fun _ _ ⟨o, v, q, r⟩ k => ⟨o, v, k o q, r⟩⟩
/-- C(e), an error's class, as a value -/
theorem pe_oex {CX : CXT} {x : Str} {C fI : Addr} {k : Nat} {fd : FuncData} {ps : List Str} {sp : Sp} {ds : List Value} {dvs : List V} (T : OexC X.K C) (iC : PySem.W.findIn X.K (.ref C) "__init__" = some (some (.ref fI))) (tI : PySem.W.typeIn X.K (.ref fI) = some (.type "function"))
    (F1 : FnOk X.prog X.w X.K X.mg X.base CX k fI fd ps sp) (hr : Room (k + 1) X.A) (hb : Binds X.K fd ps ds) (hd : Vals dvs ds) (hx : Passes CX X (fun _ _ _ => False)) (hg : Gl X x) (hm : X.mg x = some (.ref C)) (ha : PA X (e :: es) ta)
    (hdb : (x == ("__debug__" : Str)) = false) (he : starEach (e :: es) X.env = (false, eval e X.env) :: starEach es X.env) (hpl : (backTo pos (starEach es X.env)).any (·.1) = false) :
    PE X (.Call (.Name x p) (e :: es) [] pos) (fun σ H Q => tMkO C sp dvs ta σ H fun cls d H' => ∃ dx, cls = .ref C ∧ d = some dx ∧ ∀ a, H' a = none → Q (.ref a) (upd H' a (exv a C dx))) := by
  refine ⟨fun pins s σ H Q I h => ?_⟩
  refine wpAny_mono (pmk_oex T iC tI F1 hr hb hd hx hg hm ha hdb he hpl pins s σ H _ I h) (fun u s1 hu => ?_) fun _ _ x => x
  obtain ⟨a, oe, vs, sI, H', cls, d, rfl, J, k, hne, ha, hz, hdt, h1, na, os, ag, r, dx, rfl, rfl, q⟩ := hu
  have I3 := J.laidN (t' := s1.toks) k hne na (exv_ok ha hz hdt)
  exact ⟨.ref a, upd H' a (exv a C dx), ⟨I3.ok, os.trans J.os, ag, I3.base, I3.loc, I3.cell, I3.free, I3.freeC, I3.pin, I3.hok, I3.len⟩, rfl, q a na⟩
theorem pu_newx {x : Str} {C fI : Addr} {k : Nat} (kc : KC X.K X.mg x C fI) (xc : XC X.K C) (hns : PySem.W.nsIn X.K mainGlobals x = some (some (.ref C))) (ki : KI X.prog X.w X.K X.mg X.base fI) (hr : Room k X.A) (hk : 2 ≤ k) (hx : Passes (L2.CX X.prog X.w) X (fun _ _ _ => False)) (hg : Gl X x) (hdb : (x == ("__debug__" : Str)) = false)
    (he : starEach [e] X.env = (false, eval e X.env) :: starEach [] X.env) (hpl : (backTo pos (starEach [] X.env)).any (·.1) = false) (h : PuE X W e f) : PuE X W (.Call (.Name x p) [e] [] pos) (eNewX x f) := by
  obtain ⟨t, pe, q⟩ := h.ex
  obtain ⟨fd, F1, hb⟩ := ki.ex
  refine ⟨_, pe_oex kc.ox kc.iC kc.tI F1 (hr.mono hk) hb .nil hx hg kc.mg (pa_cons pe pa_nil he) hdb he hpl, ?_⟩
  intro H0 Z0 H Z σ ρ S Q p
  unfold eNewX at p
  obtain ⟨d, ed, p⟩ := nox_bind (P := fun r => PostE X W True σ H Z r Q) id p
  cases d with
  | z d =>
    have p : PostE X W True σ H Z (.ok (.x x d)) Q := p
    show t σ H fun v H1 => _
    refine q S _ ?_
    rw [ed]
    intro v H1 Z1 g ex ow _
    refine ⟨by show 1 ≤ 1000; decide, fun a ha => ⟨a, C, v, rfl, kc.ox, kc.hno, upd_same, fun dx hdx hne => ⟨rfl, dx, [("at", v)], upd_same, ?_, ?_, ?_⟩⟩⟩
    · rw [upd_ne hne, upd_same]
    · rw [upd_ne hne] at hdx; exact hdx
    · have hd1 : H1 dx = none := by rw [upd_ne hne] at hdx; exact hdx
      rw [upd_exc ha hne]
      refine ⟨dx, rfl, rfl, fun a' ha' => ?_⟩
      have ne' : a' ≠ dx := fun z => by subst z; rw [upd_same] at ha'; cases ha'
      have ha1 : H1 a' = none := by rw [upd_ne ne'] at ha'; exact ha'
      have ex2 : Ext H1 Z1 (upd (upd H1 dx (.xd [("at", v)])) a' (exv a' C dx)) (fun b => Z1 b ∨ b = a' ∨ b = dx) := by
        refine ⟨fun b o eb => ?_, fun b z => .inl z, fun b z => ?_, fun b z => ?_⟩
        · have n1 : b ≠ a' := fun z => by subst z; rw [ha1] at eb; cases eb
          have n2 : b ≠ dx := fun z => by subst z; rw [hd1] at eb; cases eb
          rw [upd_ne n1, upd_ne n2]; exact eb
        · rcases z with z | z | z
          · exact .inl z
          · subst z; exact .inr ha1
          · subst z; exact .inr hd1
        · rcases z with z | z | z
          · have n1 : b ≠ a' := fun y => by subst y; exact ex.zd _ z ha1
            have n2 : b ≠ dx := fun y => by subst y; exact ex.zd _ z hd1
            rw [upd_ne n1, upd_ne n2]; exact ex.zd _ z
          · subst z; rw [upd_same]; exact fun z => by cases z
          · subst z; rw [upd_ne (Ne.symm ne'), upd_same]; exact fun z => by cases z
      refine p (.ref a') _ _ [] (ex.trans ex2) ⟨rfl, a', C, dx, v, rfl, hns, xc, .inr (.inl rfl), .inr (.inr rfl), upd_same, ?_, RZ.ext ex2 ow.2⟩ fun _ => New.nil
      rw [upd_ne (Ne.symm ne'), upd_same]
  | _ => exact p.elim
/-- e.at -/
def tXa (K : PySem.W.Frag) (te : TE) : TE := fun σ H Q => te σ H fun x H1 => ∃ (a C dx : Addr) (v : V), x = .ref a ∧ XC K C ∧ H1 a = some (exv a C dx) ∧ H1 dx = some (.xd [("at", v)]) ∧ Q v H1
theorem pe_xa (he : PE X e te) (hb : attributeBase e "at" X.env (eval e X.env) = eval e X.env) : PE X (.Attribute e "at" pos) (tXa X.K te) := by
  refine ⟨fun pins s σ H Q I h => ?_⟩
  refine attr_of hb (thn (he.run pins s σ H _ I h) fun u s1 hh => ?_)
  obtain ⟨x, H1, I1, rx, a, C, dx, v, ex, xc, ea, ed, q⟩ := hh
  subst ex
  obtain rfl : u = Value.ref a := rx
  obtain ⟨⟨oe, vs, ha, hz, hd⟩, _, _⟩ := I1.hok a _ ea
  have hx : ObjOk X.prog X.w H1 s1.heap dx (.xd [("at", v)]) := I1.hok dx _ ed
  obtain ⟨mA, hns, hr⟩ := hx
  obtain ⟨od, ho, hl⟩ := lookIn_ns hns
  obtain ⟨u, hu, ru⟩ := RelO.some_of (v := v) (o := mA "at") (hr "at")
  have J : PySem.W.InstAt s1.heap a oe C (some od) := ⟨ha, hz.1, by unfold PySem.W.notCls; rw [hd] <;> rfl, by rw [hz.2]; exact ho⟩
  exact HandSPX.exc_get I1.kIn J xc.xf.ga xc.xf.gg xc.xf.exC (PySem.W.findObj_own xc.xf.hdC xc.hno rfl (by rw [hl, hu])) (handed_of ru) ⟨v, H1, I1.tok _, ru, q⟩
theorem atx_ (ha : PuB X W e f) (hb : attributeBase e "at" X.env (eval e X.env) = eval e X.env := by rfl) : PuE X W (.Attribute e "at" pos) (eAtX f) := by
  obtain ⟨t, pe, q⟩ := ha.ex
  refine ⟨_, pe_xa pe hb, fun {H0 Z0 H Z σ ρ} S Q p => ?_⟩
  unfold eAtX at p
  obtain ⟨o, eo, p⟩ := nox_bind (P := fun r => PostE X W True σ H Z r Q) id p
  show t σ H fun x H1 => _
  refine q S _ ?_
  rw [eo]
  cases o with
  | x c d =>
    intro v H1 Z1 g ex ow _
    obtain ⟨_, a, C, dx, y, rfl, _, xc, _, _, h1, h2, r⟩ := ow
    have p : PostE X W True σ H Z (.ok (.z d)) Q := p
    exact ⟨a, C, dx, y, rfl, xc, h1, h2, p y H1 Z1 [] ex ⟨rfl, r⟩ fun _ => New.nil⟩
  | _ => exact p.elim
/-- isinstance(e, c) -/
theorem call_isX : CallR X (.builtin "isinstance") (fun xs H Q => ∃ (a C dx : Addr) (c : V) (cv : Value) (b : Bool), xs = [.ref a, c] ∧ (∀ u, RelV c u → u = cv) ∧ PySem.W.kitOne X.K (.ref C) cv = some b ∧ XC X.K C ∧ H a = some (exv a C dx) ∧ (∃ fs, H dx = some (.xd fs)) ∧ Q (.bl b) H) := by
  intro pins s σ H xs us Q I r h
  obtain ⟨a, C, dx, c, cv, b, rfl, hcv, e, xc, ea, ⟨fs, ed⟩, q⟩ := h
  cases r with
  | cons rx rr =>
    cases rr with
    | cons rt rr =>
      cases rr
      cases rx
      have ec' := hcv _ rt
      subst ec'
      obtain ⟨⟨oe, vs, hget, hz, hd⟩, _, _⟩ := I.hok a _ ea
      have hx : ObjOk X.prog X.w H s.heap dx (.xd fs) := I.hok dx _ ed
      obtain ⟨mA, hns, hr⟩ := hx
      obtain ⟨od, ho, hl⟩ := lookIn_ns hns
      have J : PySem.W.InstAt s.heap a oe C (some od) := ⟨hget, hz.1, by unfold PySem.W.notCls; rw [hd] <;> rfl, by rw [hz.2]; exact ho⟩
      have ec := xc.ec
      have hcl : (PySem.W.clsIn X.K C).isSome = true := by
        obtain ⟨cd, hc, _⟩ := PySem.W.any_some ec.hd
        rw [hc]; rfl
      exact PySem.W.kia_one (PySem.W.kitx_exc hcl ec.hg ec.hk ec.hs ec.ha ec.hn ec.ht ec.hm) I.kIn J e (fun z => nomatch z) fun tk => ⟨.bl b, H, I.kept (t' := tk) fun _ _ z => z, rfl, q⟩
theorem isx_core {x : Str} {ks : List Str} {sub : Str → Bool} {c : V} {cv : Value} {p2 p3 : Pos} (pT : PE X (.Name x p2) (tC c)) (hcv : ∀ u, RelV c u → u = cv) (hk : ∀ k ∈ ks, ∀ C, PySem.W.nsIn X.K mainGlobals k = some (some (.ref C)) → PySem.W.kitOne X.K (.ref C) cv = some (sub k)) (ha : PuB X W e f) (hmI : X.mg "isinstance" = none)
    (hgI : Gl X "isinstance") (he : starEach [e, .Name x p2] X.env = (false, eval e X.env) :: starEach [.Name x p2] X.env) (he2 : starEach [.Name x p2] X.env = (false, eval (.Name x p2) X.env) :: starEach [] X.env) (hpl : (backTo pos (starEach [.Name x p2] X.env)).any (·.1) = false) :
    PuE X W (.Call (.Name "isinstance" p3) [e, .Name x p2] [] pos) (eIsX ks sub f) := by
  obtain ⟨t, pe, q⟩ := ha.ex
  refine ⟨_, pe_callB call_isX hgI hmI PyProof.Rows.boot_isinstance (pa_cons pe (pa_cons pT pa_nil he2) he) (by decide) (by decide) he hpl, fun {H0 Z0 H Z σ ρ} S Q p => ?_⟩
  unfold eIsX at p
  obtain ⟨o, eo, p⟩ := nox_bind (P := fun r => PostE X W True σ H Z r Q) id p
  show t σ H fun x H1 => _
  refine q S _ ?_
  rw [eo]
  cases o with
  | x k d =>
    intro v H1 Z1 g ex ow _
    obtain ⟨_, a, C, dx, y, rfl, hns, xc, _, _, h1, h2, r⟩ := ow
    have p : PostE X W True σ H Z (if k ∈ ks then .ok (.z (.bool (sub k))) else .bad) Q := p
    by_cases hc : k ∈ ks
    · rw [if_pos hc] at p
      exact ⟨a, C, dx, c, cv, sub k, rfl, hcv, hk k hc C hns, xc, h1, ⟨_, h2⟩, p (.bl (sub k)) H1 Z1 [] ex ⟨rfl, rfl⟩ fun _ => New.nil⟩
    · rw [if_neg hc] at p; exact p.elim
  | _ => exact p.elim
end
/-! ### in short -/
def KN (P : Program) (w : World) (K : PySem.W.Frag) (mg : Str → Option Value) (base : Heap) (c : Str) : Prop := ∃ C fI, KC K mg c C fI ∧ XC K C ∧ PySem.W.nsIn K mainGlobals c = some (some (.ref C)) ∧ KI P w K mg base fI
def KV (K : PySem.W.Frag) (mg : Str → Option Value) (ks : List Str) (D : Str) : Prop := ∃ E, mg D = some (.ref E) ∧ ∀ c ∈ ks, ∀ C, PySem.W.nsIn K mainGlobals c = some (some (.ref C)) → PySem.W.kitOne K (.ref C) (.ref E) = some (below D c)
def KVE (K : PySem.W.Frag) (mg : Str → Option Value) (ks : List Str) : Prop := mg "ValueError" = none ∧ ∀ c ∈ ks, ∀ C, PySem.W.nsIn K mainGlobals c = some (some (.ref C)) → PySem.W.kitOne K (.ref C) (.type "ValueError") = some true
section
variable {X : Cx} {W : WX} {ks : List Str} {e : Expr} {f : EV} {pos p p2 p3 : Pos} {x : Str}
theorem newx_ {k : Nat} (kn : KN X.prog X.w X.K X.mg X.base x) (tk : Takes X W) (hr : Room k X.A) (h : PuE X W e f) (hk : 2 ≤ k := by decide) (hg : Gl X x := by rfl) (hdb : (x == ("__debug__" : Str)) = false := by decide)
    (he : starEach [e] X.env = (false, eval e X.env) :: starEach [] X.env := by rfl) (hpl : (backTo pos (starEach [] X.env)).any (·.1) = false := by rfl) : PuE X W (.Call (.Name x p) [e] [] pos) (eNewX x f) := by
  obtain ⟨C, fI, kc, xc, hns, ki⟩ := kn
  exact pu_newx kc xc hns ki hr hk (passes_no tk) hg hdb he hpl h
theorem isx_ (hk : KV X.K X.mg ks x) (hmI : X.mg "isinstance" = none) (ha : PuB X W e f) (hgI : Gl X "isinstance" := by rfl) (hgT : Gl X x := by rfl) (hdx : (x == ("__debug__" : Str)) = false := by decide)
    (he : starEach [e, .Name x p2] X.env = (false, eval e X.env) :: starEach [.Name x p2] X.env := by rfl) (he2 : starEach [.Name x p2] X.env = (false, eval (.Name x p2) X.env) :: starEach [] X.env := by rfl) (hpl : (backTo pos (starEach [.Name x p2] X.env)).any (·.1) = false := by rfl) :
    PuE X W (.Call (.Name "isinstance" p3) [e, .Name x p2] [] pos) (eIsX ks (below x) f) := by
  obtain ⟨E, hm, hk⟩ := hk
  exact isx_core (c := .ref E) (cv := .ref E) (pe_glob (v := .ref E) hgT hm rfl hdx) (fun u r => r) hk ha hmI hgI he he2 hpl
theorem isxV_ (hk : KVE X.K X.mg ks) (hmI : X.mg "isinstance" = none) (ha : PuB X W e f) (hgI : Gl X "isinstance" := by rfl) (hgT : Gl X "ValueError" := by rfl)
    (he : starEach [e, .Name "ValueError" p2] X.env = (false, eval e X.env) :: starEach [.Name "ValueError" p2] X.env := by rfl) (he2 : starEach [.Name "ValueError" p2] X.env = (false, eval (.Name "ValueError" p2) X.env) :: starEach [] X.env := by rfl) (hpl : (backTo pos (starEach [.Name "ValueError" p2] X.env)).any (·.1) = false := by rfl) :
    PuE X W (.Call (.Name "isinstance" p3) [e, .Name "ValueError" p2] [] pos) (eIsX ks anyC f) :=
  isx_core (c := .ty "ValueError") (cv := .type "ValueError") (pe_bltn hgT hk.1 rfl rfl (by decide) (by decide)) (fun u r => r) (fun k hk' C h => hk.2 k hk' C h) ha hmI hgI he he2 hpl
end
end U
end
/-! US -/
section
set_option linter.all false
/-! US: how UD's words reckon (printed by mkus.py, in part). -/
namespace U
open PySem (PyData Str)
@[simp] theorem eVar_w0 {o : O} {r : Env} : eVar 0 (some (.w o) :: r) = .ok o := (rfl)
@[simp] theorem eVar_r0 {o : O} {r : Env} : eVar 0 (some (.r o) :: r) = .ok o := (rfl)
@[simp] theorem eVar_p0 {o : O} {r : Env} : eVar 0 (some (.p o) :: r) = .ok o := (rfl)
@[simp] theorem tN_0 {o : O} {x : Option Sl} {r : Env} : tN 0 o (x :: r) = some (some (.w o) :: r) := (rfl)
@[simp] theorem tNr_0 {o : O} {x : Option Sl} {r : Env} : tNr 0 o (x :: r) = some (some (lent o) :: r) := (rfl)
@[simp] theorem sRetMv_0 {o : O} {r : Env} : sRetMv 0 (some (.w o) :: r) = .rt o := (rfl)
@[simp] theorem frz_0 {o : O} {r : Env} : frz 0 (some (.w o) :: r) = if dz o then some (.w (.z (strip o))) :: r else some (.w o) :: r := by unfold frz; rfl
@[simp] theorem sApp_0 {os : List O} {r : Env} {e : EV} : sApp 0 e (some (.w (.l os)) :: r) = (e (some (.w (.l os)) :: r)).out (some (.w (.l os)) :: r) fun o => if os.length < lineMax ∧ nS o = true then .nx (some (.w (.l (os ++ [o]))) :: r) else .bad := (rfl)
@[simp] theorem sAug_0 {a : Int} {r : Env} {g : Int → Int → Int} {e : EV} : sAug 0 g e (some (.w (.z (.int a))) :: r) = (e (some (.w (.z (.int a))) :: r)).out (some (.w (.z (.int a))) :: r) fun b => match b with | .z (.int b) => .nx (some (.w (.z (.int (g a b)))) :: r) | _ => .bad := (rfl)
@[simp] theorem eVar_w1 {s0 : Option Sl} {o : O} {r : Env} : eVar 1 (s0 :: some (.w o) :: r) = .ok o := (rfl)
@[simp] theorem eVar_r1 {s0 : Option Sl} {o : O} {r : Env} : eVar 1 (s0 :: some (.r o) :: r) = .ok o := (rfl)
@[simp] theorem eVar_p1 {s0 : Option Sl} {o : O} {r : Env} : eVar 1 (s0 :: some (.p o) :: r) = .ok o := (rfl)
@[simp] theorem tN_1 {s0 : Option Sl} {o : O} {x : Option Sl} {r : Env} : tN 1 o (s0 :: x :: r) = some (s0 :: some (.w o) :: r) := (rfl)
@[simp] theorem tNr_1 {s0 : Option Sl} {o : O} {x : Option Sl} {r : Env} : tNr 1 o (s0 :: x :: r) = some (s0 :: some (lent o) :: r) := (rfl)
@[simp] theorem sRetMv_1 {s0 : Option Sl} {o : O} {r : Env} : sRetMv 1 (s0 :: some (.w o) :: r) = .rt o := (rfl)
@[simp] theorem frz_1 {s0 : Option Sl} {o : O} {r : Env} : frz 1 (s0 :: some (.w o) :: r) = if dz o then s0 :: some (.w (.z (strip o))) :: r else s0 :: some (.w o) :: r := by unfold frz; rfl
@[simp] theorem sApp_1 {s0 : Option Sl} {os : List O} {r : Env} {e : EV} : sApp 1 e (s0 :: some (.w (.l os)) :: r) = (e (s0 :: some (.w (.l os)) :: r)).out (s0 :: some (.w (.l os)) :: r) fun o => if os.length < lineMax ∧ nS o = true then .nx (s0 :: some (.w (.l (os ++ [o]))) :: r) else .bad := (rfl)
@[simp] theorem sAug_1 {s0 : Option Sl} {a : Int} {r : Env} {g : Int → Int → Int} {e : EV} : sAug 1 g e (s0 :: some (.w (.z (.int a))) :: r) = (e (s0 :: some (.w (.z (.int a))) :: r)).out (s0 :: some (.w (.z (.int a))) :: r) fun b => match b with | .z (.int b) => .nx (s0 :: some (.w (.z (.int (g a b)))) :: r) | _ => .bad := (rfl)
@[simp] theorem eVar_w2 {s0 s1 : Option Sl} {o : O} {r : Env} : eVar 2 (s0 :: s1 :: some (.w o) :: r) = .ok o := (rfl)
@[simp] theorem eVar_r2 {s0 s1 : Option Sl} {o : O} {r : Env} : eVar 2 (s0 :: s1 :: some (.r o) :: r) = .ok o := (rfl)
@[simp] theorem eVar_p2 {s0 s1 : Option Sl} {o : O} {r : Env} : eVar 2 (s0 :: s1 :: some (.p o) :: r) = .ok o := (rfl)
@[simp] theorem tN_2 {s0 s1 : Option Sl} {o : O} {x : Option Sl} {r : Env} : tN 2 o (s0 :: s1 :: x :: r) = some (s0 :: s1 :: some (.w o) :: r) := (rfl)
@[simp] theorem tNr_2 {s0 s1 : Option Sl} {o : O} {x : Option Sl} {r : Env} : tNr 2 o (s0 :: s1 :: x :: r) = some (s0 :: s1 :: some (lent o) :: r) := (rfl)
@[simp] theorem sRetMv_2 {s0 s1 : Option Sl} {o : O} {r : Env} : sRetMv 2 (s0 :: s1 :: some (.w o) :: r) = .rt o := (rfl)
@[simp] theorem frz_2 {s0 s1 : Option Sl} {o : O} {r : Env} : frz 2 (s0 :: s1 :: some (.w o) :: r) = if dz o then s0 :: s1 :: some (.w (.z (strip o))) :: r else s0 :: s1 :: some (.w o) :: r := by unfold frz; rfl
@[simp] theorem sApp_2 {s0 s1 : Option Sl} {os : List O} {r : Env} {e : EV} : sApp 2 e (s0 :: s1 :: some (.w (.l os)) :: r) = (e (s0 :: s1 :: some (.w (.l os)) :: r)).out (s0 :: s1 :: some (.w (.l os)) :: r) fun o => if os.length < lineMax ∧ nS o = true then .nx (s0 :: s1 :: some (.w (.l (os ++ [o]))) :: r) else .bad := (rfl)
@[simp] theorem sAug_2 {s0 s1 : Option Sl} {a : Int} {r : Env} {g : Int → Int → Int} {e : EV} : sAug 2 g e (s0 :: s1 :: some (.w (.z (.int a))) :: r) = (e (s0 :: s1 :: some (.w (.z (.int a))) :: r)).out (s0 :: s1 :: some (.w (.z (.int a))) :: r) fun b => match b with | .z (.int b) => .nx (s0 :: s1 :: some (.w (.z (.int (g a b)))) :: r) | _ => .bad := (rfl)
@[simp] theorem eVar_w3 {s0 s1 s2 : Option Sl} {o : O} {r : Env} : eVar 3 (s0 :: s1 :: s2 :: some (.w o) :: r) = .ok o := (rfl)
@[simp] theorem eVar_r3 {s0 s1 s2 : Option Sl} {o : O} {r : Env} : eVar 3 (s0 :: s1 :: s2 :: some (.r o) :: r) = .ok o := (rfl)
@[simp] theorem eVar_p3 {s0 s1 s2 : Option Sl} {o : O} {r : Env} : eVar 3 (s0 :: s1 :: s2 :: some (.p o) :: r) = .ok o := (rfl)
@[simp] theorem tN_3 {s0 s1 s2 : Option Sl} {o : O} {x : Option Sl} {r : Env} : tN 3 o (s0 :: s1 :: s2 :: x :: r) = some (s0 :: s1 :: s2 :: some (.w o) :: r) := (rfl)
@[simp] theorem tNr_3 {s0 s1 s2 : Option Sl} {o : O} {x : Option Sl} {r : Env} : tNr 3 o (s0 :: s1 :: s2 :: x :: r) = some (s0 :: s1 :: s2 :: some (lent o) :: r) := (rfl)
@[simp] theorem sRetMv_3 {s0 s1 s2 : Option Sl} {o : O} {r : Env} : sRetMv 3 (s0 :: s1 :: s2 :: some (.w o) :: r) = .rt o := (rfl)
@[simp] theorem frz_3 {s0 s1 s2 : Option Sl} {o : O} {r : Env} : frz 3 (s0 :: s1 :: s2 :: some (.w o) :: r) = if dz o then s0 :: s1 :: s2 :: some (.w (.z (strip o))) :: r else s0 :: s1 :: s2 :: some (.w o) :: r := by unfold frz; rfl
@[simp] theorem sApp_3 {s0 s1 s2 : Option Sl} {os : List O} {r : Env} {e : EV} : sApp 3 e (s0 :: s1 :: s2 :: some (.w (.l os)) :: r) = (e (s0 :: s1 :: s2 :: some (.w (.l os)) :: r)).out (s0 :: s1 :: s2 :: some (.w (.l os)) :: r) fun o => if os.length < lineMax ∧ nS o = true then .nx (s0 :: s1 :: s2 :: some (.w (.l (os ++ [o]))) :: r) else .bad := (rfl)
@[simp] theorem sAug_3 {s0 s1 s2 : Option Sl} {a : Int} {r : Env} {g : Int → Int → Int} {e : EV} : sAug 3 g e (s0 :: s1 :: s2 :: some (.w (.z (.int a))) :: r) = (e (s0 :: s1 :: s2 :: some (.w (.z (.int a))) :: r)).out (s0 :: s1 :: s2 :: some (.w (.z (.int a))) :: r) fun b => match b with | .z (.int b) => .nx (s0 :: s1 :: s2 :: some (.w (.z (.int (g a b)))) :: r) | _ => .bad := (rfl)
@[simp] theorem eVar_w4 {s0 s1 s2 s3 : Option Sl} {o : O} {r : Env} : eVar 4 (s0 :: s1 :: s2 :: s3 :: some (.w o) :: r) = .ok o := (rfl)
@[simp] theorem eVar_r4 {s0 s1 s2 s3 : Option Sl} {o : O} {r : Env} : eVar 4 (s0 :: s1 :: s2 :: s3 :: some (.r o) :: r) = .ok o := (rfl)
@[simp] theorem eVar_p4 {s0 s1 s2 s3 : Option Sl} {o : O} {r : Env} : eVar 4 (s0 :: s1 :: s2 :: s3 :: some (.p o) :: r) = .ok o := (rfl)
@[simp] theorem tN_4 {s0 s1 s2 s3 : Option Sl} {o : O} {x : Option Sl} {r : Env} : tN 4 o (s0 :: s1 :: s2 :: s3 :: x :: r) = some (s0 :: s1 :: s2 :: s3 :: some (.w o) :: r) := (rfl)
@[simp] theorem tNr_4 {s0 s1 s2 s3 : Option Sl} {o : O} {x : Option Sl} {r : Env} : tNr 4 o (s0 :: s1 :: s2 :: s3 :: x :: r) = some (s0 :: s1 :: s2 :: s3 :: some (lent o) :: r) := (rfl)
@[simp] theorem sRetMv_4 {s0 s1 s2 s3 : Option Sl} {o : O} {r : Env} : sRetMv 4 (s0 :: s1 :: s2 :: s3 :: some (.w o) :: r) = .rt o := (rfl)
@[simp] theorem frz_4 {s0 s1 s2 s3 : Option Sl} {o : O} {r : Env} : frz 4 (s0 :: s1 :: s2 :: s3 :: some (.w o) :: r) = if dz o then s0 :: s1 :: s2 :: s3 :: some (.w (.z (strip o))) :: r else s0 :: s1 :: s2 :: s3 :: some (.w o) :: r := by unfold frz; rfl
@[simp] theorem sApp_4 {s0 s1 s2 s3 : Option Sl} {os : List O} {r : Env} {e : EV} : sApp 4 e (s0 :: s1 :: s2 :: s3 :: some (.w (.l os)) :: r) = (e (s0 :: s1 :: s2 :: s3 :: some (.w (.l os)) :: r)).out (s0 :: s1 :: s2 :: s3 :: some (.w (.l os)) :: r) fun o => if os.length < lineMax ∧ nS o = true then .nx (s0 :: s1 :: s2 :: s3 :: some (.w (.l (os ++ [o]))) :: r) else .bad := (rfl)
@[simp] theorem sAug_4 {s0 s1 s2 s3 : Option Sl} {a : Int} {r : Env} {g : Int → Int → Int} {e : EV} : sAug 4 g e (s0 :: s1 :: s2 :: s3 :: some (.w (.z (.int a))) :: r) = (e (s0 :: s1 :: s2 :: s3 :: some (.w (.z (.int a))) :: r)).out (s0 :: s1 :: s2 :: s3 :: some (.w (.z (.int a))) :: r) fun b => match b with | .z (.int b) => .nx (s0 :: s1 :: s2 :: s3 :: some (.w (.z (.int (g a b)))) :: r) | _ => .bad := (rfl)
@[simp] theorem eVar_w5 {s0 s1 s2 s3 s4 : Option Sl} {o : O} {r : Env} : eVar 5 (s0 :: s1 :: s2 :: s3 :: s4 :: some (.w o) :: r) = .ok o := (rfl)
@[simp] theorem eVar_r5 {s0 s1 s2 s3 s4 : Option Sl} {o : O} {r : Env} : eVar 5 (s0 :: s1 :: s2 :: s3 :: s4 :: some (.r o) :: r) = .ok o := (rfl)
@[simp] theorem eVar_p5 {s0 s1 s2 s3 s4 : Option Sl} {o : O} {r : Env} : eVar 5 (s0 :: s1 :: s2 :: s3 :: s4 :: some (.p o) :: r) = .ok o := (rfl)
@[simp] theorem tN_5 {s0 s1 s2 s3 s4 : Option Sl} {o : O} {x : Option Sl} {r : Env} : tN 5 o (s0 :: s1 :: s2 :: s3 :: s4 :: x :: r) = some (s0 :: s1 :: s2 :: s3 :: s4 :: some (.w o) :: r) := (rfl)
@[simp] theorem tNr_5 {s0 s1 s2 s3 s4 : Option Sl} {o : O} {x : Option Sl} {r : Env} : tNr 5 o (s0 :: s1 :: s2 :: s3 :: s4 :: x :: r) = some (s0 :: s1 :: s2 :: s3 :: s4 :: some (lent o) :: r) := (rfl)
@[simp] theorem sRetMv_5 {s0 s1 s2 s3 s4 : Option Sl} {o : O} {r : Env} : sRetMv 5 (s0 :: s1 :: s2 :: s3 :: s4 :: some (.w o) :: r) = .rt o := (rfl)
@[simp] theorem frz_5 {s0 s1 s2 s3 s4 : Option Sl} {o : O} {r : Env} : frz 5 (s0 :: s1 :: s2 :: s3 :: s4 :: some (.w o) :: r) = if dz o then s0 :: s1 :: s2 :: s3 :: s4 :: some (.w (.z (strip o))) :: r else s0 :: s1 :: s2 :: s3 :: s4 :: some (.w o) :: r := by unfold frz; rfl
@[simp] theorem sApp_5 {s0 s1 s2 s3 s4 : Option Sl} {os : List O} {r : Env} {e : EV} : sApp 5 e (s0 :: s1 :: s2 :: s3 :: s4 :: some (.w (.l os)) :: r) = (e (s0 :: s1 :: s2 :: s3 :: s4 :: some (.w (.l os)) :: r)).out (s0 :: s1 :: s2 :: s3 :: s4 :: some (.w (.l os)) :: r) fun o => if os.length < lineMax ∧ nS o = true then .nx (s0 :: s1 :: s2 :: s3 :: s4 :: some (.w (.l (os ++ [o]))) :: r) else .bad := (rfl)
@[simp] theorem sAug_5 {s0 s1 s2 s3 s4 : Option Sl} {a : Int} {r : Env} {g : Int → Int → Int} {e : EV} : sAug 5 g e (s0 :: s1 :: s2 :: s3 :: s4 :: some (.w (.z (.int a))) :: r) = (e (s0 :: s1 :: s2 :: s3 :: s4 :: some (.w (.z (.int a))) :: r)).out (s0 :: s1 :: s2 :: s3 :: s4 :: some (.w (.z (.int a))) :: r) fun b => match b with | .z (.int b) => .nx (s0 :: s1 :: s2 :: s3 :: s4 :: some (.w (.z (.int (g a b)))) :: r) | _ => .bad := (rfl)
@[simp] theorem eVar_w6 {s0 s1 s2 s3 s4 s5 : Option Sl} {o : O} {r : Env} : eVar 6 (s0 :: s1 :: s2 :: s3 :: s4 :: s5 :: some (.w o) :: r) = .ok o := (rfl)
@[simp] theorem eVar_r6 {s0 s1 s2 s3 s4 s5 : Option Sl} {o : O} {r : Env} : eVar 6 (s0 :: s1 :: s2 :: s3 :: s4 :: s5 :: some (.r o) :: r) = .ok o := (rfl)
@[simp] theorem eVar_p6 {s0 s1 s2 s3 s4 s5 : Option Sl} {o : O} {r : Env} : eVar 6 (s0 :: s1 :: s2 :: s3 :: s4 :: s5 :: some (.p o) :: r) = .ok o := (rfl)
@[simp] theorem tN_6 {s0 s1 s2 s3 s4 s5 : Option Sl} {o : O} {x : Option Sl} {r : Env} : tN 6 o (s0 :: s1 :: s2 :: s3 :: s4 :: s5 :: x :: r) = some (s0 :: s1 :: s2 :: s3 :: s4 :: s5 :: some (.w o) :: r) := (rfl)
@[simp] theorem tNr_6 {s0 s1 s2 s3 s4 s5 : Option Sl} {o : O} {x : Option Sl} {r : Env} : tNr 6 o (s0 :: s1 :: s2 :: s3 :: s4 :: s5 :: x :: r) = some (s0 :: s1 :: s2 :: s3 :: s4 :: s5 :: some (lent o) :: r) := (rfl)
@[simp] theorem sRetMv_6 {s0 s1 s2 s3 s4 s5 : Option Sl} {o : O} {r : Env} : sRetMv 6 (s0 :: s1 :: s2 :: s3 :: s4 :: s5 :: some (.w o) :: r) = .rt o := (rfl)
@[simp] theorem frz_6 {s0 s1 s2 s3 s4 s5 : Option Sl} {o : O} {r : Env} : frz 6 (s0 :: s1 :: s2 :: s3 :: s4 :: s5 :: some (.w o) :: r) = if dz o then s0 :: s1 :: s2 :: s3 :: s4 :: s5 :: some (.w (.z (strip o))) :: r else s0 :: s1 :: s2 :: s3 :: s4 :: s5 :: some (.w o) :: r := by unfold frz; rfl
@[simp] theorem sApp_6 {s0 s1 s2 s3 s4 s5 : Option Sl} {os : List O} {r : Env} {e : EV} : sApp 6 e (s0 :: s1 :: s2 :: s3 :: s4 :: s5 :: some (.w (.l os)) :: r) = (e (s0 :: s1 :: s2 :: s3 :: s4 :: s5 :: some (.w (.l os)) :: r)).out (s0 :: s1 :: s2 :: s3 :: s4 :: s5 :: some (.w (.l os)) :: r) fun o => if os.length < lineMax ∧ nS o = true then .nx (s0 :: s1 :: s2 :: s3 :: s4 :: s5 :: some (.w (.l (os ++ [o]))) :: r) else .bad := (rfl)
@[simp] theorem sAug_6 {s0 s1 s2 s3 s4 s5 : Option Sl} {a : Int} {r : Env} {g : Int → Int → Int} {e : EV} : sAug 6 g e (s0 :: s1 :: s2 :: s3 :: s4 :: s5 :: some (.w (.z (.int a))) :: r) = (e (s0 :: s1 :: s2 :: s3 :: s4 :: s5 :: some (.w (.z (.int a))) :: r)).out (s0 :: s1 :: s2 :: s3 :: s4 :: s5 :: some (.w (.z (.int a))) :: r) fun b => match b with | .z (.int b) => .nx (s0 :: s1 :: s2 :: s3 :: s4 :: s5 :: some (.w (.z (.int (g a b)))) :: r) | _ => .bad := (rfl)
@[simp] theorem eVar_w7 {s0 s1 s2 s3 s4 s5 s6 : Option Sl} {o : O} {r : Env} : eVar 7 (s0 :: s1 :: s2 :: s3 :: s4 :: s5 :: s6 :: some (.w o) :: r) = .ok o := (rfl)
@[simp] theorem eVar_r7 {s0 s1 s2 s3 s4 s5 s6 : Option Sl} {o : O} {r : Env} : eVar 7 (s0 :: s1 :: s2 :: s3 :: s4 :: s5 :: s6 :: some (.r o) :: r) = .ok o := (rfl)
@[simp] theorem eVar_p7 {s0 s1 s2 s3 s4 s5 s6 : Option Sl} {o : O} {r : Env} : eVar 7 (s0 :: s1 :: s2 :: s3 :: s4 :: s5 :: s6 :: some (.p o) :: r) = .ok o := (rfl)
@[simp] theorem tN_7 {s0 s1 s2 s3 s4 s5 s6 : Option Sl} {o : O} {x : Option Sl} {r : Env} : tN 7 o (s0 :: s1 :: s2 :: s3 :: s4 :: s5 :: s6 :: x :: r) = some (s0 :: s1 :: s2 :: s3 :: s4 :: s5 :: s6 :: some (.w o) :: r) := (rfl)
@[simp] theorem tNr_7 {s0 s1 s2 s3 s4 s5 s6 : Option Sl} {o : O} {x : Option Sl} {r : Env} : tNr 7 o (s0 :: s1 :: s2 :: s3 :: s4 :: s5 :: s6 :: x :: r) = some (s0 :: s1 :: s2 :: s3 :: s4 :: s5 :: s6 :: some (lent o) :: r) := (rfl)
@[simp] theorem sRetMv_7 {s0 s1 s2 s3 s4 s5 s6 : Option Sl} {o : O} {r : Env} : sRetMv 7 (s0 :: s1 :: s2 :: s3 :: s4 :: s5 :: s6 :: some (.w o) :: r) = .rt o := (rfl)
@[simp] theorem frz_7 {s0 s1 s2 s3 s4 s5 s6 : Option Sl} {o : O} {r : Env} : frz 7 (s0 :: s1 :: s2 :: s3 :: s4 :: s5 :: s6 :: some (.w o) :: r) = if dz o then s0 :: s1 :: s2 :: s3 :: s4 :: s5 :: s6 :: some (.w (.z (strip o))) :: r else s0 :: s1 :: s2 :: s3 :: s4 :: s5 :: s6 :: some (.w o) :: r := by unfold frz; rfl
@[simp] theorem sApp_7 {s0 s1 s2 s3 s4 s5 s6 : Option Sl} {os : List O} {r : Env} {e : EV} : sApp 7 e (s0 :: s1 :: s2 :: s3 :: s4 :: s5 :: s6 :: some (.w (.l os)) :: r) = (e (s0 :: s1 :: s2 :: s3 :: s4 :: s5 :: s6 :: some (.w (.l os)) :: r)).out (s0 :: s1 :: s2 :: s3 :: s4 :: s5 :: s6 :: some (.w (.l os)) :: r) fun o => if os.length < lineMax ∧ nS o = true then .nx (s0 :: s1 :: s2 :: s3 :: s4 :: s5 :: s6 :: some (.w (.l (os ++ [o]))) :: r) else .bad := (rfl)
@[simp] theorem sAug_7 {s0 s1 s2 s3 s4 s5 s6 : Option Sl} {a : Int} {r : Env} {g : Int → Int → Int} {e : EV} : sAug 7 g e (s0 :: s1 :: s2 :: s3 :: s4 :: s5 :: s6 :: some (.w (.z (.int a))) :: r) = (e (s0 :: s1 :: s2 :: s3 :: s4 :: s5 :: s6 :: some (.w (.z (.int a))) :: r)).out (s0 :: s1 :: s2 :: s3 :: s4 :: s5 :: s6 :: some (.w (.z (.int a))) :: r) fun b => match b with | .z (.int b) => .nx (s0 :: s1 :: s2 :: s3 :: s4 :: s5 :: s6 :: some (.w (.z (.int (g a b)))) :: r) | _ => .bad := (rfl)
@[simp] theorem eVar_w8 {s0 s1 s2 s3 s4 s5 s6 s7 : Option Sl} {o : O} {r : Env} : eVar 8 (s0 :: s1 :: s2 :: s3 :: s4 :: s5 :: s6 :: s7 :: some (.w o) :: r) = .ok o := (rfl)
@[simp] theorem eVar_r8 {s0 s1 s2 s3 s4 s5 s6 s7 : Option Sl} {o : O} {r : Env} : eVar 8 (s0 :: s1 :: s2 :: s3 :: s4 :: s5 :: s6 :: s7 :: some (.r o) :: r) = .ok o := (rfl)
@[simp] theorem eVar_p8 {s0 s1 s2 s3 s4 s5 s6 s7 : Option Sl} {o : O} {r : Env} : eVar 8 (s0 :: s1 :: s2 :: s3 :: s4 :: s5 :: s6 :: s7 :: some (.p o) :: r) = .ok o := (rfl)
@[simp] theorem tN_8 {s0 s1 s2 s3 s4 s5 s6 s7 : Option Sl} {o : O} {x : Option Sl} {r : Env} : tN 8 o (s0 :: s1 :: s2 :: s3 :: s4 :: s5 :: s6 :: s7 :: x :: r) = some (s0 :: s1 :: s2 :: s3 :: s4 :: s5 :: s6 :: s7 :: some (.w o) :: r) := (rfl)
@[simp] theorem tNr_8 {s0 s1 s2 s3 s4 s5 s6 s7 : Option Sl} {o : O} {x : Option Sl} {r : Env} : tNr 8 o (s0 :: s1 :: s2 :: s3 :: s4 :: s5 :: s6 :: s7 :: x :: r) = some (s0 :: s1 :: s2 :: s3 :: s4 :: s5 :: s6 :: s7 :: some (lent o) :: r) := (rfl)
@[simp] theorem sRetMv_8 {s0 s1 s2 s3 s4 s5 s6 s7 : Option Sl} {o : O} {r : Env} : sRetMv 8 (s0 :: s1 :: s2 :: s3 :: s4 :: s5 :: s6 :: s7 :: some (.w o) :: r) = .rt o := (rfl)
@[simp] theorem frz_8 {s0 s1 s2 s3 s4 s5 s6 s7 : Option Sl} {o : O} {r : Env} : frz 8 (s0 :: s1 :: s2 :: s3 :: s4 :: s5 :: s6 :: s7 :: some (.w o) :: r) = if dz o then s0 :: s1 :: s2 :: s3 :: s4 :: s5 :: s6 :: s7 :: some (.w (.z (strip o))) :: r else s0 :: s1 :: s2 :: s3 :: s4 :: s5 :: s6 :: s7 :: some (.w o) :: r := by unfold frz; rfl
@[simp] theorem sApp_8 {s0 s1 s2 s3 s4 s5 s6 s7 : Option Sl} {os : List O} {r : Env} {e : EV} : sApp 8 e (s0 :: s1 :: s2 :: s3 :: s4 :: s5 :: s6 :: s7 :: some (.w (.l os)) :: r) = (e (s0 :: s1 :: s2 :: s3 :: s4 :: s5 :: s6 :: s7 :: some (.w (.l os)) :: r)).out (s0 :: s1 :: s2 :: s3 :: s4 :: s5 :: s6 :: s7 :: some (.w (.l os)) :: r) fun o => if os.length < lineMax ∧ nS o = true then .nx (s0 :: s1 :: s2 :: s3 :: s4 :: s5 :: s6 :: s7 :: some (.w (.l (os ++ [o]))) :: r) else .bad := (rfl)
@[simp] theorem sAug_8 {s0 s1 s2 s3 s4 s5 s6 s7 : Option Sl} {a : Int} {r : Env} {g : Int → Int → Int} {e : EV} : sAug 8 g e (s0 :: s1 :: s2 :: s3 :: s4 :: s5 :: s6 :: s7 :: some (.w (.z (.int a))) :: r) = (e (s0 :: s1 :: s2 :: s3 :: s4 :: s5 :: s6 :: s7 :: some (.w (.z (.int a))) :: r)).out (s0 :: s1 :: s2 :: s3 :: s4 :: s5 :: s6 :: s7 :: some (.w (.z (.int a))) :: r) fun b => match b with | .z (.int b) => .nx (s0 :: s1 :: s2 :: s3 :: s4 :: s5 :: s6 :: s7 :: some (.w (.z (.int (g a b)))) :: r) | _ => .bad := (rfl)
@[simp] theorem eVar_w9 {s0 s1 s2 s3 s4 s5 s6 s7 s8 : Option Sl} {o : O} {r : Env} : eVar 9 (s0 :: s1 :: s2 :: s3 :: s4 :: s5 :: s6 :: s7 :: s8 :: some (.w o) :: r) = .ok o := (rfl)
@[simp] theorem eVar_r9 {s0 s1 s2 s3 s4 s5 s6 s7 s8 : Option Sl} {o : O} {r : Env} : eVar 9 (s0 :: s1 :: s2 :: s3 :: s4 :: s5 :: s6 :: s7 :: s8 :: some (.r o) :: r) = .ok o := (rfl)
@[simp] theorem eVar_p9 {s0 s1 s2 s3 s4 s5 s6 s7 s8 : Option Sl} {o : O} {r : Env} : eVar 9 (s0 :: s1 :: s2 :: s3 :: s4 :: s5 :: s6 :: s7 :: s8 :: some (.p o) :: r) = .ok o := (rfl)
@[simp] theorem tN_9 {s0 s1 s2 s3 s4 s5 s6 s7 s8 : Option Sl} {o : O} {x : Option Sl} {r : Env} : tN 9 o (s0 :: s1 :: s2 :: s3 :: s4 :: s5 :: s6 :: s7 :: s8 :: x :: r) = some (s0 :: s1 :: s2 :: s3 :: s4 :: s5 :: s6 :: s7 :: s8 :: some (.w o) :: r) := (rfl)
@[simp] theorem tNr_9 {s0 s1 s2 s3 s4 s5 s6 s7 s8 : Option Sl} {o : O} {x : Option Sl} {r : Env} : tNr 9 o (s0 :: s1 :: s2 :: s3 :: s4 :: s5 :: s6 :: s7 :: s8 :: x :: r) = some (s0 :: s1 :: s2 :: s3 :: s4 :: s5 :: s6 :: s7 :: s8 :: some (lent o) :: r) := (rfl)
@[simp] theorem sRetMv_9 {s0 s1 s2 s3 s4 s5 s6 s7 s8 : Option Sl} {o : O} {r : Env} : sRetMv 9 (s0 :: s1 :: s2 :: s3 :: s4 :: s5 :: s6 :: s7 :: s8 :: some (.w o) :: r) = .rt o := (rfl)
@[simp] theorem frz_9 {s0 s1 s2 s3 s4 s5 s6 s7 s8 : Option Sl} {o : O} {r : Env} : frz 9 (s0 :: s1 :: s2 :: s3 :: s4 :: s5 :: s6 :: s7 :: s8 :: some (.w o) :: r) = if dz o then s0 :: s1 :: s2 :: s3 :: s4 :: s5 :: s6 :: s7 :: s8 :: some (.w (.z (strip o))) :: r else s0 :: s1 :: s2 :: s3 :: s4 :: s5 :: s6 :: s7 :: s8 :: some (.w o) :: r := by unfold frz; rfl
@[simp] theorem sApp_9 {s0 s1 s2 s3 s4 s5 s6 s7 s8 : Option Sl} {os : List O} {r : Env} {e : EV} : sApp 9 e (s0 :: s1 :: s2 :: s3 :: s4 :: s5 :: s6 :: s7 :: s8 :: some (.w (.l os)) :: r) = (e (s0 :: s1 :: s2 :: s3 :: s4 :: s5 :: s6 :: s7 :: s8 :: some (.w (.l os)) :: r)).out (s0 :: s1 :: s2 :: s3 :: s4 :: s5 :: s6 :: s7 :: s8 :: some (.w (.l os)) :: r) fun o => if os.length < lineMax ∧ nS o = true then .nx (s0 :: s1 :: s2 :: s3 :: s4 :: s5 :: s6 :: s7 :: s8 :: some (.w (.l (os ++ [o]))) :: r) else .bad := (rfl)
@[simp] theorem sAug_9 {s0 s1 s2 s3 s4 s5 s6 s7 s8 : Option Sl} {a : Int} {r : Env} {g : Int → Int → Int} {e : EV} : sAug 9 g e (s0 :: s1 :: s2 :: s3 :: s4 :: s5 :: s6 :: s7 :: s8 :: some (.w (.z (.int a))) :: r) = (e (s0 :: s1 :: s2 :: s3 :: s4 :: s5 :: s6 :: s7 :: s8 :: some (.w (.z (.int a))) :: r)).out (s0 :: s1 :: s2 :: s3 :: s4 :: s5 :: s6 :: s7 :: s8 :: some (.w (.z (.int a))) :: r) fun b => match b with | .z (.int b) => .nx (s0 :: s1 :: s2 :: s3 :: s4 :: s5 :: s6 :: s7 :: s8 :: some (.w (.z (.int (g a b)))) :: r) | _ => .bad := (rfl)
@[simp] theorem eVar_w10 {s0 s1 s2 s3 s4 s5 s6 s7 s8 s9 : Option Sl} {o : O} {r : Env} : eVar 10 (s0 :: s1 :: s2 :: s3 :: s4 :: s5 :: s6 :: s7 :: s8 :: s9 :: some (.w o) :: r) = .ok o := (rfl)
@[simp] theorem eVar_r10 {s0 s1 s2 s3 s4 s5 s6 s7 s8 s9 : Option Sl} {o : O} {r : Env} : eVar 10 (s0 :: s1 :: s2 :: s3 :: s4 :: s5 :: s6 :: s7 :: s8 :: s9 :: some (.r o) :: r) = .ok o := (rfl)
@[simp] theorem eVar_p10 {s0 s1 s2 s3 s4 s5 s6 s7 s8 s9 : Option Sl} {o : O} {r : Env} : eVar 10 (s0 :: s1 :: s2 :: s3 :: s4 :: s5 :: s6 :: s7 :: s8 :: s9 :: some (.p o) :: r) = .ok o := (rfl)
@[simp] theorem tN_10 {s0 s1 s2 s3 s4 s5 s6 s7 s8 s9 : Option Sl} {o : O} {x : Option Sl} {r : Env} : tN 10 o (s0 :: s1 :: s2 :: s3 :: s4 :: s5 :: s6 :: s7 :: s8 :: s9 :: x :: r) = some (s0 :: s1 :: s2 :: s3 :: s4 :: s5 :: s6 :: s7 :: s8 :: s9 :: some (.w o) :: r) := (rfl)
@[simp] theorem tNr_10 {s0 s1 s2 s3 s4 s5 s6 s7 s8 s9 : Option Sl} {o : O} {x : Option Sl} {r : Env} : tNr 10 o (s0 :: s1 :: s2 :: s3 :: s4 :: s5 :: s6 :: s7 :: s8 :: s9 :: x :: r) = some (s0 :: s1 :: s2 :: s3 :: s4 :: s5 :: s6 :: s7 :: s8 :: s9 :: some (lent o) :: r) := (rfl)
@[simp] theorem sRetMv_10 {s0 s1 s2 s3 s4 s5 s6 s7 s8 s9 : Option Sl} {o : O} {r : Env} : sRetMv 10 (s0 :: s1 :: s2 :: s3 :: s4 :: s5 :: s6 :: s7 :: s8 :: s9 :: some (.w o) :: r) = .rt o := (rfl)
@[simp] theorem frz_10 {s0 s1 s2 s3 s4 s5 s6 s7 s8 s9 : Option Sl} {o : O} {r : Env} : frz 10 (s0 :: s1 :: s2 :: s3 :: s4 :: s5 :: s6 :: s7 :: s8 :: s9 :: some (.w o) :: r) = if dz o then s0 :: s1 :: s2 :: s3 :: s4 :: s5 :: s6 :: s7 :: s8 :: s9 :: some (.w (.z (strip o))) :: r else s0 :: s1 :: s2 :: s3 :: s4 :: s5 :: s6 :: s7 :: s8 :: s9 :: some (.w o) :: r := by unfold frz; rfl
@[simp] theorem sApp_10 {s0 s1 s2 s3 s4 s5 s6 s7 s8 s9 : Option Sl} {os : List O} {r : Env} {e : EV} : sApp 10 e (s0 :: s1 :: s2 :: s3 :: s4 :: s5 :: s6 :: s7 :: s8 :: s9 :: some (.w (.l os)) :: r) = (e (s0 :: s1 :: s2 :: s3 :: s4 :: s5 :: s6 :: s7 :: s8 :: s9 :: some (.w (.l os)) :: r)).out (s0 :: s1 :: s2 :: s3 :: s4 :: s5 :: s6 :: s7 :: s8 :: s9 :: some (.w (.l os)) :: r) fun o => if os.length < lineMax ∧ nS o = true then .nx (s0 :: s1 :: s2 :: s3 :: s4 :: s5 :: s6 :: s7 :: s8 :: s9 :: some (.w (.l (os ++ [o]))) :: r) else .bad := (rfl)
@[simp] theorem sAug_10 {s0 s1 s2 s3 s4 s5 s6 s7 s8 s9 : Option Sl} {a : Int} {r : Env} {g : Int → Int → Int} {e : EV} : sAug 10 g e (s0 :: s1 :: s2 :: s3 :: s4 :: s5 :: s6 :: s7 :: s8 :: s9 :: some (.w (.z (.int a))) :: r) = (e (s0 :: s1 :: s2 :: s3 :: s4 :: s5 :: s6 :: s7 :: s8 :: s9 :: some (.w (.z (.int a))) :: r)).out (s0 :: s1 :: s2 :: s3 :: s4 :: s5 :: s6 :: s7 :: s8 :: s9 :: some (.w (.z (.int a))) :: r) fun b => match b with | .z (.int b) => .nx (s0 :: s1 :: s2 :: s3 :: s4 :: s5 :: s6 :: s7 :: s8 :: s9 :: some (.w (.z (.int (g a b)))) :: r) | _ => .bad := (rfl)
@[simp] theorem eVar_w11 {s0 s1 s2 s3 s4 s5 s6 s7 s8 s9 s10 : Option Sl} {o : O} {r : Env} : eVar 11 (s0 :: s1 :: s2 :: s3 :: s4 :: s5 :: s6 :: s7 :: s8 :: s9 :: s10 :: some (.w o) :: r) = .ok o := (rfl)
@[simp] theorem eVar_r11 {s0 s1 s2 s3 s4 s5 s6 s7 s8 s9 s10 : Option Sl} {o : O} {r : Env} : eVar 11 (s0 :: s1 :: s2 :: s3 :: s4 :: s5 :: s6 :: s7 :: s8 :: s9 :: s10 :: some (.r o) :: r) = .ok o := (rfl)
@[simp] theorem eVar_p11 {s0 s1 s2 s3 s4 s5 s6 s7 s8 s9 s10 : Option Sl} {o : O} {r : Env} : eVar 11 (s0 :: s1 :: s2 :: s3 :: s4 :: s5 :: s6 :: s7 :: s8 :: s9 :: s10 :: some (.p o) :: r) = .ok o := (rfl)
@[simp] theorem tN_11 {s0 s1 s2 s3 s4 s5 s6 s7 s8 s9 s10 : Option Sl} {o : O} {x : Option Sl} {r : Env} : tN 11 o (s0 :: s1 :: s2 :: s3 :: s4 :: s5 :: s6 :: s7 :: s8 :: s9 :: s10 :: x :: r) = some (s0 :: s1 :: s2 :: s3 :: s4 :: s5 :: s6 :: s7 :: s8 :: s9 :: s10 :: some (.w o) :: r) := (rfl)
@[simp] theorem tNr_11 {s0 s1 s2 s3 s4 s5 s6 s7 s8 s9 s10 : Option Sl} {o : O} {x : Option Sl} {r : Env} : tNr 11 o (s0 :: s1 :: s2 :: s3 :: s4 :: s5 :: s6 :: s7 :: s8 :: s9 :: s10 :: x :: r) = some (s0 :: s1 :: s2 :: s3 :: s4 :: s5 :: s6 :: s7 :: s8 :: s9 :: s10 :: some (lent o) :: r) := (rfl)
@[simp] theorem sRetMv_11 {s0 s1 s2 s3 s4 s5 s6 s7 s8 s9 s10 : Option Sl} {o : O} {r : Env} : sRetMv 11 (s0 :: s1 :: s2 :: s3 :: s4 :: s5 :: s6 :: s7 :: s8 :: s9 :: s10 :: some (.w o) :: r) = .rt o := (rfl)
@[simp] theorem frz_11 {s0 s1 s2 s3 s4 s5 s6 s7 s8 s9 s10 : Option Sl} {o : O} {r : Env} : frz 11 (s0 :: s1 :: s2 :: s3 :: s4 :: s5 :: s6 :: s7 :: s8 :: s9 :: s10 :: some (.w o) :: r) = if dz o then s0 :: s1 :: s2 :: s3 :: s4 :: s5 :: s6 :: s7 :: s8 :: s9 :: s10 :: some (.w (.z (strip o))) :: r else s0 :: s1 :: s2 :: s3 :: s4 :: s5 :: s6 :: s7 :: s8 :: s9 :: s10 :: some (.w o) :: r := by unfold frz; rfl
@[simp] theorem sApp_11 {s0 s1 s2 s3 s4 s5 s6 s7 s8 s9 s10 : Option Sl} {os : List O} {r : Env} {e : EV} : sApp 11 e (s0 :: s1 :: s2 :: s3 :: s4 :: s5 :: s6 :: s7 :: s8 :: s9 :: s10 :: some (.w (.l os)) :: r) = (e (s0 :: s1 :: s2 :: s3 :: s4 :: s5 :: s6 :: s7 :: s8 :: s9 :: s10 :: some (.w (.l os)) :: r)).out (s0 :: s1 :: s2 :: s3 :: s4 :: s5 :: s6 :: s7 :: s8 :: s9 :: s10 :: some (.w (.l os)) :: r) fun o => if os.length < lineMax ∧ nS o = true then .nx (s0 :: s1 :: s2 :: s3 :: s4 :: s5 :: s6 :: s7 :: s8 :: s9 :: s10 :: some (.w (.l (os ++ [o]))) :: r) else .bad := (rfl)
@[simp] theorem sAug_11 {s0 s1 s2 s3 s4 s5 s6 s7 s8 s9 s10 : Option Sl} {a : Int} {r : Env} {g : Int → Int → Int} {e : EV} : sAug 11 g e (s0 :: s1 :: s2 :: s3 :: s4 :: s5 :: s6 :: s7 :: s8 :: s9 :: s10 :: some (.w (.z (.int a))) :: r) = (e (s0 :: s1 :: s2 :: s3 :: s4 :: s5 :: s6 :: s7 :: s8 :: s9 :: s10 :: some (.w (.z (.int a))) :: r)).out (s0 :: s1 :: s2 :: s3 :: s4 :: s5 :: s6 :: s7 :: s8 :: s9 :: s10 :: some (.w (.z (.int a))) :: r) fun b => match b with | .z (.int b) => .nx (s0 :: s1 :: s2 :: s3 :: s4 :: s5 :: s6 :: s7 :: s8 :: s9 :: s10 :: some (.w (.z (.int (g a b)))) :: r) | _ => .bad := (rfl)
@[simp] theorem eVar_w12 {s0 s1 s2 s3 s4 s5 s6 s7 s8 s9 s10 s11 : Option Sl} {o : O} {r : Env} : eVar 12 (s0 :: s1 :: s2 :: s3 :: s4 :: s5 :: s6 :: s7 :: s8 :: s9 :: s10 :: s11 :: some (.w o) :: r) = .ok o := (rfl)
@[simp] theorem eVar_r12 {s0 s1 s2 s3 s4 s5 s6 s7 s8 s9 s10 s11 : Option Sl} {o : O} {r : Env} : eVar 12 (s0 :: s1 :: s2 :: s3 :: s4 :: s5 :: s6 :: s7 :: s8 :: s9 :: s10 :: s11 :: some (.r o) :: r) = .ok o := (rfl)
@[simp] theorem eVar_p12 {s0 s1 s2 s3 s4 s5 s6 s7 s8 s9 s10 s11 : Option Sl} {o : O} {r : Env} : eVar 12 (s0 :: s1 :: s2 :: s3 :: s4 :: s5 :: s6 :: s7 :: s8 :: s9 :: s10 :: s11 :: some (.p o) :: r) = .ok o := (rfl)
@[simp] theorem tN_12 {s0 s1 s2 s3 s4 s5 s6 s7 s8 s9 s10 s11 : Option Sl} {o : O} {x : Option Sl} {r : Env} : tN 12 o (s0 :: s1 :: s2 :: s3 :: s4 :: s5 :: s6 :: s7 :: s8 :: s9 :: s10 :: s11 :: x :: r) = some (s0 :: s1 :: s2 :: s3 :: s4 :: s5 :: s6 :: s7 :: s8 :: s9 :: s10 :: s11 :: some (.w o) :: r) := (rfl)
@[simp] theorem tNr_12 {s0 s1 s2 s3 s4 s5 s6 s7 s8 s9 s10 s11 : Option Sl} {o : O} {x : Option Sl} {r : Env} : tNr 12 o (s0 :: s1 :: s2 :: s3 :: s4 :: s5 :: s6 :: s7 :: s8 :: s9 :: s10 :: s11 :: x :: r) = some (s0 :: s1 :: s2 :: s3 :: s4 :: s5 :: s6 :: s7 :: s8 :: s9 :: s10 :: s11 :: some (lent o) :: r) := (rfl)
@[simp] theorem sRetMv_12 {s0 s1 s2 s3 s4 s5 s6 s7 s8 s9 s10 s11 : Option Sl} {o : O} {r : Env} : sRetMv 12 (s0 :: s1 :: s2 :: s3 :: s4 :: s5 :: s6 :: s7 :: s8 :: s9 :: s10 :: s11 :: some (.w o) :: r) = .rt o := (rfl)
@[simp] theorem frz_12 {s0 s1 s2 s3 s4 s5 s6 s7 s8 s9 s10 s11 : Option Sl} {o : O} {r : Env} : frz 12 (s0 :: s1 :: s2 :: s3 :: s4 :: s5 :: s6 :: s7 :: s8 :: s9 :: s10 :: s11 :: some (.w o) :: r) = if dz o then s0 :: s1 :: s2 :: s3 :: s4 :: s5 :: s6 :: s7 :: s8 :: s9 :: s10 :: s11 :: some (.w (.z (strip o))) :: r else s0 :: s1 :: s2 :: s3 :: s4 :: s5 :: s6 :: s7 :: s8 :: s9 :: s10 :: s11 :: some (.w o) :: r := by unfold frz; rfl
@[simp] theorem sApp_12 {s0 s1 s2 s3 s4 s5 s6 s7 s8 s9 s10 s11 : Option Sl} {os : List O} {r : Env} {e : EV} : sApp 12 e (s0 :: s1 :: s2 :: s3 :: s4 :: s5 :: s6 :: s7 :: s8 :: s9 :: s10 :: s11 :: some (.w (.l os)) :: r) = (e (s0 :: s1 :: s2 :: s3 :: s4 :: s5 :: s6 :: s7 :: s8 :: s9 :: s10 :: s11 :: some (.w (.l os)) :: r)).out (s0 :: s1 :: s2 :: s3 :: s4 :: s5 :: s6 :: s7 :: s8 :: s9 :: s10 :: s11 :: some (.w (.l os)) :: r) fun o => if os.length < lineMax ∧ nS o = true then .nx (s0 :: s1 :: s2 :: s3 :: s4 :: s5 :: s6 :: s7 :: s8 :: s9 :: s10 :: s11 :: some (.w (.l (os ++ [o]))) :: r) else .bad := (rfl)
@[simp] theorem sAug_12 {s0 s1 s2 s3 s4 s5 s6 s7 s8 s9 s10 s11 : Option Sl} {a : Int} {r : Env} {g : Int → Int → Int} {e : EV} : sAug 12 g e (s0 :: s1 :: s2 :: s3 :: s4 :: s5 :: s6 :: s7 :: s8 :: s9 :: s10 :: s11 :: some (.w (.z (.int a))) :: r) = (e (s0 :: s1 :: s2 :: s3 :: s4 :: s5 :: s6 :: s7 :: s8 :: s9 :: s10 :: s11 :: some (.w (.z (.int a))) :: r)).out (s0 :: s1 :: s2 :: s3 :: s4 :: s5 :: s6 :: s7 :: s8 :: s9 :: s10 :: s11 :: some (.w (.z (.int a))) :: r) fun b => match b with | .z (.int b) => .nx (s0 :: s1 :: s2 :: s3 :: s4 :: s5 :: s6 :: s7 :: s8 :: s9 :: s10 :: s11 :: some (.w (.z (.int (g a b)))) :: r) | _ => .bad := (rfl)
@[simp] theorem eVar_w13 {s0 s1 s2 s3 s4 s5 s6 s7 s8 s9 s10 s11 s12 : Option Sl} {o : O} {r : Env} : eVar 13 (s0 :: s1 :: s2 :: s3 :: s4 :: s5 :: s6 :: s7 :: s8 :: s9 :: s10 :: s11 :: s12 :: some (.w o) :: r) = .ok o := (rfl)
@[simp] theorem eVar_r13 {s0 s1 s2 s3 s4 s5 s6 s7 s8 s9 s10 s11 s12 : Option Sl} {o : O} {r : Env} : eVar 13 (s0 :: s1 :: s2 :: s3 :: s4 :: s5 :: s6 :: s7 :: s8 :: s9 :: s10 :: s11 :: s12 :: some (.r o) :: r) = .ok o := (rfl)
@[simp] theorem eVar_p13 {s0 s1 s2 s3 s4 s5 s6 s7 s8 s9 s10 s11 s12 : Option Sl} {o : O} {r : Env} : eVar 13 (s0 :: s1 :: s2 :: s3 :: s4 :: s5 :: s6 :: s7 :: s8 :: s9 :: s10 :: s11 :: s12 :: some (.p o) :: r) = .ok o := (rfl)
@[simp] theorem tN_13 {s0 s1 s2 s3 s4 s5 s6 s7 s8 s9 s10 s11 s12 : Option Sl} {o : O} {x : Option Sl} {r : Env} : tN 13 o (s0 :: s1 :: s2 :: s3 :: s4 :: s5 :: s6 :: s7 :: s8 :: s9 :: s10 :: s11 :: s12 :: x :: r) = some (s0 :: s1 :: s2 :: s3 :: s4 :: s5 :: s6 :: s7 :: s8 :: s9 :: s10 :: s11 :: s12 :: some (.w o) :: r) := (rfl)
@[simp] theorem tNr_13 {s0 s1 s2 s3 s4 s5 s6 s7 s8 s9 s10 s11 s12 : Option Sl} {o : O} {x : Option Sl} {r : Env} : tNr 13 o (s0 :: s1 :: s2 :: s3 :: s4 :: s5 :: s6 :: s7 :: s8 :: s9 :: s10 :: s11 :: s12 :: x :: r) = some (s0 :: s1 :: s2 :: s3 :: s4 :: s5 :: s6 :: s7 :: s8 :: s9 :: s10 :: s11 :: s12 :: some (lent o) :: r) := (rfl)
@[simp] theorem sRetMv_13 {s0 s1 s2 s3 s4 s5 s6 s7 s8 s9 s10 s11 s12 : Option Sl} {o : O} {r : Env} : sRetMv 13 (s0 :: s1 :: s2 :: s3 :: s4 :: s5 :: s6 :: s7 :: s8 :: s9 :: s10 :: s11 :: s12 :: some (.w o) :: r) = .rt o := (rfl)
@[simp] theorem frz_13 {s0 s1 s2 s3 s4 s5 s6 s7 s8 s9 s10 s11 s12 : Option Sl} {o : O} {r : Env} : frz 13 (s0 :: s1 :: s2 :: s3 :: s4 :: s5 :: s6 :: s7 :: s8 :: s9 :: s10 :: s11 :: s12 :: some (.w o) :: r) = if dz o then s0 :: s1 :: s2 :: s3 :: s4 :: s5 :: s6 :: s7 :: s8 :: s9 :: s10 :: s11 :: s12 :: some (.w (.z (strip o))) :: r else s0 :: s1 :: s2 :: s3 :: s4 :: s5 :: s6 :: s7 :: s8 :: s9 :: s10 :: s11 :: s12 :: some (.w o) :: r := by unfold frz; rfl
@[simp] theorem sApp_13 {s0 s1 s2 s3 s4 s5 s6 s7 s8 s9 s10 s11 s12 : Option Sl} {os : List O} {r : Env} {e : EV} : sApp 13 e (s0 :: s1 :: s2 :: s3 :: s4 :: s5 :: s6 :: s7 :: s8 :: s9 :: s10 :: s11 :: s12 :: some (.w (.l os)) :: r) = (e (s0 :: s1 :: s2 :: s3 :: s4 :: s5 :: s6 :: s7 :: s8 :: s9 :: s10 :: s11 :: s12 :: some (.w (.l os)) :: r)).out (s0 :: s1 :: s2 :: s3 :: s4 :: s5 :: s6 :: s7 :: s8 :: s9 :: s10 :: s11 :: s12 :: some (.w (.l os)) :: r) fun o => if os.length < lineMax ∧ nS o = true then .nx (s0 :: s1 :: s2 :: s3 :: s4 :: s5 :: s6 :: s7 :: s8 :: s9 :: s10 :: s11 :: s12 :: some (.w (.l (os ++ [o]))) :: r) else .bad := (rfl)
@[simp] theorem sAug_13 {s0 s1 s2 s3 s4 s5 s6 s7 s8 s9 s10 s11 s12 : Option Sl} {a : Int} {r : Env} {g : Int → Int → Int} {e : EV} : sAug 13 g e (s0 :: s1 :: s2 :: s3 :: s4 :: s5 :: s6 :: s7 :: s8 :: s9 :: s10 :: s11 :: s12 :: some (.w (.z (.int a))) :: r) = (e (s0 :: s1 :: s2 :: s3 :: s4 :: s5 :: s6 :: s7 :: s8 :: s9 :: s10 :: s11 :: s12 :: some (.w (.z (.int a))) :: r)).out (s0 :: s1 :: s2 :: s3 :: s4 :: s5 :: s6 :: s7 :: s8 :: s9 :: s10 :: s11 :: s12 :: some (.w (.z (.int a))) :: r) fun b => match b with | .z (.int b) => .nx (s0 :: s1 :: s2 :: s3 :: s4 :: s5 :: s6 :: s7 :: s8 :: s9 :: s10 :: s11 :: s12 :: some (.w (.z (.int (g a b)))) :: r) | _ => .bad := (rfl)
@[simp] theorem eVar_w14 {s0 s1 s2 s3 s4 s5 s6 s7 s8 s9 s10 s11 s12 s13 : Option Sl} {o : O} {r : Env} : eVar 14 (s0 :: s1 :: s2 :: s3 :: s4 :: s5 :: s6 :: s7 :: s8 :: s9 :: s10 :: s11 :: s12 :: s13 :: some (.w o) :: r) = .ok o := (rfl)
@[simp] theorem eVar_r14 {s0 s1 s2 s3 s4 s5 s6 s7 s8 s9 s10 s11 s12 s13 : Option Sl} {o : O} {r : Env} : eVar 14 (s0 :: s1 :: s2 :: s3 :: s4 :: s5 :: s6 :: s7 :: s8 :: s9 :: s10 :: s11 :: s12 :: s13 :: some (.r o) :: r) = .ok o := (rfl)
@[simp] theorem eVar_p14 {s0 s1 s2 s3 s4 s5 s6 s7 s8 s9 s10 s11 s12 s13 : Option Sl} {o : O} {r : Env} : eVar 14 (s0 :: s1 :: s2 :: s3 :: s4 :: s5 :: s6 :: s7 :: s8 :: s9 :: s10 :: s11 :: s12 :: s13 :: some (.p o) :: r) = .ok o := (rfl)
@[simp] theorem tN_14 {s0 s1 s2 s3 s4 s5 s6 s7 s8 s9 s10 s11 s12 s13 : Option Sl} {o : O} {x : Option Sl} {r : Env} : tN 14 o (s0 :: s1 :: s2 :: s3 :: s4 :: s5 :: s6 :: s7 :: s8 :: s9 :: s10 :: s11 :: s12 :: s13 :: x :: r) = some (s0 :: s1 :: s2 :: s3 :: s4 :: s5 :: s6 :: s7 :: s8 :: s9 :: s10 :: s11 :: s12 :: s13 :: some (.w o) :: r) := (rfl)
@[simp] theorem tNr_14 {s0 s1 s2 s3 s4 s5 s6 s7 s8 s9 s10 s11 s12 s13 : Option Sl} {o : O} {x : Option Sl} {r : Env} : tNr 14 o (s0 :: s1 :: s2 :: s3 :: s4 :: s5 :: s6 :: s7 :: s8 :: s9 :: s10 :: s11 :: s12 :: s13 :: x :: r) = some (s0 :: s1 :: s2 :: s3 :: s4 :: s5 :: s6 :: s7 :: s8 :: s9 :: s10 :: s11 :: s12 :: s13 :: some (lent o) :: r) := (rfl)
@[simp] theorem sRetMv_14 {s0 s1 s2 s3 s4 s5 s6 s7 s8 s9 s10 s11 s12 s13 : Option Sl} {o : O} {r : Env} : sRetMv 14 (s0 :: s1 :: s2 :: s3 :: s4 :: s5 :: s6 :: s7 :: s8 :: s9 :: s10 :: s11 :: s12 :: s13 :: some (.w o) :: r) = .rt o := (rfl)
@[simp] theorem frz_14 {s0 s1 s2 s3 s4 s5 s6 s7 s8 s9 s10 s11 s12 s13 : Option Sl} {o : O} {r : Env} : frz 14 (s0 :: s1 :: s2 :: s3 :: s4 :: s5 :: s6 :: s7 :: s8 :: s9 :: s10 :: s11 :: s12 :: s13 :: some (.w o) :: r) = if dz o then s0 :: s1 :: s2 :: s3 :: s4 :: s5 :: s6 :: s7 :: s8 :: s9 :: s10 :: s11 :: s12 :: s13 :: some (.w (.z (strip o))) :: r else s0 :: s1 :: s2 :: s3 :: s4 :: s5 :: s6 :: s7 :: s8 :: s9 :: s10 :: s11 :: s12 :: s13 :: some (.w o) :: r := by unfold frz; rfl
@[simp] theorem sApp_14 {s0 s1 s2 s3 s4 s5 s6 s7 s8 s9 s10 s11 s12 s13 : Option Sl} {os : List O} {r : Env} {e : EV} : sApp 14 e (s0 :: s1 :: s2 :: s3 :: s4 :: s5 :: s6 :: s7 :: s8 :: s9 :: s10 :: s11 :: s12 :: s13 :: some (.w (.l os)) :: r) = (e (s0 :: s1 :: s2 :: s3 :: s4 :: s5 :: s6 :: s7 :: s8 :: s9 :: s10 :: s11 :: s12 :: s13 :: some (.w (.l os)) :: r)).out (s0 :: s1 :: s2 :: s3 :: s4 :: s5 :: s6 :: s7 :: s8 :: s9 :: s10 :: s11 :: s12 :: s13 :: some (.w (.l os)) :: r) fun o => if os.length < lineMax ∧ nS o = true then .nx (s0 :: s1 :: s2 :: s3 :: s4 :: s5 :: s6 :: s7 :: s8 :: s9 :: s10 :: s11 :: s12 :: s13 :: some (.w (.l (os ++ [o]))) :: r) else .bad := (rfl)
@[simp] theorem sAug_14 {s0 s1 s2 s3 s4 s5 s6 s7 s8 s9 s10 s11 s12 s13 : Option Sl} {a : Int} {r : Env} {g : Int → Int → Int} {e : EV} : sAug 14 g e (s0 :: s1 :: s2 :: s3 :: s4 :: s5 :: s6 :: s7 :: s8 :: s9 :: s10 :: s11 :: s12 :: s13 :: some (.w (.z (.int a))) :: r) = (e (s0 :: s1 :: s2 :: s3 :: s4 :: s5 :: s6 :: s7 :: s8 :: s9 :: s10 :: s11 :: s12 :: s13 :: some (.w (.z (.int a))) :: r)).out (s0 :: s1 :: s2 :: s3 :: s4 :: s5 :: s6 :: s7 :: s8 :: s9 :: s10 :: s11 :: s12 :: s13 :: some (.w (.z (.int a))) :: r) fun b => match b with | .z (.int b) => .nx (s0 :: s1 :: s2 :: s3 :: s4 :: s5 :: s6 :: s7 :: s8 :: s9 :: s10 :: s11 :: s12 :: s13 :: some (.w (.z (.int (g a b)))) :: r) | _ => .bad := (rfl)
@[simp] theorem eVar_w15 {s0 s1 s2 s3 s4 s5 s6 s7 s8 s9 s10 s11 s12 s13 s14 : Option Sl} {o : O} {r : Env} : eVar 15 (s0 :: s1 :: s2 :: s3 :: s4 :: s5 :: s6 :: s7 :: s8 :: s9 :: s10 :: s11 :: s12 :: s13 :: s14 :: some (.w o) :: r) = .ok o := (rfl)
@[simp] theorem eVar_r15 {s0 s1 s2 s3 s4 s5 s6 s7 s8 s9 s10 s11 s12 s13 s14 : Option Sl} {o : O} {r : Env} : eVar 15 (s0 :: s1 :: s2 :: s3 :: s4 :: s5 :: s6 :: s7 :: s8 :: s9 :: s10 :: s11 :: s12 :: s13 :: s14 :: some (.r o) :: r) = .ok o := (rfl)
@[simp] theorem eVar_p15 {s0 s1 s2 s3 s4 s5 s6 s7 s8 s9 s10 s11 s12 s13 s14 : Option Sl} {o : O} {r : Env} : eVar 15 (s0 :: s1 :: s2 :: s3 :: s4 :: s5 :: s6 :: s7 :: s8 :: s9 :: s10 :: s11 :: s12 :: s13 :: s14 :: some (.p o) :: r) = .ok o := (rfl)
@[simp] theorem tN_15 {s0 s1 s2 s3 s4 s5 s6 s7 s8 s9 s10 s11 s12 s13 s14 : Option Sl} {o : O} {x : Option Sl} {r : Env} : tN 15 o (s0 :: s1 :: s2 :: s3 :: s4 :: s5 :: s6 :: s7 :: s8 :: s9 :: s10 :: s11 :: s12 :: s13 :: s14 :: x :: r) = some (s0 :: s1 :: s2 :: s3 :: s4 :: s5 :: s6 :: s7 :: s8 :: s9 :: s10 :: s11 :: s12 :: s13 :: s14 :: some (.w o) :: r) := (rfl)
@[simp] theorem tNr_15 {s0 s1 s2 s3 s4 s5 s6 s7 s8 s9 s10 s11 s12 s13 s14 : Option Sl} {o : O} {x : Option Sl} {r : Env} : tNr 15 o (s0 :: s1 :: s2 :: s3 :: s4 :: s5 :: s6 :: s7 :: s8 :: s9 :: s10 :: s11 :: s12 :: s13 :: s14 :: x :: r) = some (s0 :: s1 :: s2 :: s3 :: s4 :: s5 :: s6 :: s7 :: s8 :: s9 :: s10 :: s11 :: s12 :: s13 :: s14 :: some (lent o) :: r) := (rfl)
@[simp] theorem sRetMv_15 {s0 s1 s2 s3 s4 s5 s6 s7 s8 s9 s10 s11 s12 s13 s14 : Option Sl} {o : O} {r : Env} : sRetMv 15 (s0 :: s1 :: s2 :: s3 :: s4 :: s5 :: s6 :: s7 :: s8 :: s9 :: s10 :: s11 :: s12 :: s13 :: s14 :: some (.w o) :: r) = .rt o := (rfl)
@[simp] theorem frz_15 {s0 s1 s2 s3 s4 s5 s6 s7 s8 s9 s10 s11 s12 s13 s14 : Option Sl} {o : O} {r : Env} : frz 15 (s0 :: s1 :: s2 :: s3 :: s4 :: s5 :: s6 :: s7 :: s8 :: s9 :: s10 :: s11 :: s12 :: s13 :: s14 :: some (.w o) :: r) = if dz o then s0 :: s1 :: s2 :: s3 :: s4 :: s5 :: s6 :: s7 :: s8 :: s9 :: s10 :: s11 :: s12 :: s13 :: s14 :: some (.w (.z (strip o))) :: r else s0 :: s1 :: s2 :: s3 :: s4 :: s5 :: s6 :: s7 :: s8 :: s9 :: s10 :: s11 :: s12 :: s13 :: s14 :: some (.w o) :: r := by unfold frz; rfl
@[simp] theorem sApp_15 {s0 s1 s2 s3 s4 s5 s6 s7 s8 s9 s10 s11 s12 s13 s14 : Option Sl} {os : List O} {r : Env} {e : EV} : sApp 15 e (s0 :: s1 :: s2 :: s3 :: s4 :: s5 :: s6 :: s7 :: s8 :: s9 :: s10 :: s11 :: s12 :: s13 :: s14 :: some (.w (.l os)) :: r) = (e (s0 :: s1 :: s2 :: s3 :: s4 :: s5 :: s6 :: s7 :: s8 :: s9 :: s10 :: s11 :: s12 :: s13 :: s14 :: some (.w (.l os)) :: r)).out (s0 :: s1 :: s2 :: s3 :: s4 :: s5 :: s6 :: s7 :: s8 :: s9 :: s10 :: s11 :: s12 :: s13 :: s14 :: some (.w (.l os)) :: r) fun o => if os.length < lineMax ∧ nS o = true then .nx (s0 :: s1 :: s2 :: s3 :: s4 :: s5 :: s6 :: s7 :: s8 :: s9 :: s10 :: s11 :: s12 :: s13 :: s14 :: some (.w (.l (os ++ [o]))) :: r) else .bad := (rfl)
@[simp] theorem sAug_15 {s0 s1 s2 s3 s4 s5 s6 s7 s8 s9 s10 s11 s12 s13 s14 : Option Sl} {a : Int} {r : Env} {g : Int → Int → Int} {e : EV} : sAug 15 g e (s0 :: s1 :: s2 :: s3 :: s4 :: s5 :: s6 :: s7 :: s8 :: s9 :: s10 :: s11 :: s12 :: s13 :: s14 :: some (.w (.z (.int a))) :: r) = (e (s0 :: s1 :: s2 :: s3 :: s4 :: s5 :: s6 :: s7 :: s8 :: s9 :: s10 :: s11 :: s12 :: s13 :: s14 :: some (.w (.z (.int a))) :: r)).out (s0 :: s1 :: s2 :: s3 :: s4 :: s5 :: s6 :: s7 :: s8 :: s9 :: s10 :: s11 :: s12 :: s13 :: s14 :: some (.w (.z (.int a))) :: r) fun b => match b with | .z (.int b) => .nx (s0 :: s1 :: s2 :: s3 :: s4 :: s5 :: s6 :: s7 :: s8 :: s9 :: s10 :: s11 :: s12 :: s13 :: s14 :: some (.w (.z (.int (g a b)))) :: r) | _ => .bad := (rfl)
@[simp] theorem eVar_w16 {s0 s1 s2 s3 s4 s5 s6 s7 s8 s9 s10 s11 s12 s13 s14 s15 : Option Sl} {o : O} {r : Env} : eVar 16 (s0 :: s1 :: s2 :: s3 :: s4 :: s5 :: s6 :: s7 :: s8 :: s9 :: s10 :: s11 :: s12 :: s13 :: s14 :: s15 :: some (.w o) :: r) = .ok o := (rfl)
@[simp] theorem eVar_r16 {s0 s1 s2 s3 s4 s5 s6 s7 s8 s9 s10 s11 s12 s13 s14 s15 : Option Sl} {o : O} {r : Env} : eVar 16 (s0 :: s1 :: s2 :: s3 :: s4 :: s5 :: s6 :: s7 :: s8 :: s9 :: s10 :: s11 :: s12 :: s13 :: s14 :: s15 :: some (.r o) :: r) = .ok o := (rfl)
@[simp] theorem eVar_p16 {s0 s1 s2 s3 s4 s5 s6 s7 s8 s9 s10 s11 s12 s13 s14 s15 : Option Sl} {o : O} {r : Env} : eVar 16 (s0 :: s1 :: s2 :: s3 :: s4 :: s5 :: s6 :: s7 :: s8 :: s9 :: s10 :: s11 :: s12 :: s13 :: s14 :: s15 :: some (.p o) :: r) = .ok o := (rfl)
@[simp] theorem tN_16 {s0 s1 s2 s3 s4 s5 s6 s7 s8 s9 s10 s11 s12 s13 s14 s15 : Option Sl} {o : O} {x : Option Sl} {r : Env} : tN 16 o (s0 :: s1 :: s2 :: s3 :: s4 :: s5 :: s6 :: s7 :: s8 :: s9 :: s10 :: s11 :: s12 :: s13 :: s14 :: s15 :: x :: r) = some (s0 :: s1 :: s2 :: s3 :: s4 :: s5 :: s6 :: s7 :: s8 :: s9 :: s10 :: s11 :: s12 :: s13 :: s14 :: s15 :: some (.w o) :: r) := (rfl)
@[simp] theorem tNr_16 {s0 s1 s2 s3 s4 s5 s6 s7 s8 s9 s10 s11 s12 s13 s14 s15 : Option Sl} {o : O} {x : Option Sl} {r : Env} : tNr 16 o (s0 :: s1 :: s2 :: s3 :: s4 :: s5 :: s6 :: s7 :: s8 :: s9 :: s10 :: s11 :: s12 :: s13 :: s14 :: s15 :: x :: r) = some (s0 :: s1 :: s2 :: s3 :: s4 :: s5 :: s6 :: s7 :: s8 :: s9 :: s10 :: s11 :: s12 :: s13 :: s14 :: s15 :: some (lent o) :: r) := (rfl)
@[simp] theorem sRetMv_16 {s0 s1 s2 s3 s4 s5 s6 s7 s8 s9 s10 s11 s12 s13 s14 s15 : Option Sl} {o : O} {r : Env} : sRetMv 16 (s0 :: s1 :: s2 :: s3 :: s4 :: s5 :: s6 :: s7 :: s8 :: s9 :: s10 :: s11 :: s12 :: s13 :: s14 :: s15 :: some (.w o) :: r) = .rt o := (rfl)
@[simp] theorem frz_16 {s0 s1 s2 s3 s4 s5 s6 s7 s8 s9 s10 s11 s12 s13 s14 s15 : Option Sl} {o : O} {r : Env} : frz 16 (s0 :: s1 :: s2 :: s3 :: s4 :: s5 :: s6 :: s7 :: s8 :: s9 :: s10 :: s11 :: s12 :: s13 :: s14 :: s15 :: some (.w o) :: r) = if dz o then s0 :: s1 :: s2 :: s3 :: s4 :: s5 :: s6 :: s7 :: s8 :: s9 :: s10 :: s11 :: s12 :: s13 :: s14 :: s15 :: some (.w (.z (strip o))) :: r else s0 :: s1 :: s2 :: s3 :: s4 :: s5 :: s6 :: s7 :: s8 :: s9 :: s10 :: s11 :: s12 :: s13 :: s14 :: s15 :: some (.w o) :: r := by unfold frz; rfl
@[simp] theorem sApp_16 {s0 s1 s2 s3 s4 s5 s6 s7 s8 s9 s10 s11 s12 s13 s14 s15 : Option Sl} {os : List O} {r : Env} {e : EV} : sApp 16 e (s0 :: s1 :: s2 :: s3 :: s4 :: s5 :: s6 :: s7 :: s8 :: s9 :: s10 :: s11 :: s12 :: s13 :: s14 :: s15 :: some (.w (.l os)) :: r) = (e (s0 :: s1 :: s2 :: s3 :: s4 :: s5 :: s6 :: s7 :: s8 :: s9 :: s10 :: s11 :: s12 :: s13 :: s14 :: s15 :: some (.w (.l os)) :: r)).out (s0 :: s1 :: s2 :: s3 :: s4 :: s5 :: s6 :: s7 :: s8 :: s9 :: s10 :: s11 :: s12 :: s13 :: s14 :: s15 :: some (.w (.l os)) :: r) fun o => if os.length < lineMax ∧ nS o = true then .nx (s0 :: s1 :: s2 :: s3 :: s4 :: s5 :: s6 :: s7 :: s8 :: s9 :: s10 :: s11 :: s12 :: s13 :: s14 :: s15 :: some (.w (.l (os ++ [o]))) :: r) else .bad := (rfl)
@[simp] theorem sAug_16 {s0 s1 s2 s3 s4 s5 s6 s7 s8 s9 s10 s11 s12 s13 s14 s15 : Option Sl} {a : Int} {r : Env} {g : Int → Int → Int} {e : EV} : sAug 16 g e (s0 :: s1 :: s2 :: s3 :: s4 :: s5 :: s6 :: s7 :: s8 :: s9 :: s10 :: s11 :: s12 :: s13 :: s14 :: s15 :: some (.w (.z (.int a))) :: r) = (e (s0 :: s1 :: s2 :: s3 :: s4 :: s5 :: s6 :: s7 :: s8 :: s9 :: s10 :: s11 :: s12 :: s13 :: s14 :: s15 :: some (.w (.z (.int a))) :: r)).out (s0 :: s1 :: s2 :: s3 :: s4 :: s5 :: s6 :: s7 :: s8 :: s9 :: s10 :: s11 :: s12 :: s13 :: s14 :: s15 :: some (.w (.z (.int a))) :: r) fun b => match b with | .z (.int b) => .nx (s0 :: s1 :: s2 :: s3 :: s4 :: s5 :: s6 :: s7 :: s8 :: s9 :: s10 :: s11 :: s12 :: s13 :: s14 :: s15 :: some (.w (.z (.int (g a b)))) :: r) | _ => .bad := (rfl)
@[simp] theorem eVar_w17 {s0 s1 s2 s3 s4 s5 s6 s7 s8 s9 s10 s11 s12 s13 s14 s15 s16 : Option Sl} {o : O} {r : Env} : eVar 17 (s0 :: s1 :: s2 :: s3 :: s4 :: s5 :: s6 :: s7 :: s8 :: s9 :: s10 :: s11 :: s12 :: s13 :: s14 :: s15 :: s16 :: some (.w o) :: r) = .ok o := (rfl)
@[simp] theorem eVar_r17 {s0 s1 s2 s3 s4 s5 s6 s7 s8 s9 s10 s11 s12 s13 s14 s15 s16 : Option Sl} {o : O} {r : Env} : eVar 17 (s0 :: s1 :: s2 :: s3 :: s4 :: s5 :: s6 :: s7 :: s8 :: s9 :: s10 :: s11 :: s12 :: s13 :: s14 :: s15 :: s16 :: some (.r o) :: r) = .ok o := (rfl)
@[simp] theorem eVar_p17 {s0 s1 s2 s3 s4 s5 s6 s7 s8 s9 s10 s11 s12 s13 s14 s15 s16 : Option Sl} {o : O} {r : Env} : eVar 17 (s0 :: s1 :: s2 :: s3 :: s4 :: s5 :: s6 :: s7 :: s8 :: s9 :: s10 :: s11 :: s12 :: s13 :: s14 :: s15 :: s16 :: some (.p o) :: r) = .ok o := (rfl)
@[simp] theorem tN_17 {s0 s1 s2 s3 s4 s5 s6 s7 s8 s9 s10 s11 s12 s13 s14 s15 s16 : Option Sl} {o : O} {x : Option Sl} {r : Env} : tN 17 o (s0 :: s1 :: s2 :: s3 :: s4 :: s5 :: s6 :: s7 :: s8 :: s9 :: s10 :: s11 :: s12 :: s13 :: s14 :: s15 :: s16 :: x :: r) = some (s0 :: s1 :: s2 :: s3 :: s4 :: s5 :: s6 :: s7 :: s8 :: s9 :: s10 :: s11 :: s12 :: s13 :: s14 :: s15 :: s16 :: some (.w o) :: r) := (rfl)
@[simp] theorem tNr_17 {s0 s1 s2 s3 s4 s5 s6 s7 s8 s9 s10 s11 s12 s13 s14 s15 s16 : Option Sl} {o : O} {x : Option Sl} {r : Env} : tNr 17 o (s0 :: s1 :: s2 :: s3 :: s4 :: s5 :: s6 :: s7 :: s8 :: s9 :: s10 :: s11 :: s12 :: s13 :: s14 :: s15 :: s16 :: x :: r) = some (s0 :: s1 :: s2 :: s3 :: s4 :: s5 :: s6 :: s7 :: s8 :: s9 :: s10 :: s11 :: s12 :: s13 :: s14 :: s15 :: s16 :: some (lent o) :: r) := (rfl)
@[simp] theorem sRetMv_17 {s0 s1 s2 s3 s4 s5 s6 s7 s8 s9 s10 s11 s12 s13 s14 s15 s16 : Option Sl} {o : O} {r : Env} : sRetMv 17 (s0 :: s1 :: s2 :: s3 :: s4 :: s5 :: s6 :: s7 :: s8 :: s9 :: s10 :: s11 :: s12 :: s13 :: s14 :: s15 :: s16 :: some (.w o) :: r) = .rt o := (rfl)
@[simp] theorem frz_17 {s0 s1 s2 s3 s4 s5 s6 s7 s8 s9 s10 s11 s12 s13 s14 s15 s16 : Option Sl} {o : O} {r : Env} : frz 17 (s0 :: s1 :: s2 :: s3 :: s4 :: s5 :: s6 :: s7 :: s8 :: s9 :: s10 :: s11 :: s12 :: s13 :: s14 :: s15 :: s16 :: some (.w o) :: r) = if dz o then s0 :: s1 :: s2 :: s3 :: s4 :: s5 :: s6 :: s7 :: s8 :: s9 :: s10 :: s11 :: s12 :: s13 :: s14 :: s15 :: s16 :: some (.w (.z (strip o))) :: r else s0 :: s1 :: s2 :: s3 :: s4 :: s5 :: s6 :: s7 :: s8 :: s9 :: s10 :: s11 :: s12 :: s13 :: s14 :: s15 :: s16 :: some (.w o) :: r := by unfold frz; rfl
@[simp] theorem sApp_17 {s0 s1 s2 s3 s4 s5 s6 s7 s8 s9 s10 s11 s12 s13 s14 s15 s16 : Option Sl} {os : List O} {r : Env} {e : EV} : sApp 17 e (s0 :: s1 :: s2 :: s3 :: s4 :: s5 :: s6 :: s7 :: s8 :: s9 :: s10 :: s11 :: s12 :: s13 :: s14 :: s15 :: s16 :: some (.w (.l os)) :: r) = (e (s0 :: s1 :: s2 :: s3 :: s4 :: s5 :: s6 :: s7 :: s8 :: s9 :: s10 :: s11 :: s12 :: s13 :: s14 :: s15 :: s16 :: some (.w (.l os)) :: r)).out (s0 :: s1 :: s2 :: s3 :: s4 :: s5 :: s6 :: s7 :: s8 :: s9 :: s10 :: s11 :: s12 :: s13 :: s14 :: s15 :: s16 :: some (.w (.l os)) :: r) fun o => if os.length < lineMax ∧ nS o = true then .nx (s0 :: s1 :: s2 :: s3 :: s4 :: s5 :: s6 :: s7 :: s8 :: s9 :: s10 :: s11 :: s12 :: s13 :: s14 :: s15 :: s16 :: some (.w (.l (os ++ [o]))) :: r) else .bad := (rfl)
@[simp] theorem sAug_17 {s0 s1 s2 s3 s4 s5 s6 s7 s8 s9 s10 s11 s12 s13 s14 s15 s16 : Option Sl} {a : Int} {r : Env} {g : Int → Int → Int} {e : EV} : sAug 17 g e (s0 :: s1 :: s2 :: s3 :: s4 :: s5 :: s6 :: s7 :: s8 :: s9 :: s10 :: s11 :: s12 :: s13 :: s14 :: s15 :: s16 :: some (.w (.z (.int a))) :: r) = (e (s0 :: s1 :: s2 :: s3 :: s4 :: s5 :: s6 :: s7 :: s8 :: s9 :: s10 :: s11 :: s12 :: s13 :: s14 :: s15 :: s16 :: some (.w (.z (.int a))) :: r)).out (s0 :: s1 :: s2 :: s3 :: s4 :: s5 :: s6 :: s7 :: s8 :: s9 :: s10 :: s11 :: s12 :: s13 :: s14 :: s15 :: s16 :: some (.w (.z (.int a))) :: r) fun b => match b with | .z (.int b) => .nx (s0 :: s1 :: s2 :: s3 :: s4 :: s5 :: s6 :: s7 :: s8 :: s9 :: s10 :: s11 :: s12 :: s13 :: s14 :: s15 :: s16 :: some (.w (.z (.int (g a b)))) :: r) | _ => .bad := (rfl)
@[simp] theorem eVar_w18 {s0 s1 s2 s3 s4 s5 s6 s7 s8 s9 s10 s11 s12 s13 s14 s15 s16 s17 : Option Sl} {o : O} {r : Env} : eVar 18 (s0 :: s1 :: s2 :: s3 :: s4 :: s5 :: s6 :: s7 :: s8 :: s9 :: s10 :: s11 :: s12 :: s13 :: s14 :: s15 :: s16 :: s17 :: some (.w o) :: r) = .ok o := (rfl)
@[simp] theorem eVar_r18 {s0 s1 s2 s3 s4 s5 s6 s7 s8 s9 s10 s11 s12 s13 s14 s15 s16 s17 : Option Sl} {o : O} {r : Env} : eVar 18 (s0 :: s1 :: s2 :: s3 :: s4 :: s5 :: s6 :: s7 :: s8 :: s9 :: s10 :: s11 :: s12 :: s13 :: s14 :: s15 :: s16 :: s17 :: some (.r o) :: r) = .ok o := (rfl)
@[simp] theorem eVar_p18 {s0 s1 s2 s3 s4 s5 s6 s7 s8 s9 s10 s11 s12 s13 s14 s15 s16 s17 : Option Sl} {o : O} {r : Env} : eVar 18 (s0 :: s1 :: s2 :: s3 :: s4 :: s5 :: s6 :: s7 :: s8 :: s9 :: s10 :: s11 :: s12 :: s13 :: s14 :: s15 :: s16 :: s17 :: some (.p o) :: r) = .ok o := (rfl)
@[simp] theorem tN_18 {s0 s1 s2 s3 s4 s5 s6 s7 s8 s9 s10 s11 s12 s13 s14 s15 s16 s17 : Option Sl} {o : O} {x : Option Sl} {r : Env} : tN 18 o (s0 :: s1 :: s2 :: s3 :: s4 :: s5 :: s6 :: s7 :: s8 :: s9 :: s10 :: s11 :: s12 :: s13 :: s14 :: s15 :: s16 :: s17 :: x :: r) = some (s0 :: s1 :: s2 :: s3 :: s4 :: s5 :: s6 :: s7 :: s8 :: s9 :: s10 :: s11 :: s12 :: s13 :: s14 :: s15 :: s16 :: s17 :: some (.w o) :: r) := (rfl)
@[simp] theorem tNr_18 {s0 s1 s2 s3 s4 s5 s6 s7 s8 s9 s10 s11 s12 s13 s14 s15 s16 s17 : Option Sl} {o : O} {x : Option Sl} {r : Env} : tNr 18 o (s0 :: s1 :: s2 :: s3 :: s4 :: s5 :: s6 :: s7 :: s8 :: s9 :: s10 :: s11 :: s12 :: s13 :: s14 :: s15 :: s16 :: s17 :: x :: r) = some (s0 :: s1 :: s2 :: s3 :: s4 :: s5 :: s6 :: s7 :: s8 :: s9 :: s10 :: s11 :: s12 :: s13 :: s14 :: s15 :: s16 :: s17 :: some (lent o) :: r) := (rfl)
@[simp] theorem sRetMv_18 {s0 s1 s2 s3 s4 s5 s6 s7 s8 s9 s10 s11 s12 s13 s14 s15 s16 s17 : Option Sl} {o : O} {r : Env} : sRetMv 18 (s0 :: s1 :: s2 :: s3 :: s4 :: s5 :: s6 :: s7 :: s8 :: s9 :: s10 :: s11 :: s12 :: s13 :: s14 :: s15 :: s16 :: s17 :: some (.w o) :: r) = .rt o := (rfl)
@[simp] theorem frz_18 {s0 s1 s2 s3 s4 s5 s6 s7 s8 s9 s10 s11 s12 s13 s14 s15 s16 s17 : Option Sl} {o : O} {r : Env} : frz 18 (s0 :: s1 :: s2 :: s3 :: s4 :: s5 :: s6 :: s7 :: s8 :: s9 :: s10 :: s11 :: s12 :: s13 :: s14 :: s15 :: s16 :: s17 :: some (.w o) :: r) = if dz o then s0 :: s1 :: s2 :: s3 :: s4 :: s5 :: s6 :: s7 :: s8 :: s9 :: s10 :: s11 :: s12 :: s13 :: s14 :: s15 :: s16 :: s17 :: some (.w (.z (strip o))) :: r else s0 :: s1 :: s2 :: s3 :: s4 :: s5 :: s6 :: s7 :: s8 :: s9 :: s10 :: s11 :: s12 :: s13 :: s14 :: s15 :: s16 :: s17 :: some (.w o) :: r := by unfold frz; rfl
@[simp] theorem sApp_18 {s0 s1 s2 s3 s4 s5 s6 s7 s8 s9 s10 s11 s12 s13 s14 s15 s16 s17 : Option Sl} {os : List O} {r : Env} {e : EV} : sApp 18 e (s0 :: s1 :: s2 :: s3 :: s4 :: s5 :: s6 :: s7 :: s8 :: s9 :: s10 :: s11 :: s12 :: s13 :: s14 :: s15 :: s16 :: s17 :: some (.w (.l os)) :: r) = (e (s0 :: s1 :: s2 :: s3 :: s4 :: s5 :: s6 :: s7 :: s8 :: s9 :: s10 :: s11 :: s12 :: s13 :: s14 :: s15 :: s16 :: s17 :: some (.w (.l os)) :: r)).out (s0 :: s1 :: s2 :: s3 :: s4 :: s5 :: s6 :: s7 :: s8 :: s9 :: s10 :: s11 :: s12 :: s13 :: s14 :: s15 :: s16 :: s17 :: some (.w (.l os)) :: r) fun o => if os.length < lineMax ∧ nS o = true then .nx (s0 :: s1 :: s2 :: s3 :: s4 :: s5 :: s6 :: s7 :: s8 :: s9 :: s10 :: s11 :: s12 :: s13 :: s14 :: s15 :: s16 :: s17 :: some (.w (.l (os ++ [o]))) :: r) else .bad := (rfl)
@[simp] theorem sAug_18 {s0 s1 s2 s3 s4 s5 s6 s7 s8 s9 s10 s11 s12 s13 s14 s15 s16 s17 : Option Sl} {a : Int} {r : Env} {g : Int → Int → Int} {e : EV} : sAug 18 g e (s0 :: s1 :: s2 :: s3 :: s4 :: s5 :: s6 :: s7 :: s8 :: s9 :: s10 :: s11 :: s12 :: s13 :: s14 :: s15 :: s16 :: s17 :: some (.w (.z (.int a))) :: r) = (e (s0 :: s1 :: s2 :: s3 :: s4 :: s5 :: s6 :: s7 :: s8 :: s9 :: s10 :: s11 :: s12 :: s13 :: s14 :: s15 :: s16 :: s17 :: some (.w (.z (.int a))) :: r)).out (s0 :: s1 :: s2 :: s3 :: s4 :: s5 :: s6 :: s7 :: s8 :: s9 :: s10 :: s11 :: s12 :: s13 :: s14 :: s15 :: s16 :: s17 :: some (.w (.z (.int a))) :: r) fun b => match b with | .z (.int b) => .nx (s0 :: s1 :: s2 :: s3 :: s4 :: s5 :: s6 :: s7 :: s8 :: s9 :: s10 :: s11 :: s12 :: s13 :: s14 :: s15 :: s16 :: s17 :: some (.w (.z (.int (g a b)))) :: r) | _ => .bad := (rfl)
@[simp] theorem eVar_w19 {s0 s1 s2 s3 s4 s5 s6 s7 s8 s9 s10 s11 s12 s13 s14 s15 s16 s17 s18 : Option Sl} {o : O} {r : Env} : eVar 19 (s0 :: s1 :: s2 :: s3 :: s4 :: s5 :: s6 :: s7 :: s8 :: s9 :: s10 :: s11 :: s12 :: s13 :: s14 :: s15 :: s16 :: s17 :: s18 :: some (.w o) :: r) = .ok o := (rfl)
@[simp] theorem eVar_r19 {s0 s1 s2 s3 s4 s5 s6 s7 s8 s9 s10 s11 s12 s13 s14 s15 s16 s17 s18 : Option Sl} {o : O} {r : Env} : eVar 19 (s0 :: s1 :: s2 :: s3 :: s4 :: s5 :: s6 :: s7 :: s8 :: s9 :: s10 :: s11 :: s12 :: s13 :: s14 :: s15 :: s16 :: s17 :: s18 :: some (.r o) :: r) = .ok o := (rfl)
@[simp] theorem eVar_p19 {s0 s1 s2 s3 s4 s5 s6 s7 s8 s9 s10 s11 s12 s13 s14 s15 s16 s17 s18 : Option Sl} {o : O} {r : Env} : eVar 19 (s0 :: s1 :: s2 :: s3 :: s4 :: s5 :: s6 :: s7 :: s8 :: s9 :: s10 :: s11 :: s12 :: s13 :: s14 :: s15 :: s16 :: s17 :: s18 :: some (.p o) :: r) = .ok o := (rfl)
@[simp] theorem tN_19 {s0 s1 s2 s3 s4 s5 s6 s7 s8 s9 s10 s11 s12 s13 s14 s15 s16 s17 s18 : Option Sl} {o : O} {x : Option Sl} {r : Env} : tN 19 o (s0 :: s1 :: s2 :: s3 :: s4 :: s5 :: s6 :: s7 :: s8 :: s9 :: s10 :: s11 :: s12 :: s13 :: s14 :: s15 :: s16 :: s17 :: s18 :: x :: r) = some (s0 :: s1 :: s2 :: s3 :: s4 :: s5 :: s6 :: s7 :: s8 :: s9 :: s10 :: s11 :: s12 :: s13 :: s14 :: s15 :: s16 :: s17 :: s18 :: some (.w o) :: r) := (rfl)
@[simp] theorem tNr_19 {s0 s1 s2 s3 s4 s5 s6 s7 s8 s9 s10 s11 s12 s13 s14 s15 s16 s17 s18 : Option Sl} {o : O} {x : Option Sl} {r : Env} : tNr 19 o (s0 :: s1 :: s2 :: s3 :: s4 :: s5 :: s6 :: s7 :: s8 :: s9 :: s10 :: s11 :: s12 :: s13 :: s14 :: s15 :: s16 :: s17 :: s18 :: x :: r) = some (s0 :: s1 :: s2 :: s3 :: s4 :: s5 :: s6 :: s7 :: s8 :: s9 :: s10 :: s11 :: s12 :: s13 :: s14 :: s15 :: s16 :: s17 :: s18 :: some (lent o) :: r) := (rfl)
@[simp] theorem sRetMv_19 {s0 s1 s2 s3 s4 s5 s6 s7 s8 s9 s10 s11 s12 s13 s14 s15 s16 s17 s18 : Option Sl} {o : O} {r : Env} : sRetMv 19 (s0 :: s1 :: s2 :: s3 :: s4 :: s5 :: s6 :: s7 :: s8 :: s9 :: s10 :: s11 :: s12 :: s13 :: s14 :: s15 :: s16 :: s17 :: s18 :: some (.w o) :: r) = .rt o := (rfl)
@[simp] theorem frz_19 {s0 s1 s2 s3 s4 s5 s6 s7 s8 s9 s10 s11 s12 s13 s14 s15 s16 s17 s18 : Option Sl} {o : O} {r : Env} : frz 19 (s0 :: s1 :: s2 :: s3 :: s4 :: s5 :: s6 :: s7 :: s8 :: s9 :: s10 :: s11 :: s12 :: s13 :: s14 :: s15 :: s16 :: s17 :: s18 :: some (.w o) :: r) = if dz o then s0 :: s1 :: s2 :: s3 :: s4 :: s5 :: s6 :: s7 :: s8 :: s9 :: s10 :: s11 :: s12 :: s13 :: s14 :: s15 :: s16 :: s17 :: s18 :: some (.w (.z (strip o))) :: r else s0 :: s1 :: s2 :: s3 :: s4 :: s5 :: s6 :: s7 :: s8 :: s9 :: s10 :: s11 :: s12 :: s13 :: s14 :: s15 :: s16 :: s17 :: s18 :: some (.w o) :: r := by unfold frz; rfl
@[simp] theorem sApp_19 {s0 s1 s2 s3 s4 s5 s6 s7 s8 s9 s10 s11 s12 s13 s14 s15 s16 s17 s18 : Option Sl} {os : List O} {r : Env} {e : EV} : sApp 19 e (s0 :: s1 :: s2 :: s3 :: s4 :: s5 :: s6 :: s7 :: s8 :: s9 :: s10 :: s11 :: s12 :: s13 :: s14 :: s15 :: s16 :: s17 :: s18 :: some (.w (.l os)) :: r) = (e (s0 :: s1 :: s2 :: s3 :: s4 :: s5 :: s6 :: s7 :: s8 :: s9 :: s10 :: s11 :: s12 :: s13 :: s14 :: s15 :: s16 :: s17 :: s18 :: some (.w (.l os)) :: r)).out (s0 :: s1 :: s2 :: s3 :: s4 :: s5 :: s6 :: s7 :: s8 :: s9 :: s10 :: s11 :: s12 :: s13 :: s14 :: s15 :: s16 :: s17 :: s18 :: some (.w (.l os)) :: r) fun o => if os.length < lineMax ∧ nS o = true then .nx (s0 :: s1 :: s2 :: s3 :: s4 :: s5 :: s6 :: s7 :: s8 :: s9 :: s10 :: s11 :: s12 :: s13 :: s14 :: s15 :: s16 :: s17 :: s18 :: some (.w (.l (os ++ [o]))) :: r) else .bad := (rfl)
@[simp] theorem sAug_19 {s0 s1 s2 s3 s4 s5 s6 s7 s8 s9 s10 s11 s12 s13 s14 s15 s16 s17 s18 : Option Sl} {a : Int} {r : Env} {g : Int → Int → Int} {e : EV} : sAug 19 g e (s0 :: s1 :: s2 :: s3 :: s4 :: s5 :: s6 :: s7 :: s8 :: s9 :: s10 :: s11 :: s12 :: s13 :: s14 :: s15 :: s16 :: s17 :: s18 :: some (.w (.z (.int a))) :: r) = (e (s0 :: s1 :: s2 :: s3 :: s4 :: s5 :: s6 :: s7 :: s8 :: s9 :: s10 :: s11 :: s12 :: s13 :: s14 :: s15 :: s16 :: s17 :: s18 :: some (.w (.z (.int a))) :: r)).out (s0 :: s1 :: s2 :: s3 :: s4 :: s5 :: s6 :: s7 :: s8 :: s9 :: s10 :: s11 :: s12 :: s13 :: s14 :: s15 :: s16 :: s17 :: s18 :: some (.w (.z (.int a))) :: r) fun b => match b with | .z (.int b) => .nx (s0 :: s1 :: s2 :: s3 :: s4 :: s5 :: s6 :: s7 :: s8 :: s9 :: s10 :: s11 :: s12 :: s13 :: s14 :: s15 :: s16 :: s17 :: s18 :: some (.w (.z (.int (g a b)))) :: r) | _ => .bad := (rfl)
@[simp] theorem eVar_w20 {s0 s1 s2 s3 s4 s5 s6 s7 s8 s9 s10 s11 s12 s13 s14 s15 s16 s17 s18 s19 : Option Sl} {o : O} {r : Env} : eVar 20 (s0 :: s1 :: s2 :: s3 :: s4 :: s5 :: s6 :: s7 :: s8 :: s9 :: s10 :: s11 :: s12 :: s13 :: s14 :: s15 :: s16 :: s17 :: s18 :: s19 :: some (.w o) :: r) = .ok o := (rfl)
@[simp] theorem eVar_r20 {s0 s1 s2 s3 s4 s5 s6 s7 s8 s9 s10 s11 s12 s13 s14 s15 s16 s17 s18 s19 : Option Sl} {o : O} {r : Env} : eVar 20 (s0 :: s1 :: s2 :: s3 :: s4 :: s5 :: s6 :: s7 :: s8 :: s9 :: s10 :: s11 :: s12 :: s13 :: s14 :: s15 :: s16 :: s17 :: s18 :: s19 :: some (.r o) :: r) = .ok o := (rfl)
@[simp] theorem eVar_p20 {s0 s1 s2 s3 s4 s5 s6 s7 s8 s9 s10 s11 s12 s13 s14 s15 s16 s17 s18 s19 : Option Sl} {o : O} {r : Env} : eVar 20 (s0 :: s1 :: s2 :: s3 :: s4 :: s5 :: s6 :: s7 :: s8 :: s9 :: s10 :: s11 :: s12 :: s13 :: s14 :: s15 :: s16 :: s17 :: s18 :: s19 :: some (.p o) :: r) = .ok o := (rfl)
@[simp] theorem tN_20 {s0 s1 s2 s3 s4 s5 s6 s7 s8 s9 s10 s11 s12 s13 s14 s15 s16 s17 s18 s19 : Option Sl} {o : O} {x : Option Sl} {r : Env} : tN 20 o (s0 :: s1 :: s2 :: s3 :: s4 :: s5 :: s6 :: s7 :: s8 :: s9 :: s10 :: s11 :: s12 :: s13 :: s14 :: s15 :: s16 :: s17 :: s18 :: s19 :: x :: r) = some (s0 :: s1 :: s2 :: s3 :: s4 :: s5 :: s6 :: s7 :: s8 :: s9 :: s10 :: s11 :: s12 :: s13 :: s14 :: s15 :: s16 :: s17 :: s18 :: s19 :: some (.w o) :: r) := (rfl)
@[simp] theorem tNr_20 {s0 s1 s2 s3 s4 s5 s6 s7 s8 s9 s10 s11 s12 s13 s14 s15 s16 s17 s18 s19 : Option Sl} {o : O} {x : Option Sl} {r : Env} : tNr 20 o (s0 :: s1 :: s2 :: s3 :: s4 :: s5 :: s6 :: s7 :: s8 :: s9 :: s10 :: s11 :: s12 :: s13 :: s14 :: s15 :: s16 :: s17 :: s18 :: s19 :: x :: r) = some (s0 :: s1 :: s2 :: s3 :: s4 :: s5 :: s6 :: s7 :: s8 :: s9 :: s10 :: s11 :: s12 :: s13 :: s14 :: s15 :: s16 :: s17 :: s18 :: s19 :: some (lent o) :: r) := (rfl)
@[simp] theorem sRetMv_20 {s0 s1 s2 s3 s4 s5 s6 s7 s8 s9 s10 s11 s12 s13 s14 s15 s16 s17 s18 s19 : Option Sl} {o : O} {r : Env} : sRetMv 20 (s0 :: s1 :: s2 :: s3 :: s4 :: s5 :: s6 :: s7 :: s8 :: s9 :: s10 :: s11 :: s12 :: s13 :: s14 :: s15 :: s16 :: s17 :: s18 :: s19 :: some (.w o) :: r) = .rt o := (rfl)
@[simp] theorem frz_20 {s0 s1 s2 s3 s4 s5 s6 s7 s8 s9 s10 s11 s12 s13 s14 s15 s16 s17 s18 s19 : Option Sl} {o : O} {r : Env} : frz 20 (s0 :: s1 :: s2 :: s3 :: s4 :: s5 :: s6 :: s7 :: s8 :: s9 :: s10 :: s11 :: s12 :: s13 :: s14 :: s15 :: s16 :: s17 :: s18 :: s19 :: some (.w o) :: r) = if dz o then s0 :: s1 :: s2 :: s3 :: s4 :: s5 :: s6 :: s7 :: s8 :: s9 :: s10 :: s11 :: s12 :: s13 :: s14 :: s15 :: s16 :: s17 :: s18 :: s19 :: some (.w (.z (strip o))) :: r else s0 :: s1 :: s2 :: s3 :: s4 :: s5 :: s6 :: s7 :: s8 :: s9 :: s10 :: s11 :: s12 :: s13 :: s14 :: s15 :: s16 :: s17 :: s18 :: s19 :: some (.w o) :: r := by unfold frz; rfl
@[simp] theorem sApp_20 {s0 s1 s2 s3 s4 s5 s6 s7 s8 s9 s10 s11 s12 s13 s14 s15 s16 s17 s18 s19 : Option Sl} {os : List O} {r : Env} {e : EV} : sApp 20 e (s0 :: s1 :: s2 :: s3 :: s4 :: s5 :: s6 :: s7 :: s8 :: s9 :: s10 :: s11 :: s12 :: s13 :: s14 :: s15 :: s16 :: s17 :: s18 :: s19 :: some (.w (.l os)) :: r) = (e (s0 :: s1 :: s2 :: s3 :: s4 :: s5 :: s6 :: s7 :: s8 :: s9 :: s10 :: s11 :: s12 :: s13 :: s14 :: s15 :: s16 :: s17 :: s18 :: s19 :: some (.w (.l os)) :: r)).out (s0 :: s1 :: s2 :: s3 :: s4 :: s5 :: s6 :: s7 :: s8 :: s9 :: s10 :: s11 :: s12 :: s13 :: s14 :: s15 :: s16 :: s17 :: s18 :: s19 :: some (.w (.l os)) :: r) fun o => if os.length < lineMax ∧ nS o = true then .nx (s0 :: s1 :: s2 :: s3 :: s4 :: s5 :: s6 :: s7 :: s8 :: s9 :: s10 :: s11 :: s12 :: s13 :: s14 :: s15 :: s16 :: s17 :: s18 :: s19 :: some (.w (.l (os ++ [o]))) :: r) else .bad := (rfl)
@[simp] theorem sAug_20 {s0 s1 s2 s3 s4 s5 s6 s7 s8 s9 s10 s11 s12 s13 s14 s15 s16 s17 s18 s19 : Option Sl} {a : Int} {r : Env} {g : Int → Int → Int} {e : EV} : sAug 20 g e (s0 :: s1 :: s2 :: s3 :: s4 :: s5 :: s6 :: s7 :: s8 :: s9 :: s10 :: s11 :: s12 :: s13 :: s14 :: s15 :: s16 :: s17 :: s18 :: s19 :: some (.w (.z (.int a))) :: r) = (e (s0 :: s1 :: s2 :: s3 :: s4 :: s5 :: s6 :: s7 :: s8 :: s9 :: s10 :: s11 :: s12 :: s13 :: s14 :: s15 :: s16 :: s17 :: s18 :: s19 :: some (.w (.z (.int a))) :: r)).out (s0 :: s1 :: s2 :: s3 :: s4 :: s5 :: s6 :: s7 :: s8 :: s9 :: s10 :: s11 :: s12 :: s13 :: s14 :: s15 :: s16 :: s17 :: s18 :: s19 :: some (.w (.z (.int a))) :: r) fun b => match b with | .z (.int b) => .nx (s0 :: s1 :: s2 :: s3 :: s4 :: s5 :: s6 :: s7 :: s8 :: s9 :: s10 :: s11 :: s12 :: s13 :: s14 :: s15 :: s16 :: s17 :: s18 :: s19 :: some (.w (.z (.int (g a b)))) :: r) | _ => .bad := (rfl)
@[simp] theorem eVar_w21 {s0 s1 s2 s3 s4 s5 s6 s7 s8 s9 s10 s11 s12 s13 s14 s15 s16 s17 s18 s19 s20 : Option Sl} {o : O} {r : Env} : eVar 21 (s0 :: s1 :: s2 :: s3 :: s4 :: s5 :: s6 :: s7 :: s8 :: s9 :: s10 :: s11 :: s12 :: s13 :: s14 :: s15 :: s16 :: s17 :: s18 :: s19 :: s20 :: some (.w o) :: r) = .ok o := (rfl)
@[simp] theorem eVar_r21 {s0 s1 s2 s3 s4 s5 s6 s7 s8 s9 s10 s11 s12 s13 s14 s15 s16 s17 s18 s19 s20 : Option Sl} {o : O} {r : Env} : eVar 21 (s0 :: s1 :: s2 :: s3 :: s4 :: s5 :: s6 :: s7 :: s8 :: s9 :: s10 :: s11 :: s12 :: s13 :: s14 :: s15 :: s16 :: s17 :: s18 :: s19 :: s20 :: some (.r o) :: r) = .ok o := (rfl)
@[simp] theorem eVar_p21 {s0 s1 s2 s3 s4 s5 s6 s7 s8 s9 s10 s11 s12 s13 s14 s15 s16 s17 s18 s19 s20 : Option Sl} {o : O} {r : Env} : eVar 21 (s0 :: s1 :: s2 :: s3 :: s4 :: s5 :: s6 :: s7 :: s8 :: s9 :: s10 :: s11 :: s12 :: s13 :: s14 :: s15 :: s16 :: s17 :: s18 :: s19 :: s20 :: some (.p o) :: r) = .ok o := (rfl)
@[simp] theorem tN_21 {s0 s1 s2 s3 s4 s5 s6 s7 s8 s9 s10 s11 s12 s13 s14 s15 s16 s17 s18 s19 s20 : Option Sl} {o : O} {x : Option Sl} {r : Env} : tN 21 o (s0 :: s1 :: s2 :: s3 :: s4 :: s5 :: s6 :: s7 :: s8 :: s9 :: s10 :: s11 :: s12 :: s13 :: s14 :: s15 :: s16 :: s17 :: s18 :: s19 :: s20 :: x :: r) = some (s0 :: s1 :: s2 :: s3 :: s4 :: s5 :: s6 :: s7 :: s8 :: s9 :: s10 :: s11 :: s12 :: s13 :: s14 :: s15 :: s16 :: s17 :: s18 :: s19 :: s20 :: some (.w o) :: r) := (rfl)
@[simp] theorem tNr_21 {s0 s1 s2 s3 s4 s5 s6 s7 s8 s9 s10 s11 s12 s13 s14 s15 s16 s17 s18 s19 s20 : Option Sl} {o : O} {x : Option Sl} {r : Env} : tNr 21 o (s0 :: s1 :: s2 :: s3 :: s4 :: s5 :: s6 :: s7 :: s8 :: s9 :: s10 :: s11 :: s12 :: s13 :: s14 :: s15 :: s16 :: s17 :: s18 :: s19 :: s20 :: x :: r) = some (s0 :: s1 :: s2 :: s3 :: s4 :: s5 :: s6 :: s7 :: s8 :: s9 :: s10 :: s11 :: s12 :: s13 :: s14 :: s15 :: s16 :: s17 :: s18 :: s19 :: s20 :: some (lent o) :: r) := (rfl)
@[simp] theorem sRetMv_21 {s0 s1 s2 s3 s4 s5 s6 s7 s8 s9 s10 s11 s12 s13 s14 s15 s16 s17 s18 s19 s20 : Option Sl} {o : O} {r : Env} : sRetMv 21 (s0 :: s1 :: s2 :: s3 :: s4 :: s5 :: s6 :: s7 :: s8 :: s9 :: s10 :: s11 :: s12 :: s13 :: s14 :: s15 :: s16 :: s17 :: s18 :: s19 :: s20 :: some (.w o) :: r) = .rt o := (rfl)
@[simp] theorem frz_21 {s0 s1 s2 s3 s4 s5 s6 s7 s8 s9 s10 s11 s12 s13 s14 s15 s16 s17 s18 s19 s20 : Option Sl} {o : O} {r : Env} : frz 21 (s0 :: s1 :: s2 :: s3 :: s4 :: s5 :: s6 :: s7 :: s8 :: s9 :: s10 :: s11 :: s12 :: s13 :: s14 :: s15 :: s16 :: s17 :: s18 :: s19 :: s20 :: some (.w o) :: r) = if dz o then s0 :: s1 :: s2 :: s3 :: s4 :: s5 :: s6 :: s7 :: s8 :: s9 :: s10 :: s11 :: s12 :: s13 :: s14 :: s15 :: s16 :: s17 :: s18 :: s19 :: s20 :: some (.w (.z (strip o))) :: r else s0 :: s1 :: s2 :: s3 :: s4 :: s5 :: s6 :: s7 :: s8 :: s9 :: s10 :: s11 :: s12 :: s13 :: s14 :: s15 :: s16 :: s17 :: s18 :: s19 :: s20 :: some (.w o) :: r := by unfold frz; rfl
@[simp] theorem sApp_21 {s0 s1 s2 s3 s4 s5 s6 s7 s8 s9 s10 s11 s12 s13 s14 s15 s16 s17 s18 s19 s20 : Option Sl} {os : List O} {r : Env} {e : EV} : sApp 21 e (s0 :: s1 :: s2 :: s3 :: s4 :: s5 :: s6 :: s7 :: s8 :: s9 :: s10 :: s11 :: s12 :: s13 :: s14 :: s15 :: s16 :: s17 :: s18 :: s19 :: s20 :: some (.w (.l os)) :: r) = (e (s0 :: s1 :: s2 :: s3 :: s4 :: s5 :: s6 :: s7 :: s8 :: s9 :: s10 :: s11 :: s12 :: s13 :: s14 :: s15 :: s16 :: s17 :: s18 :: s19 :: s20 :: some (.w (.l os)) :: r)).out (s0 :: s1 :: s2 :: s3 :: s4 :: s5 :: s6 :: s7 :: s8 :: s9 :: s10 :: s11 :: s12 :: s13 :: s14 :: s15 :: s16 :: s17 :: s18 :: s19 :: s20 :: some (.w (.l os)) :: r) fun o => if os.length < lineMax ∧ nS o = true then .nx (s0 :: s1 :: s2 :: s3 :: s4 :: s5 :: s6 :: s7 :: s8 :: s9 :: s10 :: s11 :: s12 :: s13 :: s14 :: s15 :: s16 :: s17 :: s18 :: s19 :: s20 :: some (.w (.l (os ++ [o]))) :: r) else .bad := (rfl)
@[simp] theorem sAug_21 {s0 s1 s2 s3 s4 s5 s6 s7 s8 s9 s10 s11 s12 s13 s14 s15 s16 s17 s18 s19 s20 : Option Sl} {a : Int} {r : Env} {g : Int → Int → Int} {e : EV} : sAug 21 g e (s0 :: s1 :: s2 :: s3 :: s4 :: s5 :: s6 :: s7 :: s8 :: s9 :: s10 :: s11 :: s12 :: s13 :: s14 :: s15 :: s16 :: s17 :: s18 :: s19 :: s20 :: some (.w (.z (.int a))) :: r) = (e (s0 :: s1 :: s2 :: s3 :: s4 :: s5 :: s6 :: s7 :: s8 :: s9 :: s10 :: s11 :: s12 :: s13 :: s14 :: s15 :: s16 :: s17 :: s18 :: s19 :: s20 :: some (.w (.z (.int a))) :: r)).out (s0 :: s1 :: s2 :: s3 :: s4 :: s5 :: s6 :: s7 :: s8 :: s9 :: s10 :: s11 :: s12 :: s13 :: s14 :: s15 :: s16 :: s17 :: s18 :: s19 :: s20 :: some (.w (.z (.int a))) :: r) fun b => match b with | .z (.int b) => .nx (s0 :: s1 :: s2 :: s3 :: s4 :: s5 :: s6 :: s7 :: s8 :: s9 :: s10 :: s11 :: s12 :: s13 :: s14 :: s15 :: s16 :: s17 :: s18 :: s19 :: s20 :: some (.w (.z (.int (g a b)))) :: r) | _ => .bad := (rfl)
@[simp] theorem eVar_w22 {s0 s1 s2 s3 s4 s5 s6 s7 s8 s9 s10 s11 s12 s13 s14 s15 s16 s17 s18 s19 s20 s21 : Option Sl} {o : O} {r : Env} : eVar 22 (s0 :: s1 :: s2 :: s3 :: s4 :: s5 :: s6 :: s7 :: s8 :: s9 :: s10 :: s11 :: s12 :: s13 :: s14 :: s15 :: s16 :: s17 :: s18 :: s19 :: s20 :: s21 :: some (.w o) :: r) = .ok o := (rfl)
@[simp] theorem eVar_r22 {s0 s1 s2 s3 s4 s5 s6 s7 s8 s9 s10 s11 s12 s13 s14 s15 s16 s17 s18 s19 s20 s21 : Option Sl} {o : O} {r : Env} : eVar 22 (s0 :: s1 :: s2 :: s3 :: s4 :: s5 :: s6 :: s7 :: s8 :: s9 :: s10 :: s11 :: s12 :: s13 :: s14 :: s15 :: s16 :: s17 :: s18 :: s19 :: s20 :: s21 :: some (.r o) :: r) = .ok o := (rfl)
@[simp] theorem eVar_p22 {s0 s1 s2 s3 s4 s5 s6 s7 s8 s9 s10 s11 s12 s13 s14 s15 s16 s17 s18 s19 s20 s21 : Option Sl} {o : O} {r : Env} : eVar 22 (s0 :: s1 :: s2 :: s3 :: s4 :: s5 :: s6 :: s7 :: s8 :: s9 :: s10 :: s11 :: s12 :: s13 :: s14 :: s15 :: s16 :: s17 :: s18 :: s19 :: s20 :: s21 :: some (.p o) :: r) = .ok o := (rfl)
@[simp] theorem tN_22 {s0 s1 s2 s3 s4 s5 s6 s7 s8 s9 s10 s11 s12 s13 s14 s15 s16 s17 s18 s19 s20 s21 : Option Sl} {o : O} {x : Option Sl} {r : Env} : tN 22 o (s0 :: s1 :: s2 :: s3 :: s4 :: s5 :: s6 :: s7 :: s8 :: s9 :: s10 :: s11 :: s12 :: s13 :: s14 :: s15 :: s16 :: s17 :: s18 :: s19 :: s20 :: s21 :: x :: r) = some (s0 :: s1 :: s2 :: s3 :: s4 :: s5 :: s6 :: s7 :: s8 :: s9 :: s10 :: s11 :: s12 :: s13 :: s14 :: s15 :: s16 :: s17 :: s18 :: s19 :: s20 :: s21 :: some (.w o) :: r) := (rfl)
@[simp] theorem tNr_22 {s0 s1 s2 s3 s4 s5 s6 s7 s8 s9 s10 s11 s12 s13 s14 s15 s16 s17 s18 s19 s20 s21 : Option Sl} {o : O} {x : Option Sl} {r : Env} : tNr 22 o (s0 :: s1 :: s2 :: s3 :: s4 :: s5 :: s6 :: s7 :: s8 :: s9 :: s10 :: s11 :: s12 :: s13 :: s14 :: s15 :: s16 :: s17 :: s18 :: s19 :: s20 :: s21 :: x :: r) = some (s0 :: s1 :: s2 :: s3 :: s4 :: s5 :: s6 :: s7 :: s8 :: s9 :: s10 :: s11 :: s12 :: s13 :: s14 :: s15 :: s16 :: s17 :: s18 :: s19 :: s20 :: s21 :: some (lent o) :: r) := (rfl)
@[simp] theorem sRetMv_22 {s0 s1 s2 s3 s4 s5 s6 s7 s8 s9 s10 s11 s12 s13 s14 s15 s16 s17 s18 s19 s20 s21 : Option Sl} {o : O} {r : Env} : sRetMv 22 (s0 :: s1 :: s2 :: s3 :: s4 :: s5 :: s6 :: s7 :: s8 :: s9 :: s10 :: s11 :: s12 :: s13 :: s14 :: s15 :: s16 :: s17 :: s18 :: s19 :: s20 :: s21 :: some (.w o) :: r) = .rt o := (rfl)
@[simp] theorem frz_22 {s0 s1 s2 s3 s4 s5 s6 s7 s8 s9 s10 s11 s12 s13 s14 s15 s16 s17 s18 s19 s20 s21 : Option Sl} {o : O} {r : Env} : frz 22 (s0 :: s1 :: s2 :: s3 :: s4 :: s5 :: s6 :: s7 :: s8 :: s9 :: s10 :: s11 :: s12 :: s13 :: s14 :: s15 :: s16 :: s17 :: s18 :: s19 :: s20 :: s21 :: some (.w o) :: r) = if dz o then s0 :: s1 :: s2 :: s3 :: s4 :: s5 :: s6 :: s7 :: s8 :: s9 :: s10 :: s11 :: s12 :: s13 :: s14 :: s15 :: s16 :: s17 :: s18 :: s19 :: s20 :: s21 :: some (.w (.z (strip o))) :: r else s0 :: s1 :: s2 :: s3 :: s4 :: s5 :: s6 :: s7 :: s8 :: s9 :: s10 :: s11 :: s12 :: s13 :: s14 :: s15 :: s16 :: s17 :: s18 :: s19 :: s20 :: s21 :: some (.w o) :: r := by unfold frz; rfl
@[simp] theorem sApp_22 {s0 s1 s2 s3 s4 s5 s6 s7 s8 s9 s10 s11 s12 s13 s14 s15 s16 s17 s18 s19 s20 s21 : Option Sl} {os : List O} {r : Env} {e : EV} : sApp 22 e (s0 :: s1 :: s2 :: s3 :: s4 :: s5 :: s6 :: s7 :: s8 :: s9 :: s10 :: s11 :: s12 :: s13 :: s14 :: s15 :: s16 :: s17 :: s18 :: s19 :: s20 :: s21 :: some (.w (.l os)) :: r) = (e (s0 :: s1 :: s2 :: s3 :: s4 :: s5 :: s6 :: s7 :: s8 :: s9 :: s10 :: s11 :: s12 :: s13 :: s14 :: s15 :: s16 :: s17 :: s18 :: s19 :: s20 :: s21 :: some (.w (.l os)) :: r)).out (s0 :: s1 :: s2 :: s3 :: s4 :: s5 :: s6 :: s7 :: s8 :: s9 :: s10 :: s11 :: s12 :: s13 :: s14 :: s15 :: s16 :: s17 :: s18 :: s19 :: s20 :: s21 :: some (.w (.l os)) :: r) fun o => if os.length < lineMax ∧ nS o = true then .nx (s0 :: s1 :: s2 :: s3 :: s4 :: s5 :: s6 :: s7 :: s8 :: s9 :: s10 :: s11 :: s12 :: s13 :: s14 :: s15 :: s16 :: s17 :: s18 :: s19 :: s20 :: s21 :: some (.w (.l (os ++ [o]))) :: r) else .bad := (rfl)
@[simp] theorem sAug_22 {s0 s1 s2 s3 s4 s5 s6 s7 s8 s9 s10 s11 s12 s13 s14 s15 s16 s17 s18 s19 s20 s21 : Option Sl} {a : Int} {r : Env} {g : Int → Int → Int} {e : EV} : sAug 22 g e (s0 :: s1 :: s2 :: s3 :: s4 :: s5 :: s6 :: s7 :: s8 :: s9 :: s10 :: s11 :: s12 :: s13 :: s14 :: s15 :: s16 :: s17 :: s18 :: s19 :: s20 :: s21 :: some (.w (.z (.int a))) :: r) = (e (s0 :: s1 :: s2 :: s3 :: s4 :: s5 :: s6 :: s7 :: s8 :: s9 :: s10 :: s11 :: s12 :: s13 :: s14 :: s15 :: s16 :: s17 :: s18 :: s19 :: s20 :: s21 :: some (.w (.z (.int a))) :: r)).out (s0 :: s1 :: s2 :: s3 :: s4 :: s5 :: s6 :: s7 :: s8 :: s9 :: s10 :: s11 :: s12 :: s13 :: s14 :: s15 :: s16 :: s17 :: s18 :: s19 :: s20 :: s21 :: some (.w (.z (.int a))) :: r) fun b => match b with | .z (.int b) => .nx (s0 :: s1 :: s2 :: s3 :: s4 :: s5 :: s6 :: s7 :: s8 :: s9 :: s10 :: s11 :: s12 :: s13 :: s14 :: s15 :: s16 :: s17 :: s18 :: s19 :: s20 :: s21 :: some (.w (.z (.int (g a b)))) :: r) | _ => .bad := (rfl)
@[simp] theorem eVar_w23 {s0 s1 s2 s3 s4 s5 s6 s7 s8 s9 s10 s11 s12 s13 s14 s15 s16 s17 s18 s19 s20 s21 s22 : Option Sl} {o : O} {r : Env} : eVar 23 (s0 :: s1 :: s2 :: s3 :: s4 :: s5 :: s6 :: s7 :: s8 :: s9 :: s10 :: s11 :: s12 :: s13 :: s14 :: s15 :: s16 :: s17 :: s18 :: s19 :: s20 :: s21 :: s22 :: some (.w o) :: r) = .ok o := (rfl)
@[simp] theorem eVar_r23 {s0 s1 s2 s3 s4 s5 s6 s7 s8 s9 s10 s11 s12 s13 s14 s15 s16 s17 s18 s19 s20 s21 s22 : Option Sl} {o : O} {r : Env} : eVar 23 (s0 :: s1 :: s2 :: s3 :: s4 :: s5 :: s6 :: s7 :: s8 :: s9 :: s10 :: s11 :: s12 :: s13 :: s14 :: s15 :: s16 :: s17 :: s18 :: s19 :: s20 :: s21 :: s22 :: some (.r o) :: r) = .ok o := (rfl)
@[simp] theorem eVar_p23 {s0 s1 s2 s3 s4 s5 s6 s7 s8 s9 s10 s11 s12 s13 s14 s15 s16 s17 s18 s19 s20 s21 s22 : Option Sl} {o : O} {r : Env} : eVar 23 (s0 :: s1 :: s2 :: s3 :: s4 :: s5 :: s6 :: s7 :: s8 :: s9 :: s10 :: s11 :: s12 :: s13 :: s14 :: s15 :: s16 :: s17 :: s18 :: s19 :: s20 :: s21 :: s22 :: some (.p o) :: r) = .ok o := (rfl)
@[simp] theorem tN_23 {s0 s1 s2 s3 s4 s5 s6 s7 s8 s9 s10 s11 s12 s13 s14 s15 s16 s17 s18 s19 s20 s21 s22 : Option Sl} {o : O} {x : Option Sl} {r : Env} : tN 23 o (s0 :: s1 :: s2 :: s3 :: s4 :: s5 :: s6 :: s7 :: s8 :: s9 :: s10 :: s11 :: s12 :: s13 :: s14 :: s15 :: s16 :: s17 :: s18 :: s19 :: s20 :: s21 :: s22 :: x :: r) = some (s0 :: s1 :: s2 :: s3 :: s4 :: s5 :: s6 :: s7 :: s8 :: s9 :: s10 :: s11 :: s12 :: s13 :: s14 :: s15 :: s16 :: s17 :: s18 :: s19 :: s20 :: s21 :: s22 :: some (.w o) :: r) := (rfl)
@[simp] theorem tNr_23 {s0 s1 s2 s3 s4 s5 s6 s7 s8 s9 s10 s11 s12 s13 s14 s15 s16 s17 s18 s19 s20 s21 s22 : Option Sl} {o : O} {x : Option Sl} {r : Env} : tNr 23 o (s0 :: s1 :: s2 :: s3 :: s4 :: s5 :: s6 :: s7 :: s8 :: s9 :: s10 :: s11 :: s12 :: s13 :: s14 :: s15 :: s16 :: s17 :: s18 :: s19 :: s20 :: s21 :: s22 :: x :: r) = some (s0 :: s1 :: s2 :: s3 :: s4 :: s5 :: s6 :: s7 :: s8 :: s9 :: s10 :: s11 :: s12 :: s13 :: s14 :: s15 :: s16 :: s17 :: s18 :: s19 :: s20 :: s21 :: s22 :: some (lent o) :: r) := (rfl)
@[simp] theorem sRetMv_23 {s0 s1 s2 s3 s4 s5 s6 s7 s8 s9 s10 s11 s12 s13 s14 s15 s16 s17 s18 s19 s20 s21 s22 : Option Sl} {o : O} {r : Env} : sRetMv 23 (s0 :: s1 :: s2 :: s3 :: s4 :: s5 :: s6 :: s7 :: s8 :: s9 :: s10 :: s11 :: s12 :: s13 :: s14 :: s15 :: s16 :: s17 :: s18 :: s19 :: s20 :: s21 :: s22 :: some (.w o) :: r) = .rt o := (rfl)
@[simp] theorem frz_23 {s0 s1 s2 s3 s4 s5 s6 s7 s8 s9 s10 s11 s12 s13 s14 s15 s16 s17 s18 s19 s20 s21 s22 : Option Sl} {o : O} {r : Env} : frz 23 (s0 :: s1 :: s2 :: s3 :: s4 :: s5 :: s6 :: s7 :: s8 :: s9 :: s10 :: s11 :: s12 :: s13 :: s14 :: s15 :: s16 :: s17 :: s18 :: s19 :: s20 :: s21 :: s22 :: some (.w o) :: r) = if dz o then s0 :: s1 :: s2 :: s3 :: s4 :: s5 :: s6 :: s7 :: s8 :: s9 :: s10 :: s11 :: s12 :: s13 :: s14 :: s15 :: s16 :: s17 :: s18 :: s19 :: s20 :: s21 :: s22 :: some (.w (.z (strip o))) :: r else s0 :: s1 :: s2 :: s3 :: s4 :: s5 :: s6 :: s7 :: s8 :: s9 :: s10 :: s11 :: s12 :: s13 :: s14 :: s15 :: s16 :: s17 :: s18 :: s19 :: s20 :: s21 :: s22 :: some (.w o) :: r := by unfold frz; rfl
@[simp] theorem sApp_23 {s0 s1 s2 s3 s4 s5 s6 s7 s8 s9 s10 s11 s12 s13 s14 s15 s16 s17 s18 s19 s20 s21 s22 : Option Sl} {os : List O} {r : Env} {e : EV} : sApp 23 e (s0 :: s1 :: s2 :: s3 :: s4 :: s5 :: s6 :: s7 :: s8 :: s9 :: s10 :: s11 :: s12 :: s13 :: s14 :: s15 :: s16 :: s17 :: s18 :: s19 :: s20 :: s21 :: s22 :: some (.w (.l os)) :: r) = (e (s0 :: s1 :: s2 :: s3 :: s4 :: s5 :: s6 :: s7 :: s8 :: s9 :: s10 :: s11 :: s12 :: s13 :: s14 :: s15 :: s16 :: s17 :: s18 :: s19 :: s20 :: s21 :: s22 :: some (.w (.l os)) :: r)).out (s0 :: s1 :: s2 :: s3 :: s4 :: s5 :: s6 :: s7 :: s8 :: s9 :: s10 :: s11 :: s12 :: s13 :: s14 :: s15 :: s16 :: s17 :: s18 :: s19 :: s20 :: s21 :: s22 :: some (.w (.l os)) :: r) fun o => if os.length < lineMax ∧ nS o = true then .nx (s0 :: s1 :: s2 :: s3 :: s4 :: s5 :: s6 :: s7 :: s8 :: s9 :: s10 :: s11 :: s12 :: s13 :: s14 :: s15 :: s16 :: s17 :: s18 :: s19 :: s20 :: s21 :: s22 :: some (.w (.l (os ++ [o]))) :: r) else .bad := (rfl)
@[simp] theorem sAug_23 {s0 s1 s2 s3 s4 s5 s6 s7 s8 s9 s10 s11 s12 s13 s14 s15 s16 s17 s18 s19 s20 s21 s22 : Option Sl} {a : Int} {r : Env} {g : Int → Int → Int} {e : EV} : sAug 23 g e (s0 :: s1 :: s2 :: s3 :: s4 :: s5 :: s6 :: s7 :: s8 :: s9 :: s10 :: s11 :: s12 :: s13 :: s14 :: s15 :: s16 :: s17 :: s18 :: s19 :: s20 :: s21 :: s22 :: some (.w (.z (.int a))) :: r) = (e (s0 :: s1 :: s2 :: s3 :: s4 :: s5 :: s6 :: s7 :: s8 :: s9 :: s10 :: s11 :: s12 :: s13 :: s14 :: s15 :: s16 :: s17 :: s18 :: s19 :: s20 :: s21 :: s22 :: some (.w (.z (.int a))) :: r)).out (s0 :: s1 :: s2 :: s3 :: s4 :: s5 :: s6 :: s7 :: s8 :: s9 :: s10 :: s11 :: s12 :: s13 :: s14 :: s15 :: s16 :: s17 :: s18 :: s19 :: s20 :: s21 :: s22 :: some (.w (.z (.int a))) :: r) fun b => match b with | .z (.int b) => .nx (s0 :: s1 :: s2 :: s3 :: s4 :: s5 :: s6 :: s7 :: s8 :: s9 :: s10 :: s11 :: s12 :: s13 :: s14 :: s15 :: s16 :: s17 :: s18 :: s19 :: s20 :: s21 :: s22 :: some (.w (.z (.int (g a b)))) :: r) | _ => .bad := (rfl)
@[simp] theorem eVar_w24 {s0 s1 s2 s3 s4 s5 s6 s7 s8 s9 s10 s11 s12 s13 s14 s15 s16 s17 s18 s19 s20 s21 s22 s23 : Option Sl} {o : O} {r : Env} : eVar 24 (s0 :: s1 :: s2 :: s3 :: s4 :: s5 :: s6 :: s7 :: s8 :: s9 :: s10 :: s11 :: s12 :: s13 :: s14 :: s15 :: s16 :: s17 :: s18 :: s19 :: s20 :: s21 :: s22 :: s23 :: some (.w o) :: r) = .ok o := (rfl)
@[simp] theorem eVar_r24 {s0 s1 s2 s3 s4 s5 s6 s7 s8 s9 s10 s11 s12 s13 s14 s15 s16 s17 s18 s19 s20 s21 s22 s23 : Option Sl} {o : O} {r : Env} : eVar 24 (s0 :: s1 :: s2 :: s3 :: s4 :: s5 :: s6 :: s7 :: s8 :: s9 :: s10 :: s11 :: s12 :: s13 :: s14 :: s15 :: s16 :: s17 :: s18 :: s19 :: s20 :: s21 :: s22 :: s23 :: some (.r o) :: r) = .ok o := (rfl)
@[simp] theorem eVar_p24 {s0 s1 s2 s3 s4 s5 s6 s7 s8 s9 s10 s11 s12 s13 s14 s15 s16 s17 s18 s19 s20 s21 s22 s23 : Option Sl} {o : O} {r : Env} : eVar 24 (s0 :: s1 :: s2 :: s3 :: s4 :: s5 :: s6 :: s7 :: s8 :: s9 :: s10 :: s11 :: s12 :: s13 :: s14 :: s15 :: s16 :: s17 :: s18 :: s19 :: s20 :: s21 :: s22 :: s23 :: some (.p o) :: r) = .ok o := (rfl)
@[simp] theorem tN_24 {s0 s1 s2 s3 s4 s5 s6 s7 s8 s9 s10 s11 s12 s13 s14 s15 s16 s17 s18 s19 s20 s21 s22 s23 : Option Sl} {o : O} {x : Option Sl} {r : Env} : tN 24 o (s0 :: s1 :: s2 :: s3 :: s4 :: s5 :: s6 :: s7 :: s8 :: s9 :: s10 :: s11 :: s12 :: s13 :: s14 :: s15 :: s16 :: s17 :: s18 :: s19 :: s20 :: s21 :: s22 :: s23 :: x :: r) = some (s0 :: s1 :: s2 :: s3 :: s4 :: s5 :: s6 :: s7 :: s8 :: s9 :: s10 :: s11 :: s12 :: s13 :: s14 :: s15 :: s16 :: s17 :: s18 :: s19 :: s20 :: s21 :: s22 :: s23 :: some (.w o) :: r) := (rfl)
@[simp] theorem tNr_24 {s0 s1 s2 s3 s4 s5 s6 s7 s8 s9 s10 s11 s12 s13 s14 s15 s16 s17 s18 s19 s20 s21 s22 s23 : Option Sl} {o : O} {x : Option Sl} {r : Env} : tNr 24 o (s0 :: s1 :: s2 :: s3 :: s4 :: s5 :: s6 :: s7 :: s8 :: s9 :: s10 :: s11 :: s12 :: s13 :: s14 :: s15 :: s16 :: s17 :: s18 :: s19 :: s20 :: s21 :: s22 :: s23 :: x :: r) = some (s0 :: s1 :: s2 :: s3 :: s4 :: s5 :: s6 :: s7 :: s8 :: s9 :: s10 :: s11 :: s12 :: s13 :: s14 :: s15 :: s16 :: s17 :: s18 :: s19 :: s20 :: s21 :: s22 :: s23 :: some (lent o) :: r) := (rfl)
@[simp] theorem sRetMv_24 {s0 s1 s2 s3 s4 s5 s6 s7 s8 s9 s10 s11 s12 s13 s14 s15 s16 s17 s18 s19 s20 s21 s22 s23 : Option Sl} {o : O} {r : Env} : sRetMv 24 (s0 :: s1 :: s2 :: s3 :: s4 :: s5 :: s6 :: s7 :: s8 :: s9 :: s10 :: s11 :: s12 :: s13 :: s14 :: s15 :: s16 :: s17 :: s18 :: s19 :: s20 :: s21 :: s22 :: s23 :: some (.w o) :: r) = .rt o := (rfl)
@[simp] theorem frz_24 {s0 s1 s2 s3 s4 s5 s6 s7 s8 s9 s10 s11 s12 s13 s14 s15 s16 s17 s18 s19 s20 s21 s22 s23 : Option Sl} {o : O} {r : Env} : frz 24 (s0 :: s1 :: s2 :: s3 :: s4 :: s5 :: s6 :: s7 :: s8 :: s9 :: s10 :: s11 :: s12 :: s13 :: s14 :: s15 :: s16 :: s17 :: s18 :: s19 :: s20 :: s21 :: s22 :: s23 :: some (.w o) :: r) = if dz o then s0 :: s1 :: s2 :: s3 :: s4 :: s5 :: s6 :: s7 :: s8 :: s9 :: s10 :: s11 :: s12 :: s13 :: s14 :: s15 :: s16 :: s17 :: s18 :: s19 :: s20 :: s21 :: s22 :: s23 :: some (.w (.z (strip o))) :: r else s0 :: s1 :: s2 :: s3 :: s4 :: s5 :: s6 :: s7 :: s8 :: s9 :: s10 :: s11 :: s12 :: s13 :: s14 :: s15 :: s16 :: s17 :: s18 :: s19 :: s20 :: s21 :: s22 :: s23 :: some (.w o) :: r := by unfold frz; rfl
@[simp] theorem sApp_24 {s0 s1 s2 s3 s4 s5 s6 s7 s8 s9 s10 s11 s12 s13 s14 s15 s16 s17 s18 s19 s20 s21 s22 s23 : Option Sl} {os : List O} {r : Env} {e : EV} : sApp 24 e (s0 :: s1 :: s2 :: s3 :: s4 :: s5 :: s6 :: s7 :: s8 :: s9 :: s10 :: s11 :: s12 :: s13 :: s14 :: s15 :: s16 :: s17 :: s18 :: s19 :: s20 :: s21 :: s22 :: s23 :: some (.w (.l os)) :: r) = (e (s0 :: s1 :: s2 :: s3 :: s4 :: s5 :: s6 :: s7 :: s8 :: s9 :: s10 :: s11 :: s12 :: s13 :: s14 :: s15 :: s16 :: s17 :: s18 :: s19 :: s20 :: s21 :: s22 :: s23 :: some (.w (.l os)) :: r)).out (s0 :: s1 :: s2 :: s3 :: s4 :: s5 :: s6 :: s7 :: s8 :: s9 :: s10 :: s11 :: s12 :: s13 :: s14 :: s15 :: s16 :: s17 :: s18 :: s19 :: s20 :: s21 :: s22 :: s23 :: some (.w (.l os)) :: r) fun o => if os.length < lineMax ∧ nS o = true then .nx (s0 :: s1 :: s2 :: s3 :: s4 :: s5 :: s6 :: s7 :: s8 :: s9 :: s10 :: s11 :: s12 :: s13 :: s14 :: s15 :: s16 :: s17 :: s18 :: s19 :: s20 :: s21 :: s22 :: s23 :: some (.w (.l (os ++ [o]))) :: r) else .bad := (rfl)
@[simp] theorem sAug_24 {s0 s1 s2 s3 s4 s5 s6 s7 s8 s9 s10 s11 s12 s13 s14 s15 s16 s17 s18 s19 s20 s21 s22 s23 : Option Sl} {a : Int} {r : Env} {g : Int → Int → Int} {e : EV} : sAug 24 g e (s0 :: s1 :: s2 :: s3 :: s4 :: s5 :: s6 :: s7 :: s8 :: s9 :: s10 :: s11 :: s12 :: s13 :: s14 :: s15 :: s16 :: s17 :: s18 :: s19 :: s20 :: s21 :: s22 :: s23 :: some (.w (.z (.int a))) :: r) = (e (s0 :: s1 :: s2 :: s3 :: s4 :: s5 :: s6 :: s7 :: s8 :: s9 :: s10 :: s11 :: s12 :: s13 :: s14 :: s15 :: s16 :: s17 :: s18 :: s19 :: s20 :: s21 :: s22 :: s23 :: some (.w (.z (.int a))) :: r)).out (s0 :: s1 :: s2 :: s3 :: s4 :: s5 :: s6 :: s7 :: s8 :: s9 :: s10 :: s11 :: s12 :: s13 :: s14 :: s15 :: s16 :: s17 :: s18 :: s19 :: s20 :: s21 :: s22 :: s23 :: some (.w (.z (.int a))) :: r) fun b => match b with | .z (.int b) => .nx (s0 :: s1 :: s2 :: s3 :: s4 :: s5 :: s6 :: s7 :: s8 :: s9 :: s10 :: s11 :: s12 :: s13 :: s14 :: s15 :: s16 :: s17 :: s18 :: s19 :: s20 :: s21 :: s22 :: s23 :: some (.w (.z (.int (g a b)))) :: r) | _ => .bad := (rfl)
@[simp] theorem eVar_w25 {s0 s1 s2 s3 s4 s5 s6 s7 s8 s9 s10 s11 s12 s13 s14 s15 s16 s17 s18 s19 s20 s21 s22 s23 s24 : Option Sl} {o : O} {r : Env} : eVar 25 (s0 :: s1 :: s2 :: s3 :: s4 :: s5 :: s6 :: s7 :: s8 :: s9 :: s10 :: s11 :: s12 :: s13 :: s14 :: s15 :: s16 :: s17 :: s18 :: s19 :: s20 :: s21 :: s22 :: s23 :: s24 :: some (.w o) :: r) = .ok o := (rfl)
@[simp] theorem eVar_r25 {s0 s1 s2 s3 s4 s5 s6 s7 s8 s9 s10 s11 s12 s13 s14 s15 s16 s17 s18 s19 s20 s21 s22 s23 s24 : Option Sl} {o : O} {r : Env} : eVar 25 (s0 :: s1 :: s2 :: s3 :: s4 :: s5 :: s6 :: s7 :: s8 :: s9 :: s10 :: s11 :: s12 :: s13 :: s14 :: s15 :: s16 :: s17 :: s18 :: s19 :: s20 :: s21 :: s22 :: s23 :: s24 :: some (.r o) :: r) = .ok o := (rfl)
@[simp] theorem eVar_p25 {s0 s1 s2 s3 s4 s5 s6 s7 s8 s9 s10 s11 s12 s13 s14 s15 s16 s17 s18 s19 s20 s21 s22 s23 s24 : Option Sl} {o : O} {r : Env} : eVar 25 (s0 :: s1 :: s2 :: s3 :: s4 :: s5 :: s6 :: s7 :: s8 :: s9 :: s10 :: s11 :: s12 :: s13 :: s14 :: s15 :: s16 :: s17 :: s18 :: s19 :: s20 :: s21 :: s22 :: s23 :: s24 :: some (.p o) :: r) = .ok o := (rfl)
@[simp] theorem tN_25 {s0 s1 s2 s3 s4 s5 s6 s7 s8 s9 s10 s11 s12 s13 s14 s15 s16 s17 s18 s19 s20 s21 s22 s23 s24 : Option Sl} {o : O} {x : Option Sl} {r : Env} : tN 25 o (s0 :: s1 :: s2 :: s3 :: s4 :: s5 :: s6 :: s7 :: s8 :: s9 :: s10 :: s11 :: s12 :: s13 :: s14 :: s15 :: s16 :: s17 :: s18 :: s19 :: s20 :: s21 :: s22 :: s23 :: s24 :: x :: r) = some (s0 :: s1 :: s2 :: s3 :: s4 :: s5 :: s6 :: s7 :: s8 :: s9 :: s10 :: s11 :: s12 :: s13 :: s14 :: s15 :: s16 :: s17 :: s18 :: s19 :: s20 :: s21 :: s22 :: s23 :: s24 :: some (.w o) :: r) := (rfl)
@[simp] theorem tNr_25 {s0 s1 s2 s3 s4 s5 s6 s7 s8 s9 s10 s11 s12 s13 s14 s15 s16 s17 s18 s19 s20 s21 s22 s23 s24 : Option Sl} {o : O} {x : Option Sl} {r : Env} : tNr 25 o (s0 :: s1 :: s2 :: s3 :: s4 :: s5 :: s6 :: s7 :: s8 :: s9 :: s10 :: s11 :: s12 :: s13 :: s14 :: s15 :: s16 :: s17 :: s18 :: s19 :: s20 :: s21 :: s22 :: s23 :: s24 :: x :: r) = some (s0 :: s1 :: s2 :: s3 :: s4 :: s5 :: s6 :: s7 :: s8 :: s9 :: s10 :: s11 :: s12 :: s13 :: s14 :: s15 :: s16 :: s17 :: s18 :: s19 :: s20 :: s21 :: s22 :: s23 :: s24 :: some (lent o) :: r) := (rfl)
@[simp] theorem sRetMv_25 {s0 s1 s2 s3 s4 s5 s6 s7 s8 s9 s10 s11 s12 s13 s14 s15 s16 s17 s18 s19 s20 s21 s22 s23 s24 : Option Sl} {o : O} {r : Env} : sRetMv 25 (s0 :: s1 :: s2 :: s3 :: s4 :: s5 :: s6 :: s7 :: s8 :: s9 :: s10 :: s11 :: s12 :: s13 :: s14 :: s15 :: s16 :: s17 :: s18 :: s19 :: s20 :: s21 :: s22 :: s23 :: s24 :: some (.w o) :: r) = .rt o := (rfl)
@[simp] theorem frz_25 {s0 s1 s2 s3 s4 s5 s6 s7 s8 s9 s10 s11 s12 s13 s14 s15 s16 s17 s18 s19 s20 s21 s22 s23 s24 : Option Sl} {o : O} {r : Env} : frz 25 (s0 :: s1 :: s2 :: s3 :: s4 :: s5 :: s6 :: s7 :: s8 :: s9 :: s10 :: s11 :: s12 :: s13 :: s14 :: s15 :: s16 :: s17 :: s18 :: s19 :: s20 :: s21 :: s22 :: s23 :: s24 :: some (.w o) :: r) = if dz o then s0 :: s1 :: s2 :: s3 :: s4 :: s5 :: s6 :: s7 :: s8 :: s9 :: s10 :: s11 :: s12 :: s13 :: s14 :: s15 :: s16 :: s17 :: s18 :: s19 :: s20 :: s21 :: s22 :: s23 :: s24 :: some (.w (.z (strip o))) :: r else s0 :: s1 :: s2 :: s3 :: s4 :: s5 :: s6 :: s7 :: s8 :: s9 :: s10 :: s11 :: s12 :: s13 :: s14 :: s15 :: s16 :: s17 :: s18 :: s19 :: s20 :: s21 :: s22 :: s23 :: s24 :: some (.w o) :: r := by unfold frz; rfl
@[simp] theorem sApp_25 {s0 s1 s2 s3 s4 s5 s6 s7 s8 s9 s10 s11 s12 s13 s14 s15 s16 s17 s18 s19 s20 s21 s22 s23 s24 : Option Sl} {os : List O} {r : Env} {e : EV} : sApp 25 e (s0 :: s1 :: s2 :: s3 :: s4 :: s5 :: s6 :: s7 :: s8 :: s9 :: s10 :: s11 :: s12 :: s13 :: s14 :: s15 :: s16 :: s17 :: s18 :: s19 :: s20 :: s21 :: s22 :: s23 :: s24 :: some (.w (.l os)) :: r) = (e (s0 :: s1 :: s2 :: s3 :: s4 :: s5 :: s6 :: s7 :: s8 :: s9 :: s10 :: s11 :: s12 :: s13 :: s14 :: s15 :: s16 :: s17 :: s18 :: s19 :: s20 :: s21 :: s22 :: s23 :: s24 :: some (.w (.l os)) :: r)).out (s0 :: s1 :: s2 :: s3 :: s4 :: s5 :: s6 :: s7 :: s8 :: s9 :: s10 :: s11 :: s12 :: s13 :: s14 :: s15 :: s16 :: s17 :: s18 :: s19 :: s20 :: s21 :: s22 :: s23 :: s24 :: some (.w (.l os)) :: r) fun o => if os.length < lineMax ∧ nS o = true then .nx (s0 :: s1 :: s2 :: s3 :: s4 :: s5 :: s6 :: s7 :: s8 :: s9 :: s10 :: s11 :: s12 :: s13 :: s14 :: s15 :: s16 :: s17 :: s18 :: s19 :: s20 :: s21 :: s22 :: s23 :: s24 :: some (.w (.l (os ++ [o]))) :: r) else .bad := (rfl)
@[simp] theorem sAug_25 {s0 s1 s2 s3 s4 s5 s6 s7 s8 s9 s10 s11 s12 s13 s14 s15 s16 s17 s18 s19 s20 s21 s22 s23 s24 : Option Sl} {a : Int} {r : Env} {g : Int → Int → Int} {e : EV} : sAug 25 g e (s0 :: s1 :: s2 :: s3 :: s4 :: s5 :: s6 :: s7 :: s8 :: s9 :: s10 :: s11 :: s12 :: s13 :: s14 :: s15 :: s16 :: s17 :: s18 :: s19 :: s20 :: s21 :: s22 :: s23 :: s24 :: some (.w (.z (.int a))) :: r) = (e (s0 :: s1 :: s2 :: s3 :: s4 :: s5 :: s6 :: s7 :: s8 :: s9 :: s10 :: s11 :: s12 :: s13 :: s14 :: s15 :: s16 :: s17 :: s18 :: s19 :: s20 :: s21 :: s22 :: s23 :: s24 :: some (.w (.z (.int a))) :: r)).out (s0 :: s1 :: s2 :: s3 :: s4 :: s5 :: s6 :: s7 :: s8 :: s9 :: s10 :: s11 :: s12 :: s13 :: s14 :: s15 :: s16 :: s17 :: s18 :: s19 :: s20 :: s21 :: s22 :: s23 :: s24 :: some (.w (.z (.int a))) :: r) fun b => match b with | .z (.int b) => .nx (s0 :: s1 :: s2 :: s3 :: s4 :: s5 :: s6 :: s7 :: s8 :: s9 :: s10 :: s11 :: s12 :: s13 :: s14 :: s15 :: s16 :: s17 :: s18 :: s19 :: s20 :: s21 :: s22 :: s23 :: s24 :: some (.w (.z (.int (g a b)))) :: r) | _ => .bad := (rfl)
section
variable {ρ : Env} {f g f1 f2 f3 : EV} {o : O} {d : PyData} {t u : EB} {fs gs : ES} {i j : Int} {ds es : List PyData} {os : List O}
@[simp] theorem eC_ok : eC d ρ = .ok (.z d) := (rfl)
@[simp] theorem e1_eq {k : O → Res O} : e1 k f ρ = (f ρ).bind fun a => (k a).nox := (rfl)
@[simp] theorem e2_eq {k : O → O → Res O} : e2 k f1 f2 ρ = (f1 ρ).bind fun a => (f2 ρ).bind fun b => (k a b).nox := (rfl)
@[simp] theorem eZ_eq : eZ f ρ = (f ρ).bind fun a => (gZ a).nox := (rfl)
@[simp] theorem eFz_eq : eFz f ρ = (f ρ).bind fun a => (gFz a).nox := (rfl)
@[simp] theorem gZ_z : gZ (.z d) = .ok (.z d) := (rfl)
@[simp] theorem dz_z : dz (.z d) = true := by rw [dz]
@[simp] theorem dz_l : dz (.l os) = dzs os := by rw [dz]
@[simp] theorem dz_t : dz (.t os) = dzs os := by rw [dz]
@[simp] theorem dzs_nil : dzs [] = true := by rw [dzs]
@[simp] theorem dzs_cons {os : List O} : dzs (o :: os) = (dz o && dzs os) := by rw [dzs]
@[simp] theorem dzs_map {ds : List PyData} : dzs (ds.map .z) = true := by
  induction ds with
  | nil => simp
  | cons d ds ih => simp [ih]
@[simp] theorem gFz_z : gFz (.z d) = .ok (.z d) := by simp [gFz]
@[simp] theorem gFz_l : gFz (.l os) = if dzs os then .ok (.z (.list (os.map strip))) else .bad := by simp [gFz]
@[simp] theorem gFz_t : gFz (.t os) = if dzs os then .ok (.z (.tuple (os.map strip))) else .bad := by simp [gFz]
@[simp] theorem nS_z : nS (.z d) = true := (rfl)
@[simp] theorem nS_l : nS (.l os) = true := (rfl)
@[simp] theorem nS_t : nS (.t os) = true := (rfl)
@[simp] theorem nox_bad {α : Type} : (Res.bad : Res α).nox = .bad := (rfl)
@[simp] theorem nox_err {α : Type} {c : Str} : (Res.err c d : Res α).nox = .bad := (rfl)
@[simp] theorem aNil_ok : aNil ρ = .ok [] := (rfl)
@[simp] theorem aCons_eq {r : EA} : aCons f r ρ = (f ρ).bind fun a => (r ρ).bind fun s => .ok (a :: s) := (rfl)
@[simp] theorem eK_eq {k : List O → Res O} {r : EA} : eK k r ρ = (r ρ).bind fun s => (k s).nox := (rfl)
@[simp] theorem eCall_eq {F : List O → Res O} {r : EA} : eCall F r ρ = (r ρ).bind F := (rfl)
@[simp] theorem tB_eq : tB f ρ = (f ρ).bind bool1 := (rfl)
@[simp] theorem bool1_ok {b : Bool} : bool1 (.z (.bool b)) = .ok b := (rfl)
@[simp] theorem tV_eq : tV f ρ = (f ρ).bind truth := (rfl)
@[simp] theorem tAnd_eq : tAnd t u ρ = (t ρ).bind fun b => if b then u ρ else .ok false := (rfl)
@[simp] theorem tOr_eq : tOr t u ρ = (t ρ).bind fun b => if b then .ok true else u ρ := (rfl)
@[simp] theorem tNot_eq : tNot t ρ = (t ρ).bind fun b => .ok (!b) := (rfl)
@[simp] theorem tYes_eq : tYes ρ = .ok true := (rfl)
@[simp] theorem eAnd_eq : eAnd f g ρ = (f ρ).bind fun a => (truth a).bind fun b => if b then g ρ else .ok a := (rfl)
@[simp] theorem eOr_eq : eOr f g ρ = (f ρ).bind fun a => (truth a).bind fun b => if b then .ok a else g ρ := (rfl)
@[simp] theorem eNot_eq : eNot f ρ = (f ρ).bind fun a => (truth a).bind fun b => .ok (.z (.bool (!b))) := (rfl)
@[simp] theorem eIf_eq : eIf t f g ρ = (t ρ).bind fun b => if b then f ρ else g ρ := (rfl)
@[simp] theorem truth_b {b : Bool} : truth (.z (.bool b)) = .ok b := (rfl)
@[simp] theorem truth_i : truth (.z (.int i)) = .ok (i != 0) := (rfl)
@[simp] theorem truth_n : truth (.z .none) = .ok false := (rfl)
@[simp] theorem truth_l : truth (.z (.list ds)) = .ok (!ds.isEmpty) := (rfl)
@[simp] theorem truth_t : truth (.z (.tuple ds)) = .ok (!ds.isEmpty) := (rfl)
@[simp] theorem truth_ol : truth (.l os) = .ok (!os.isEmpty) := (rfl)
@[simp] theorem eLst_eq {r : EA} : eLst r ρ = (r ρ).bind fun os => if os.length ≤ lineMax ∧ os.all nS = true then .ok (.l os) else .bad := (rfl)
@[simp] theorem eTup_eq {r : EA} : eTup r ρ = (r ρ).bind fun os => if os.length ≤ lineMax ∧ os.all nS = true then .ok (mkT os) else .bad := (rfl)
@[simp] theorem eCut_eq {p q : Env → Res (Option Int)} : eCut f p q ρ = (f ρ).bind fun a => (p ρ).bind fun i => (q ρ).bind fun j => (gCut a i j).nox := (rfl)
@[simp] theorem eRev_eq : eRev f ρ = (f ρ).bind fun a => (gRev a).nox := (rfl)
@[simp] theorem pNo_ok : pNo ρ = .ok none := (rfl)
theorem pSo_eq : pSo f ρ = (f ρ).bind fun o => match o with | .z (.int i) => .ok (some i) | _ => .bad := (rfl)
def int1 : O → Res (Option Int)
  | .z (.int i) => .ok (some i)
  | _ => .bad
@[simp] theorem pSo_int1 : pSo f ρ = (f ρ).bind int1 := by
  unfold pSo
  cases f ρ with
  | ok o => cases o with
    | z d => cases d <;> rfl
    | _ => rfl
  | _ => rfl
@[simp] theorem int1_i : int1 (.z (.int i)) = .ok (some i) := (rfl)
@[simp] theorem eIsi_eq {ty : Ty} : eIsi ty f ρ = (f ρ).bind fun a => (gIsi ty a).nox := (rfl)
@[simp] theorem gIsi_z {ty : Ty} : gIsi ty (.z d) = .ok (.z (.bool (isTy ty d))) := (rfl)
@[simp] theorem gIsi_l {ty : Ty} : gIsi ty (.l os) = .ok (.z (.bool (isTy ty (.list [])))) := (rfl)
/-- a chain's second half -/
def chn (r : O) (k : Unit → Res O) : Res O := match r with
  | .z (.bool true) => k ()
  | .z (.bool false) => .ok (.z (.bool false))
  | _ => .bad
@[simp] theorem eCh_eq {k k' : O → O → Res O} : eCh k k' f1 f2 f3 ρ = (f1 ρ).bind fun a => (f2 ρ).bind fun b => (k a b).nox.bind fun r => chn r fun _ => (f3 ρ).bind fun c => (k' b c).nox := (rfl)
@[simp] theorem chn_b {p q : Bool} : chn (.z (.bool p)) (fun _ => .ok (.z (.bool q))) = .ok (.z (.bool (p && q))) := by cases p <;> rfl
@[simp] theorem if_and {P : Prop} [Decidable P] {q : Bool} : (if P then Res.ok q else Res.ok false) = Res.ok (decide P && q) := by by_cases h : P <;> simp [h]
@[simp] theorem if_or {P : Prop} [Decidable P] {q : Bool} : (if P then Res.ok true else Res.ok q) = Res.ok (decide P || q) := by by_cases h : P <;> simp [h]
/-! operators at the shapes that come -/
@[simp] theorem gAdd_i : gAdd (.z (.int i)) (.z (.int j)) = .ok (.z (.int (i + j))) := (rfl)
@[simp] theorem lz_z : lz (.z (.list ds)) = some ds := by simp [lz, seqO]
@[simp] theorem lz_l : lz (.l (ds.map .z)) = some ds := by simp [lz, seqO]
@[simp] theorem tz_z : tz (.z (.tuple ds)) = some ds := by simp [tz, tupO]
@[simp] theorem lz_t : lz (.z (.tuple ds)) = none := (rfl)
@[simp] theorem gSub_i : gSub (.z (.int i)) (.z (.int j)) = .ok (.z (.int (i - j))) := (rfl)
@[simp] theorem gMul_l (h : -(2 ^ 64) < i ∧ i < 2 ^ 64) : gMul (.z (.int i)) (.z (.int j)) = .ok (.z (.int (i * j))) := by simp only [gMul]; rw [if_pos (.inl h)]
@[simp] theorem gMul_r (h : -(2 ^ 64) < j ∧ j < 2 ^ 64) : gMul (.z (.int i)) (.z (.int j)) = .ok (.z (.int (i * j))) := by simp only [gMul]; rw [if_pos (.inr h)]
@[simp] theorem gMod_p (h : 0 < j) : gMod (.z (.int i)) (.z (.int j)) = .ok (.z (.int (i % j))) := by
  simp only [gMod, gI]
  rw [if_pos (by omega), Int.fmod_eq_emod_of_nonneg _ (by omega)]; rfl
@[simp] theorem gDiv_p (h : 0 < j) (h2 : j < 1073741824) : gDiv (.z (.int i)) (.z (.int j)) = .ok (.z (.int (i / j))) := by
  simp only [gDiv, gI]
  rw [if_pos (by omega), Int.fdiv_eq_ediv_of_nonneg _ (by omega)]; rfl
@[simp] theorem gPow_ok (h : 0 ≤ j ∧ j ≤ 1000000 ∧ i.natAbs < 2 ^ 64) : gPow (.z (.int i)) (.z (.int j)) = .ok (.z (.int (i ^ j.toNat))) := by
  simp only [gPow, gI]; rw [if_pos h]; rfl
@[simp] theorem gNeg_i : gNeg (.z (.int i)) = .ok (.z (.int (-i))) := (rfl)
@[simp] theorem fine_i {n : Nat} : fine n (.int i) = true := by cases n <;> rfl
@[simp] theorem fine_n {n : Nat} : fine n .none = true := by cases n <;> rfl
@[simp] theorem fine_b {n : Nat} {b : Bool} : fine n (.bool b) = true := by cases n <;> rfl
theorem fines_all : ∀ {n : Nat} {ds : List PyData}, (∀ d ∈ ds, fine n d = true) → fines n ds = true
  | n, [], _ => by cases n <;> rfl
  | n, d :: ds, h => by rw [fines, h d List.mem_cons_self, fines_all fun e he => h e (List.mem_cons_of_mem _ he)]; rfl
theorem fine_l {n : Nat} (h : ∀ d ∈ ds, fine n d = true) : fine (n + 1) (.list ds) = true := by rw [fine]; exact fines_all h
theorem fine_t {n : Nat} (h : ∀ d ∈ ds, fine n d = true) : fine (n + 1) (.tuple ds) = true := by rw [fine]; exact fines_all h
@[simp] theorem gEq_i : gEq (.z (.int i)) (.z (.int j)) = .ok (.z (.bool (i == j))) := by simp [gEq, gEqB, strO, eqD]
@[simp] theorem gNe_i : gNe (.z (.int i)) (.z (.int j)) = .ok (.z (.bool (!(i == j)))) := by simp [gNe, gEqB, strO, eqD]
@[simp] theorem gEq_s {x y : Str} : gEq (.z (.str x)) (.z (.str y)) = .ok (.z (.bool (x == y))) := by simp [gEq, gEqB, strO]
@[simp] theorem gNe_s {x y : Str} : gNe (.z (.str x)) (.z (.str y)) = .ok (.z (.bool (!(x == y)))) := by simp [gNe, gEqB, strO]
@[simp] theorem gIs_n : gIs o (.z .none) = .ok (.z (.bool (isNone o))) := (rfl)
@[simp] theorem gIsnt_n : gIsnt o (.z .none) = .ok (.z (.bool (!isNone o))) := (rfl)
@[simp] theorem isNone_n : isNone (.z .none) = true := (rfl)
@[simp] theorem isNone_i : isNone (.z (.int i)) = false := (rfl)
@[simp] theorem isNone_b {b : Bool} : isNone (.z (.bool b)) = false := (rfl)
@[simp] theorem isNone_zl : isNone (.z (.list ds)) = false := (rfl)
@[simp] theorem isNone_zt : isNone (.z (.tuple ds)) = false := (rfl)
@[simp] theorem isNone_l : isNone (.l os) = false := (rfl)
@[simp] theorem gLt_i : gLt (.z (.int i)) (.z (.int j)) = .ok (.z (.bool (decide (i < j)))) := (rfl)
@[simp] theorem gLe_i : gLe (.z (.int i)) (.z (.int j)) = .ok (.z (.bool (decide (i ≤ j)))) := (rfl)
@[simp] theorem gGt_i : gGt (.z (.int i)) (.z (.int j)) = .ok (.z (.bool (decide (j < i)))) := (rfl)
@[simp] theorem gGe_i : gGe (.z (.int i)) (.z (.int j)) = .ok (.z (.bool (decide (j ≤ i)))) := (rfl)
@[simp] theorem gEq_t2 {a b c e : Int} : gEq (.z (.tuple [.int a, .int b])) (.z (.tuple [.int c, .int e])) = .ok (.z (.bool (a == c && b == e))) := by simp [gEq, gEqB, strO, eqD, eqDs, fine, fines]
@[simp] theorem cut_2 {α : Type} {x y : α} {xs : List α} : cut (x :: y :: xs) none (some 2) = [x, y] := by
  have h : min 2 (xs.length + 1 + 1) = 2 := by omega
  simp [cut, bnd, h]
/-- an item, or none -/
def item : Option PyData → Res O
  | some d => .ok (.z d)
  | none => .bad
@[simp] theorem item_some : item (some d) = .ok (.z d) := (rfl)
theorem at_map {α β : Type} (k : α → β) (xs : List α) (i : Int) : at_ (xs.map k) i = (at_ xs i).map k := by
  unfold at_
  rw [List.length_map]
  split
  · rw [List.getElem?_map]
  · split
    · rw [List.getElem?_map]
    · rfl
theorem zOf_map (x : Option PyData) : zOf (x.map .z) = item x := by cases x <;> rfl
@[simp] theorem gIx_l : gIx (.z (.list ds)) (.z (.int i)) = item (at_ ds i) := by
  show zOf (at_ (ds.map .z) i) = _
  rw [at_map, zOf_map]
@[simp] theorem gIx_t : gIx (.z (.tuple ds)) (.z (.int i)) = item (at_ ds i) := by
  show zOf (at_ (ds.map .z) i) = _
  rw [at_map, zOf_map]
@[simp] theorem gIx_ol : gIx (.l (ds.map .z)) (.z (.int i)) = item (at_ ds i) := by
  show zOf (at_ (ds.map .z) i) = _
  rw [at_map, zOf_map]
theorem gIx_lo : gIx (.l os) (.z (.int i)) = zOf (at_ os i) := (rfl)
@[simp] theorem gIx_s {ns : List Int} : gIx (.s ns) (.z (.int i)) = item ((at_ ns i).map .int) := by
  show zOf ((at_ ns i).map fun n => .z (.int n)) = _
  cases at_ ns i <;> rfl
theorem at_n {α : Type} {xs : List α} {k : Nat} : at_ xs (k : Int) = xs[k]? := by
  unfold at_
  rw [if_pos (by omega), Int.toNat_natCast]
theorem at_p {α : Type} {xs : List α} (h : 0 ≤ i) : at_ xs i = xs[i.toNat]? := by
  unfold at_
  rw [if_pos h]
@[simp] theorem at_0 {α : Type} {x : α} {xs : List α} : at_ (x :: xs) 0 = some x := (rfl)
@[simp] theorem at_1 {α : Type} {x y : α} {xs : List α} : at_ (x :: y :: xs) 1 = some y := (rfl)
@[simp] theorem at_2 {α : Type} {x y z : α} {xs : List α} : at_ (x :: y :: z :: xs) 2 = some z := (rfl)
@[simp] theorem at_3 {α : Type} {x y z w : α} {xs : List α} : at_ (x :: y :: z :: w :: xs) 3 = some w := (rfl)
theorem at_last {α : Type} {x : α} {xs : List α} : at_ (xs ++ [x]) (-1) = some x := by
  unfold at_
  have e : ((-1 : Int) + ((xs ++ [x]).length : Int)).toNat = xs.length := by
    rw [List.length_append, List.length_singleton]; omega
  rw [if_neg (by omega), if_pos (by rw [List.length_append, List.length_singleton]; omega), e]
  simp
@[simp] theorem kLen_z : kLen [.z (.list ds)] = .ok (.z (.int ds.length)) := by simp [kLen, seqO]
@[simp] theorem kLen_t : kLen [.z (.tuple ds)] = .ok (.z (.int ds.length)) := by simp [kLen, seqO, tupO]
@[simp] theorem kLen_l : kLen [.l os] = .ok (.z (.int os.length)) := (rfl)
@[simp] theorem kLen_s {ns : List Int} : kLen [.s ns] = .ok (.z (.int ns.length)) := (rfl)
@[simp] theorem kAbs_i : kAbs [.z (.int i)] = .ok (.z (.int (if i < 0 then -i else i))) := (rfl)
@[simp] theorem kInt_i : kInt [.z (.int i)] = .ok (.z (.int i)) := (rfl)
@[simp] theorem kInt_b {b : Bool} : kInt [.z (.bool b)] = .ok (.z (.int (if b then 1 else 0))) := (rfl)
@[simp] theorem kMin2_i : kMin2 [.z (.int i), .z (.int j)] = .ok (.z (.int (if j < i then j else i))) := (rfl)
@[simp] theorem kMax2_i : kMax2 [.z (.int i), .z (.int j)] = .ok (.z (.int (if j > i then j else i))) := (rfl)
@[simp] theorem kList_l : kList [.z (.list ds)] = .ok (.l (ds.map .z)) := by simp [kList]
@[simp] theorem kList_t : kList [.z (.tuple ds)] = .ok (.l (ds.map .z)) := by simp [kList, lz, seqO]
@[simp] theorem gCut_l {lo hi : Option Int} : gCut (.z (.list ds)) lo hi = .ok (.l ((cut ds lo hi).map .z)) := by simp [gCut]
@[simp] theorem gCut_ol {lo hi : Option Int} : gCut (.l (ds.map .z)) lo hi = .ok (.l ((cut ds lo hi).map .z)) := by simp [gCut]
@[simp] theorem gCut_t {lo hi : Option Int} : gCut (.z (.tuple ds)) lo hi = .ok (.z (.tuple (cut ds lo hi))) := by simp [gCut]
@[simp] theorem gRev_l : gRev (.z (.list ds)) = .ok (.l (ds.reverse.map .z)) := by simp [gRev]
@[simp] theorem mkT_z : mkT (ds.map .z) = .z (.tuple ds) := by simp [mkT]
@[simp] theorem mkT_2 {a b : PyData} : mkT [.z a, .z b] = .z (.tuple [a, b]) := (rfl)
@[simp] theorem mkT_1 {a : PyData} : mkT [.z a] = .z (.tuple [a]) := (rfl)
@[simp] theorem mkT_0 : mkT [] = .z (.tuple []) := (rfl)
@[simp] theorem mkT_3 {a b c : PyData} : mkT [.z a, .z b, .z c] = .z (.tuple [a, b, c]) := (rfl)
@[simp] theorem mkT_4 {a b c e : PyData} : mkT [.z a, .z b, .z c, .z e] = .z (.tuple [a, b, c, e]) := (rfl)
@[simp] theorem strip_map : (ds.map O.z).map strip = ds := by simp [Function.comp_def]
@[simp] theorem iSeqZ_eq : iSeqZ f ρ = (f ρ).bind fun a => match a with | .z (.list ds) => .ok (ds.map .z) | .z (.tuple ds) => .ok (ds.map .z) | _ => .bad := (rfl)
@[simp] theorem ml_0 : 0 < lineMax := by decide
@[simp] theorem ml_1 : 1 < lineMax := by decide
@[simp] theorem ml_2 : 2 < lineMax := by decide
@[simp] theorem ml_3 : 3 < lineMax := by decide
@[simp] theorem ml_4 : 4 < lineMax := by decide
@[simp] theorem ml_5 : 5 < lineMax := by decide
@[simp] theorem ml_6 : 6 < lineMax := by decide
@[simp] theorem ml_7 : 7 < lineMax := by decide
@[simp] theorem ml_8 : 8 < lineMax := by decide
@[simp] theorem ml_9 : 9 < lineMax := by decide
@[simp] theorem ml_10 : 10 < lineMax := by decide
@[simp] theorem ml_11 : 11 < lineMax := by decide
@[simp] theorem ml_12 : 12 < lineMax := by decide
@[simp] theorem lm_1 : 1 ≤ lineMax := by decide
@[simp] theorem lm_2 : 2 ≤ lineMax := by decide
@[simp] theorem lm_3 : 3 ≤ lineMax := by decide
@[simp] theorem lm_4 : 4 ≤ lineMax := by decide
@[simp] theorem lm_5 : 5 ≤ lineMax := by decide
@[simp] theorem lm_6 : 6 ≤ lineMax := by decide
@[simp] theorem lm_7 : 7 ≤ lineMax := by decide
@[simp] theorem lm_8 : 8 ≤ lineMax := by decide
@[simp] theorem lm_9 : 9 ≤ lineMax := by decide
@[simp] theorem lm_10 : 10 ≤ lineMax := by decide
@[simp] theorem lm_11 : 11 ≤ lineMax := by decide
@[simp] theorem lm_12 : 12 ≤ lineMax := by decide
mutual
theorem eqD_refl : ∀ (n : Nat) (d : PyData), fine n d = true → eqD d d = true
  | _, .none, _ => rfl
  | _, .bool b, _ => by simp [eqD]
  | _, .int i, _ => by simp [eqD]
  | _, .str x, _ => by simp [eqD]
  | n + 1, .list xs, h => by rw [eqD]; rw [fine] at h; exact eqDs_refl n xs h
  | n + 1, .tuple xs, h => by rw [eqD]; rw [fine] at h; exact eqDs_refl n xs h
  | 0, .list xs, h => by simp [fine] at h
  | 0, .tuple xs, h => by simp [fine] at h
  | n, .dict x, h => by cases n <;> simp [fine] at h
theorem eqDs_refl : ∀ (n : Nat) (ds : List PyData), fines n ds = true → eqDs ds ds = true
  | _, [], _ => rfl
  | n, d :: ds, h => by
    rw [fines, Bool.and_eq_true] at h
    rw [eqDs, eqD_refl n d h.1, eqDs_refl n ds h.2]
    rfl
end
theorem gNe_same (h : fine 60 d = true) : gNe (.z d) (.z d) = .ok (.z (.bool false)) := by
  cases d <;> simp [gNe, gEqB, strO, h, eqD_refl 60 _ h]
theorem gEq_same (h : fine 60 d = true) : gEq (.z d) (.z d) = .ok (.z (.bool true)) := by
  cases d <;> simp [gEq, gEqB, strO, h, eqD_refl 60 _ h]
theorem cut_map {α β : Type} (k : α → β) (xs : List α) (lo hi : Option Int) : cut (xs.map k) lo hi = (cut xs lo hi).map k := by
  simp [cut]
theorem cut_len {α : Type} (xs : List α) (lo hi : Option Int) : (cut xs lo hi).length ≤ xs.length := by
  simp only [cut, List.length_take, List.length_drop]
  omega
@[simp] theorem mkT_zl {a : PyData} : mkT [.z a, .l os] = .t [.z a, .l os] := rfl
theorem at_m1 {α : Type} {xs : List α} (h : 0 < xs.length) : at_ xs (-1) = some (xs[xs.length - 1]'(by omega)) := by
  unfold at_
  have e : ((-1 : Int) + (xs.length : Int)).toNat = xs.length - 1 := by omega
  rw [if_neg (by omega), if_pos (by omega), e, List.getElem?_eq_getElem]
/-! statements -/
@[simp] theorem out_ok {α : Type} {a : α} {k : α → Out} : (Res.ok a).out ρ k = k a := (rfl)
@[simp] theorem out_bad {α : Type} {k : α → Out} : (Res.bad : Res α).out ρ k = .bad := (rfl)
@[simp] theorem sPass_eq : sPass ρ = .nx ρ := (rfl)
@[simp] theorem sSeq_eq : sSeq fs gs ρ = (fs ρ).seq gs := (rfl)
@[simp] theorem seq_nx : (Out.nx ρ).seq gs = gs ρ := (rfl)
@[simp] theorem seq_rt : (Out.rt o).seq gs = .rt o := (rfl)
@[simp] theorem seq_bk : (Out.bk ρ).seq gs = .bk ρ := (rfl)
@[simp] theorem seq_ct : (Out.ct ρ).seq gs = .ct ρ := (rfl)
@[simp] theorem seq_err {c : Str} : (Out.err c d ρ).seq gs = .err c d ρ := (rfl)
@[simp] theorem turn_nx {k : ES} : (Out.nx ρ).turn k = k ρ := (rfl)
@[simp] theorem turn_ct {k : ES} : (Out.ct ρ).turn k = k ρ := (rfl)
@[simp] theorem turn_bk {k : ES} : (Out.bk ρ).turn k = .nx ρ := (rfl)
@[simp] theorem turn_rt {k : ES} : (Out.rt o).turn k = .rt o := (rfl)
@[simp] theorem turn_err {c : Str} {k : ES} : (Out.err c d ρ).turn k = .err c d ρ := (rfl)
@[simp] theorem res_nx : (Out.nx ρ).res = .ok (.z .none) := (rfl)
@[simp] theorem res_rt : (Out.rt o).res = .ok o := (rfl)
@[simp] theorem res_err {c : Str} : (Out.err c d ρ).res = .err c d := (rfl)
/-- what a target gives -/
def stored : Option Env → Out
  | some ρ => .nx ρ
  | none => .bad
@[simp] theorem stored_some : stored (some ρ) = .nx ρ := (rfl)
@[simp] theorem sAsg_eq {k : EG} : sAsg f k ρ = (f ρ).out ρ fun o => stored (k o ρ) := by
  unfold sAsg
  cases f ρ with
  | ok o => show (match k o ρ with | some ρ' => Out.nx ρ' | none => .bad) = stored (k o ρ); cases k o ρ <;> rfl
  | _ => rfl
@[simp] theorem sIf_eq : sIf t fs gs ρ = (t ρ).out ρ fun b => if b then fs ρ else gs ρ := (rfl)
@[simp] theorem sRet_eq : sRet f ρ = (f ρ).out ρ fun o => .rt o := (rfl)
@[simp] theorem sRetN_eq : sRetN ρ = .rt (.z .none) := (rfl)
@[simp] theorem sBrk_eq : sBrk ρ = .bk ρ := (rfl)
@[simp] theorem sCnt_eq : sCnt ρ = .ct ρ := (rfl)
@[simp] theorem sDrop_eq : sDrop f ρ = (f ρ).out ρ fun _ => .nx ρ := (rfl)
@[simp] theorem sFrz_eq {n : Nat} : sFrz n fs ρ = fs (frz n ρ) := (rfl)
@[simp] theorem tT_eq {ks : List EG} : tT ks o ρ = (tupO o).bind fun os => tTs ks os ρ := (rfl)
@[simp] theorem tupO_z : tupO (.z (.tuple ds)) = some (ds.map .z) := (rfl)
@[simp] theorem tTs_nil : tTs [] [] ρ = some ρ := (rfl)
@[simp] theorem tTs_cons {k : EG} {ks : List EG} {o : O} {os : List O} : tTs (k :: ks) (o :: os) ρ = (k o ρ).bind fun ρ' => tTs ks os ρ' := (rfl)
@[simp] theorem lent_z : lent (.z d) = .w (.z d) := (rfl)
@[simp] theorem lent_l : lent (.l os) = .r (.l os) := (rfl)
@[simp] theorem lent_s {ns : List Int} : lent (.s ns) = .r (.s ns) := (rfl)
/-- a for over data -/
theorem sFor_ok {fi : EI} {k : EG} (h : fi ρ = .ok (ds.map .z)) : sFor fi k fs ρ = forGo k fs (ds.map .z) ρ := by
  unfold sFor
  rw [h, out_ok, allZ_map]
theorem upTo_map (n : Nat) (lo : Int) : upTo n lo = ((List.range n).map fun (i : Nat) => PyData.int (lo + (i : Int))).map O.z := by
  unfold upTo
  rw [List.map_map]
  rfl
theorem iR1_ok {n : Nat} (h : f ρ = .ok (.z (.int n))) (hn : (n : Int) < 2 ^ 62) : iR1 f ρ = .ok (((List.range n).map fun (i : Nat) => PyData.int (i : Int)).map .z) := by
  unfold iR1
  rw [h, Res.bind_ok]
  show (if far n = true then _ else _) = _
  rw [if_pos (show far n = true from decide_eq_true ⟨by omega, hn⟩), upTo_map, Int.toNat_natCast]
  simp
theorem iR2_ok {a b : Int} (h1 : f1 ρ = .ok (.z (.int a))) (h2 : f2 ρ = .ok (.z (.int b))) (ha : -(2 ^ 62) ≤ a ∧ a < 2 ^ 62) (hb : -(2 ^ 62) ≤ b ∧ b < 2 ^ 62) : iR2 f1 f2 ρ = .ok (((List.range (b - a).toNat).map fun (i : Nat) => PyData.int (a + (i : Int))).map .z) := by
  unfold iR2
  rw [h1, h2, Res.bind_ok, Res.bind_ok]
  show (if (far a && far b) = true then _ else _) = _
  rw [if_pos (by rw [Bool.and_eq_true]; exact ⟨show far a = true from decide_eq_true ha, show far b = true from decide_eq_true hb⟩), upTo_map]
end
section
variable {ρ : Env} {f e : EV} {p : EP} {ks : EA} {i : Nat} {q : List Stp} {k : O → Option O}
@[simp] theorem pN_eq : pN ρ = .ok [] := (rfl)
@[simp] theorem pIx_eq : pIx p e ρ = (p ρ).bind fun q => (e ρ).nox.bind fun o => match o with
  | .z (.int i) => .ok (q ++ [.ix i])
  | _ => .bad := (rfl)
@[simp] theorem sPutL_eq : sPutL i p e f ρ = (f ρ).out ρ fun o => (p ρ).nox.out ρ fun q => (e ρ).nox.out ρ fun j => chg ρ i q (putL j o) := (rfl)
@[simp] theorem sPutD_eq : sPutD i p e f ρ = (f ρ).out ρ fun o => (p ρ).nox.out ρ fun q => (e ρ).nox.out ρ fun j => chg ρ i q (putD j o) := (rfl)
@[simp] theorem sPutT_eq : sPutT i p ks f ρ = (f ρ).out ρ fun o => (p ρ).nox.out ρ fun q => (ks ρ).nox.out ρ fun j => chg ρ i q (putT j o) := (rfl)
@[simp] theorem sAddP_eq : sAddP i p f ρ = (p ρ).nox.out ρ fun q => if okP ρ i q then (f ρ).out ρ fun o => chg ρ i q (addL o) else .bad := (rfl)
theorem chg_eq : chg ρ i q k = stored ((ownAt ρ i).bind fun c => (getP c q).bind fun d => (k d).map fun d' => setAtS ρ i (setP c q d')) := by
  unfold chg stored
  cases ((ownAt ρ i).bind fun c => (getP c q).bind fun d => (k d).map fun d' => setAtS ρ i (setP c q d')) <;> rfl
end
/-- where a turn of a loop may end: on with J, or over with R -/
inductive Turn : Out → (Env → Prop) → (Out → Prop) → Prop where
  | nx {ρ : Env} {J : Env → Prop} {R : Out → Prop} (h : J ρ) : Turn (.nx ρ) J R
  | ct {ρ : Env} {J : Env → Prop} {R : Out → Prop} (h : J ρ) : Turn (.ct ρ) J R
  | bk {ρ : Env} {J : Env → Prop} {R : Out → Prop} (h : R (.nx ρ)) : Turn (.bk ρ) J R
  | rt {o : O} {J : Env → Prop} {R : Out → Prop} (h : R (.rt o)) : Turn (.rt o) J R
  | err {c : Str} {d : PyData} {ρ : Env} {J : Env → Prop} {R : Out → Prop} (h : R (.err c d ρ)) : Turn (.err c d ρ) J R
@[simp] theorem Turn_nx {ρ : Env} {J : Env → Prop} {R : Out → Prop} : Turn (.nx ρ) J R ↔ J ρ := ⟨fun h => by cases h; assumption, .nx⟩
@[simp] theorem Turn_ct {ρ : Env} {J : Env → Prop} {R : Out → Prop} : Turn (.ct ρ) J R ↔ J ρ := ⟨fun h => by cases h; assumption, .ct⟩
@[simp] theorem Turn_bk {ρ : Env} {J : Env → Prop} {R : Out → Prop} : Turn (.bk ρ) J R ↔ R (.nx ρ) := ⟨fun h => by cases h; assumption, .bk⟩
@[simp] theorem Turn_rt {o : O} {J : Env → Prop} {R : Out → Prop} : Turn (.rt o) J R ↔ R (.rt o) := ⟨fun h => by cases h; assumption, .rt⟩
@[simp] theorem Turn_err {c : Str} {d : PyData} {ρ : Env} {J : Env → Prop} {R : Out → Prop} : Turn (.err c d ρ) J R ↔ R (.err c d ρ) := ⟨fun h => by cases h; assumption, .err⟩
/-- for over xs, seen through d: I holds of what is done and the slots, R of the end -/
theorem for_ind {α : Type} (d : α → PyData) {k : EG} {body : ES} {R : Out → Prop} (I : List α → Env → Prop) :
    ∀ (xs done : List α) (ρ : Env), I done ρ →
      (∀ done' x rest ρ, done ++ xs = done' ++ x :: rest → I done' ρ → ∃ ρ1, k (.z (d x)) ρ = some ρ1 ∧ Turn (body ρ1) (I (done' ++ [x])) R) →
      (∀ ρ, I (done ++ xs) ρ → R (.nx ρ)) → R (forGo k body ((xs.map d).map .z) ρ)
  | [], done, ρ, h, _, fin => by
    rw [List.map_nil, List.map_nil, forGo]
    exact fin ρ (by rw [List.append_nil]; exact h)
  | x :: xs, done, ρ, h, step, fin => by
    rw [List.map_cons, List.map_cons, forGo]
    obtain ⟨ρ1, e, q⟩ := step done x xs ρ rfl h
    have on : ∀ ρ2, I (done ++ [x]) ρ2 → R (forGo k body ((xs.map d).map .z) ρ2) := fun ρ2 h2 =>
      for_ind d I xs (done ++ [x]) ρ2 h2 (fun d' y r ρ e h => step d' y r ρ (by rw [← e, List.append_assoc]; rfl) h) fun ρ h => fin ρ (by rw [List.append_assoc] at h; exact h)
    rw [e]
    show R ((body ρ1).turn _)
    cases hb : body ρ1 with
    | nx ρ2 => rw [hb] at q; exact on ρ2 (Turn_nx.1 q)
    | ct ρ2 => rw [hb] at q; exact on ρ2 (Turn_ct.1 q)
    | bk ρ2 => rw [hb] at q; exact Turn_bk.1 q
    | rt o => rw [hb] at q; exact Turn_rt.1 q
    | err c d ρ2 => rw [hb] at q; exact Turn_err.1 q
    | bad => rw [hb] at q; cases q
theorem for_map {α : Type} (d : α → PyData) {k : EG} {body : ES} {R : Out → Prop} (I : List α → Env → Prop) (xs : List α) (ρ : Env) (h : I [] ρ)
    (step : ∀ done x rest ρ, xs = done ++ x :: rest → I done ρ → ∃ ρ1, k (.z (d x)) ρ = some ρ1 ∧ Turn (body ρ1) (I (done ++ [x])) R)
    (fin : ∀ ρ, I xs ρ → R (.nx ρ)) : R (forGo k body ((xs.map d).map .z) ρ) :=
  for_ind d I xs [] ρ h (fun d' x r ρ e => step d' x r ρ e) fin
theorem range_part {n : Nat} {done rest : List Nat} {x : Nat} (h : List.range n = done ++ x :: rest) : x = done.length ∧ x < n := by
  have h1 : (List.range n)[done.length]? = some x := by rw [h]; simp
  have h2 : done.length < n := by
    have := congrArg List.length h
    simp at this
    omega
  rw [List.getElem?_range h2] at h1
  simp at h1
  omega
theorem for_range (f : Nat → PyData) {k : EG} {body : ES} {R : Out → Prop} (I : Nat → Env → Prop) (n : Nat) (ρ : Env) (h : I 0 ρ)
    (step : ∀ i ρ, i < n → I i ρ → ∃ ρ1, k (.z (f i)) ρ = some ρ1 ∧ Turn (body ρ1) (I (i + 1)) R)
    (fin : ∀ ρ, I n ρ → R (.nx ρ)) : R (forGo k body (((List.range n).map f).map .z) ρ) := by
  refine for_map f (fun done ρ => I done.length ρ) (List.range n) ρ h ?_ ?_
  · intro done x rest ρ e hi
    obtain ⟨e1, e2⟩ := range_part e
    subst e1
    obtain ⟨ρ1, a, b⟩ := step _ ρ e2 hi
    refine ⟨ρ1, a, ?_⟩
    rw [List.length_append]
    exact b
  · intro ρ hi
    rw [List.length_range] at hi
    exact fin ρ hi
theorem rangeR {ρ : Env} {fi : EI} {k : EG} {body : ES} {G : Res O → Prop} {gs : ES} {f : Nat → PyData} {n : Nat} (I : Nat → Env → Prop) (hi : fi ρ = .ok (((List.range n).map f).map .z)) (h0 : I 0 ρ)
    (step : ∀ i ρ, i < n → I i ρ → ∃ ρ1, k (.z (f i)) ρ = some ρ1 ∧ Turn (body ρ1) (I (i + 1)) (fun o : Out => G (o.seq gs).res))
    (fin : ∀ ρ, I n ρ → G (gs ρ).res) : G ((sFor fi k body ρ).seq gs).res := by
  rw [sFor_ok hi]
  exact (for_range (R := fun o : Out => G (o.seq gs).res) f I n ρ h0 step fin : (fun o : Out => G (o.seq gs).res) _)
theorem rangeE {ρ : Env} {fi : EI} {k : EG} {body : ES} {G : Res O → Prop} {f : Nat → PyData} {n : Nat} (I : Nat → Env → Prop) (hi : fi ρ = .ok (((List.range n).map f).map .z)) (h0 : I 0 ρ)
    (step : ∀ i ρ, i < n → I i ρ → ∃ ρ1, k (.z (f i)) ρ = some ρ1 ∧ Turn (body ρ1) (I (i + 1)) (fun o : Out => G o.res))
    (fin : ∀ ρ, I n ρ → G (.ok (.z .none))) : G (sFor fi k body ρ).res := by
  rw [sFor_ok hi]
  exact (for_range (R := fun o : Out => G o.res) f I n ρ h0 step fin : (fun o : Out => G o.res) _)
theorem rangeT {ρ : Env} {fi : EI} {k : EG} {body : ES} {J : Env → Prop} {R : Out → Prop} {f : Nat → PyData} {n : Nat} (I : Nat → Env → Prop) (hi : fi ρ = .ok (((List.range n).map f).map .z)) (h0 : I 0 ρ)
    (step : ∀ i ρ, i < n → I i ρ → ∃ ρ1, k (.z (f i)) ρ = some ρ1 ∧ Turn (body ρ1) (I (i + 1)) (fun o : Out => Turn o J R))
    (fin : ∀ ρ, I n ρ → J ρ) : Turn (sFor fi k body ρ) J R := by
  rw [sFor_ok hi]
  exact (for_range (R := fun o : Out => Turn o J R) f I n ρ h0 step (fun ρ h => Turn_nx.2 (fin ρ h)) : (fun o : Out => Turn o J R) _)
theorem rangeS {ρ : Env} {fi : EI} {k : EG} {body : ES} {J : Env → Prop} {R : Out → Prop} {gs : ES} {f : Nat → PyData} {n : Nat} (I : Nat → Env → Prop) (hi : fi ρ = .ok (((List.range n).map f).map .z)) (h0 : I 0 ρ)
    (step : ∀ i ρ, i < n → I i ρ → ∃ ρ1, k (.z (f i)) ρ = some ρ1 ∧ Turn (body ρ1) (I (i + 1)) (fun o : Out => Turn (o.seq gs) J R))
    (fin : ∀ ρ, I n ρ → Turn (gs ρ) J R) : Turn ((sFor fi k body ρ).seq gs) J R := by
  rw [sFor_ok hi]
  exact (for_range (R := fun o : Out => Turn (o.seq gs) J R) f I n ρ h0 step fin : (fun o : Out => Turn (o.seq gs) J R) _)
theorem eachR {ρ : Env} {fi : EI} {k : EG} {body : ES} {G : Res O → Prop} {gs : ES} {α : Type} {d : α → PyData} {xs : List α} (I : List α → Env → Prop) (hi : fi ρ = .ok ((xs.map d).map .z)) (h0 : I [] ρ)
    (step : ∀ done x rest ρ, xs = done ++ x :: rest → I done ρ → ∃ ρ1, k (.z (d x)) ρ = some ρ1 ∧ Turn (body ρ1) (I (done ++ [x])) (fun o : Out => G (o.seq gs).res))
    (fin : ∀ ρ, I xs ρ → G (gs ρ).res) : G ((sFor fi k body ρ).seq gs).res := by
  rw [sFor_ok hi]
  exact (for_map (R := fun o : Out => G (o.seq gs).res) d I xs ρ h0 step fin : (fun o : Out => G (o.seq gs).res) _)
theorem eachE {ρ : Env} {fi : EI} {k : EG} {body : ES} {G : Res O → Prop} {α : Type} {d : α → PyData} {xs : List α} (I : List α → Env → Prop) (hi : fi ρ = .ok ((xs.map d).map .z)) (h0 : I [] ρ)
    (step : ∀ done x rest ρ, xs = done ++ x :: rest → I done ρ → ∃ ρ1, k (.z (d x)) ρ = some ρ1 ∧ Turn (body ρ1) (I (done ++ [x])) (fun o : Out => G o.res))
    (fin : ∀ ρ, I xs ρ → G (.ok (.z .none))) : G (sFor fi k body ρ).res := by
  rw [sFor_ok hi]
  exact (for_map (R := fun o : Out => G o.res) d I xs ρ h0 step fin : (fun o : Out => G o.res) _)
theorem eachT {ρ : Env} {fi : EI} {k : EG} {body : ES} {J : Env → Prop} {R : Out → Prop} {α : Type} {d : α → PyData} {xs : List α} (I : List α → Env → Prop) (hi : fi ρ = .ok ((xs.map d).map .z)) (h0 : I [] ρ)
    (step : ∀ done x rest ρ, xs = done ++ x :: rest → I done ρ → ∃ ρ1, k (.z (d x)) ρ = some ρ1 ∧ Turn (body ρ1) (I (done ++ [x])) (fun o : Out => Turn o J R))
    (fin : ∀ ρ, I xs ρ → J ρ) : Turn (sFor fi k body ρ) J R := by
  rw [sFor_ok hi]
  exact (for_map (R := fun o : Out => Turn o J R) d I xs ρ h0 step (fun ρ h => Turn_nx.2 (fin ρ h)) : (fun o : Out => Turn o J R) _)
theorem eachS {ρ : Env} {fi : EI} {k : EG} {body : ES} {J : Env → Prop} {R : Out → Prop} {gs : ES} {α : Type} {d : α → PyData} {xs : List α} (I : List α → Env → Prop) (hi : fi ρ = .ok ((xs.map d).map .z)) (h0 : I [] ρ)
    (step : ∀ done x rest ρ, xs = done ++ x :: rest → I done ρ → ∃ ρ1, k (.z (d x)) ρ = some ρ1 ∧ Turn (body ρ1) (I (done ++ [x])) (fun o : Out => Turn (o.seq gs) J R))
    (fin : ∀ ρ, I xs ρ → Turn (gs ρ) J R) : Turn ((sFor fi k body ρ).seq gs) J R := by
  rw [sFor_ok hi]
  exact (for_map (R := fun o : Out => Turn (o.seq gs) J R) d I xs ρ h0 step fin : (fun o : Out => Turn (o.seq gs) J R) _)
end U
end
/-! TL -/
section
set_option linter.all false
/-! TL: typed views of UD's words: encoders, and what a word gives at typed values. -/
namespace U
open PySem (PyData Str)
/-! ### encoders -/
def zE {α : Type} (d : α → PyData) : α → O := fun x => .z (d x)
def dI : Int → PyData := .int
def dB : Bool → PyData := .bool
def dS : Str → PyData := .str
def dN : Unit → PyData := fun _ => .none
def dO {α : Type} (d : α → PyData) : Option α → PyData
  | none => .none
  | some x => d x
def dL {α : Type} (d : α → PyData) : List α → PyData := fun xs => .list (xs.map d)
def d0 : Unit → PyData := fun _ => .tuple []
def d1 {α : Type} (d : α → PyData) : α → PyData := fun x => .tuple [d x]
def d2 {α β : Type} (d : α → PyData) (e : β → PyData) : α × β → PyData := fun x => .tuple [d x.1, e x.2]
def d3 {α β γ : Type} (d : α → PyData) (e : β → PyData) (f : γ → PyData) : α × β × γ → PyData := fun x => .tuple [d x.1, e x.2.1, f x.2.2]
def d4 {α β γ δ : Type} (d : α → PyData) (e : β → PyData) (f : γ → PyData) (g : δ → PyData) : α × β × γ × δ → PyData := fun x => .tuple [d x.1, e x.2.1, f x.2.2.1, g x.2.2.2]
def d5 {α β γ δ ε : Type} (d : α → PyData) (e : β → PyData) (f : γ → PyData) (g : δ → PyData) (h : ε → PyData) : α × β × γ × δ × ε → PyData := fun x => .tuple [d x.1, e x.2.1, f x.2.2.1, g x.2.2.2.1, h x.2.2.2.2]
def d6 {α β γ δ ε ζ : Type} (d : α → PyData) (e : β → PyData) (f : γ → PyData) (g : δ → PyData) (h : ε → PyData) (i : ζ → PyData) : α × β × γ × δ × ε × ζ → PyData := fun x => .tuple [d x.1, e x.2.1, f x.2.2.1, g x.2.2.2.1, h x.2.2.2.2.1, i x.2.2.2.2.2]
def eL {α : Type} (e : α → O) : List α → O := fun xs => .l (xs.map e)
def eS : List Int → O := .s
/-- own tuples -/
def t2 {α β : Type} (d : α → O) (e : β → O) : α × β → O := fun x => .t [d x.1, e x.2]
def t3 {α β γ : Type} (d : α → O) (e : β → O) (f : γ → O) : α × β × γ → O := fun x => .t [d x.1, e x.2.1, f x.2.2]
/-! dicts: by whole numbers, by texts; by tuples of whole numbers -/
def kI : Int → Ky := .inl
def kS : Str → Ky := .inr
def k2 : Int × Int → List Ky := fun x => [.inl x.1, .inl x.2]
def k3 : Int × Int × Int → List Ky := fun x => [.inl x.1, .inl x.2.1, .inl x.2.2]
def eK' {κ α : Type} (k : κ → Ky) (e : α → O) : List (κ × α) → O := fun kvs => .dk (kvs.map fun p => (k p.1, e p.2))
def eT {κ α : Type} (k : κ → List Ky) (e : α → O) : List (κ × α) → O := fun kvs => .dt (kvs.map fun p => (k p.1, e p.2))

/-! ### what is known of encoders -/
/-- seen as data -/
class Seen {α : Type} (e : α → O) (d : outParam (α → PyData)) : Prop where
  seen : ∀ x, strip (e x) = d x
instance {α : Type} (d : α → PyData) : Seen (zE d) d := ⟨fun x => by simp [zE]⟩
instance {α : Type} (e : α → O) (d : α → PyData) [h : Seen e d] : Seen (eL e) (dL d) := ⟨fun xs => by simp [eL, dL, Function.comp_def, h.seen]⟩
/-- may be made data -/
class Frz {α : Type} (e : α → O) (d : outParam (α → PyData)) : Prop where
  dz : ∀ x, dz (e x) = true
  seen : ∀ x, strip (e x) = d x
instance {α : Type} (d : α → PyData) : Frz (zE d) d := ⟨fun x => by simp [zE], fun x => by simp [zE]⟩
theorem dzs_of {α : Type} {e : α → O} (h : ∀ x, dz (e x) = true) : ∀ xs : List α, dzs (xs.map e) = true
  | [] => by simp
  | x :: xs => by rw [List.map_cons, dzs_cons, h x, dzs_of h xs]; rfl
instance {α : Type} (e : α → O) (d : α → PyData) [h : Frz e d] : Frz (eL e) (dL d) := ⟨fun xs => by simp [eL, dzs_of h.dz], fun xs => by simp [eL, dL, Function.comp_def, h.seen]⟩
instance {α β : Type} (e : α → O) (d : α → PyData) (e' : β → O) (d' : β → PyData) [h : Frz e d] [h' : Frz e' d'] : Frz (t2 e e') (d2 d d') := ⟨fun x => by simp [t2, h.dz, h'.dz], fun x => by simp [t2, d2, h.seen, h'.seen]⟩
theorem frz_fz {α : Type} {e : α → O} {d : α → PyData} [h : Frz e d] (x : α) : gFz (e x) = .ok (zE d x) := by
  unfold gFz
  rw [if_pos (h.dz x), h.seen]
  rfl
/-- not the script -/
class NS {α : Type} (e : α → O) : Prop where
  ns : ∀ x, nS (e x) = true
instance {α : Type} (d : α → PyData) : NS (zE d) := ⟨fun x => rfl⟩
instance {α : Type} (e : α → O) : NS (eL e) := ⟨fun x => rfl⟩
instance {α β : Type} (e : α → O) (e' : β → O) : NS (t2 e e') := ⟨fun x => rfl⟩
instance {α β γ : Type} (e : α → O) (e' : β → O) (e'' : γ → O) : NS (t3 e e' e'') := ⟨fun x => rfl⟩
instance {κ α : Type} (k : κ → Ky) (e : α → O) : NS (eK' k e) := ⟨fun x => rfl⟩
instance {κ α : Type} (k : κ → List Ky) (e : α → O) : NS (eT k e) := ⟨fun x => rfl⟩
theorem all_nS {α : Type} {e : α → O} [h : NS e] : ∀ xs : List α, (xs.map e).all nS = true
  | [] => rfl
  | x :: xs => by rw [List.map_cons, List.all_cons, h.ns, all_nS xs]; rfl
/-- so deep at most -/
class FinD {α : Type} (d : α → PyData) (n : outParam Nat) : Prop where
  fin : ∀ (m : Nat) (x : α), n ≤ m → fine m (d x) = true
instance : FinD dI 0 := ⟨fun m x _ => by simp [dI]⟩
instance : FinD dB 0 := ⟨fun m x _ => by simp [dB]⟩
instance : FinD dN 0 := ⟨fun m x _ => by simp [dN]⟩
instance {α : Type} (d : α → PyData) (n : Nat) [h : FinD d n] : FinD (dO d) n := ⟨fun m x hm => by cases x with
  | none => simp [dO]
  | some x => exact h.fin m x hm⟩
instance {α : Type} (d : α → PyData) (n : Nat) [h : FinD d n] : FinD (dL d) (n + 1) := ⟨fun m x hm => by
  obtain ⟨m, rfl⟩ : ∃ k, m = k + 1 := ⟨m - 1, by omega⟩
  refine fine_l fun y hy => ?_
  obtain ⟨z, -, rfl⟩ := List.mem_map.1 hy
  exact h.fin m z (by omega)⟩
instance : FinD d0 1 := ⟨fun m x hm => by
  obtain ⟨m, rfl⟩ : ∃ k, m = k + 1 := ⟨m - 1, by omega⟩
  exact fine_t fun y hy => by simp at hy⟩
instance {α : Type} (d : α → PyData) (n : Nat) [h : FinD d n] : FinD (d1 d) (n + 1) := ⟨fun m x hm => by
  obtain ⟨m, rfl⟩ : ∃ k, m = k + 1 := ⟨m - 1, by omega⟩
  exact fine_t fun y hy => by simp at hy; rw [hy]; exact h.fin m _ (by omega)⟩
instance {α β : Type} (d : α → PyData) (e : β → PyData) (n k : Nat) [h : FinD d n] [h' : FinD e k] : FinD (d2 d e) (max n k + 1) := ⟨fun m x hm => by
  obtain ⟨m, rfl⟩ : ∃ k, m = k + 1 := ⟨m - 1, by omega⟩
  refine fine_t fun y hy => ?_
  simp at hy
  rcases hy with rfl | rfl
  · exact h.fin m _ (by omega)
  · exact h'.fin m _ (by omega)⟩
instance {α β γ : Type} (d : α → PyData) (e : β → PyData) (f : γ → PyData) (n k l : Nat) [h : FinD d n] [h' : FinD e k] [h2 : FinD f l] : FinD (d3 d e f) (max n (max k l) + 1) := ⟨fun m x hm => by
  obtain ⟨m, rfl⟩ : ∃ k, m = k + 1 := ⟨m - 1, by omega⟩
  refine fine_t fun y hy => ?_
  simp at hy
  rcases hy with rfl | rfl | rfl
  · exact h.fin m _ (by omega)
  · exact h'.fin m _ (by omega)
  · exact h2.fin m _ (by omega)⟩
instance {α β γ δ : Type} (d : α → PyData) (e : β → PyData) (f : γ → PyData) (g : δ → PyData) (n k l o : Nat) [h : FinD d n] [h' : FinD e k] [h2 : FinD f l] [h3 : FinD g o] : FinD (d4 d e f g) (max n (max k (max l o)) + 1) := ⟨fun m x hm => by
  obtain ⟨m, rfl⟩ : ∃ k, m = k + 1 := ⟨m - 1, by omega⟩
  refine fine_t fun y hy => ?_
  simp at hy
  rcases hy with rfl | rfl | rfl | rfl
  · exact h.fin m _ (by omega)
  · exact h'.fin m _ (by omega)
  · exact h2.fin m _ (by omega)
  · exact h3.fin m _ (by omega)⟩
/-- equal as Python sees it: equal -/
class EqD {α : Type} (d : α → PyData) : Prop where
  eq : ∀ x y, eqD (d x) (d y) = true ↔ x = y
instance : EqD dI := ⟨fun x y => by simp [dI, eqD]⟩
instance : EqD dB := ⟨fun x y => by simp [dB, eqD]⟩
instance : EqD dN := ⟨fun x y => by simp [dN, eqD]⟩
/-- never none, a bool or a number's like -/
class NN {α : Type} (d : α → PyData) : Prop where
  nn : ∀ x, eqD (d x) .none = false ∧ eqD .none (d x) = false ∧ isNone (.z (d x)) = false
instance : NN dI := ⟨fun x => ⟨rfl, rfl, rfl⟩⟩
instance : NN dB := ⟨fun x => ⟨rfl, rfl, rfl⟩⟩
instance : NN dS := ⟨fun x => ⟨rfl, rfl, rfl⟩⟩
instance : NN d0 := ⟨fun x => ⟨rfl, rfl, rfl⟩⟩
instance {α : Type} (d : α → PyData) : NN (dL d) := ⟨fun x => ⟨rfl, rfl, rfl⟩⟩
instance {α : Type} (d : α → PyData) : NN (d1 d) := ⟨fun x => ⟨rfl, rfl, rfl⟩⟩
instance {α β : Type} (d : α → PyData) (e : β → PyData) : NN (d2 d e) := ⟨fun x => ⟨rfl, rfl, rfl⟩⟩
instance {α β γ : Type} (d : α → PyData) (e : β → PyData) (f : γ → PyData) : NN (d3 d e f) := ⟨fun x => ⟨rfl, rfl, rfl⟩⟩
instance {α β γ δ : Type} (d : α → PyData) (e : β → PyData) (f : γ → PyData) (g : δ → PyData) : NN (d4 d e f g) := ⟨fun x => ⟨rfl, rfl, rfl⟩⟩
instance {α : Type} (d : α → PyData) [h : EqD d] [n : NN d] : EqD (dO d) := ⟨fun x y => by
  cases x <;> cases y <;> simp [dO, eqD, h.eq, n.nn]⟩
theorem eqDs_map {α : Type} {d : α → PyData} [h : EqD d] : ∀ xs ys : List α, eqDs (xs.map d) (ys.map d) = true ↔ xs = ys
  | [], [] => by simp [eqDs]
  | [], _ :: _ => by simp [eqDs]
  | _ :: _, [] => by simp [eqDs]
  | x :: xs, y :: ys => by simp [eqDs, h.eq, eqDs_map xs ys]
instance {α : Type} (d : α → PyData) [h : EqD d] : EqD (dL d) := ⟨fun x y => by simp [dL, eqD, eqDs_map]⟩
instance : EqD d0 := ⟨fun x y => by simp [d0, eqD, eqDs]⟩
instance {α : Type} (d : α → PyData) [h : EqD d] : EqD (d1 d) := ⟨fun x y => by simp [d1, eqD, eqDs, h.eq]⟩
instance {α β : Type} (d : α → PyData) (e : β → PyData) [h : EqD d] [h' : EqD e] : EqD (d2 d e) := ⟨fun x y => by obtain ⟨a, b⟩ := x; obtain ⟨a', b'⟩ := y; simp [d2, eqD, eqDs, h.eq, h'.eq]⟩
instance {α β γ : Type} (d : α → PyData) (e : β → PyData) (f : γ → PyData) [h : EqD d] [h' : EqD e] [h2 : EqD f] : EqD (d3 d e f) := ⟨fun x y => by obtain ⟨a, b, c⟩ := x; obtain ⟨a', b', c'⟩ := y; simp [d3, eqD, eqDs, h.eq, h'.eq, h2.eq]⟩
instance {α β γ δ : Type} (d : α → PyData) (e : β → PyData) (f : γ → PyData) (g : δ → PyData) [h : EqD d] [h' : EqD e] [h2 : EqD f] [h3 : EqD g] : EqD (d4 d e f g) := ⟨fun x y => by obtain ⟨a, b, c, c0⟩ := x; obtain ⟨a', b', c', c0'⟩ := y; simp [d4, eqD, eqDs, h.eq, h'.eq, h2.eq, h3.eq]⟩
/-- fit to be put in order by lt -/
class Srt {α : Type} (d : α → PyData) (lt : outParam (α → α → Bool)) : Prop where
  akin : ∀ x y, akin (d x) (d y) = true
  lte : ∀ x y, ltD (d x) (d y) = lt x y
  irr : ∀ x, lt x x = false
class SrtH {α : Type} (d : α → PyData) : Prop where
  hd : (∀ x, heads (d x) = true) ∨ ∀ x, plains (d x) = true
def ltInt : Int → Int → Bool := fun a b => decide (a < b)
instance : Srt dI ltInt := ⟨fun x y => rfl, fun x y => rfl, fun x => by simp [ltInt]⟩
instance : SrtH dI := ⟨.inr fun x => rfl⟩
instance {α β : Type} (d : α → PyData) (e : β → PyData) : SrtH (d2 d e) := ⟨.inl fun x => rfl⟩
instance {α β γ : Type} (d : α → PyData) (e : β → PyData) (f : γ → PyData) : SrtH (d3 d e f) := ⟨.inl fun x => rfl⟩
instance {α β γ δ : Type} (d : α → PyData) (e : β → PyData) (f : γ → PyData) (g : δ → PyData) : SrtH (d4 d e f g) := ⟨.inl fun x => rfl⟩
instance {α : Type} (d : α → PyData) : SrtH (dL d) := ⟨.inr fun x => rfl⟩
/-- pairs, place by place -/
def lt2 {α β : Type} [DecidableEq α] (l : α → α → Bool) (m : β → β → Bool) : α × β → α × β → Bool := fun x y => if x.1 = y.1 then m x.2 y.2 else l x.1 y.1
theorem ite_eqD {α : Type} [DecidableEq α] {d : α → PyData} [q : EqD d] {γ : Type} (x y : α) (a b : γ) : (if eqD (d x) (d y) = true then a else b) = if x = y then a else b := by
  by_cases h : x = y
  · rw [if_pos ((q.eq x y).2 h), if_pos h]
  · rw [if_neg (fun e => h ((q.eq x y).1 e)), if_neg h]
theorem ltDs_cons {α : Type} [DecidableEq α] {d : α → PyData} {l : α → α → Bool} [h : Srt d l] [q : EqD d] (x y : α) (xs ys : List PyData) : ltDs (d x :: xs) (d y :: ys) = if x = y then ltDs xs ys else l x y := by
  rw [ltDs, ite_eqD, h.lte]
theorem ltDs_one {α : Type} [DecidableEq α] {d : α → PyData} {l : α → α → Bool} [h : Srt d l] [q : EqD d] (x y : α) : ltDs [d x] [d y] = l x y := by
  rw [ltDs_cons]
  by_cases e : x = y
  · rw [if_pos e, e, h.irr]; rfl
  · rw [if_neg e]
instance {α β : Type} [DecidableEq α] [DecidableEq β] (d : α → PyData) (e : β → PyData) (l : α → α → Bool) (m : β → β → Bool) [h : Srt d l] [h' : Srt e m] [q : EqD d] [q' : EqD e] : Srt (d2 d e) (lt2 l m) where
  akin x y := by simp [d2, U.akin, akins, h.akin, h'.akin]
  lte x y := by
    show ltDs [d x.1, e x.2] [d y.1, e y.2] = _
    rw [ltDs_cons, ltDs_one]; rfl
  irr x := by simp [lt2, h'.irr]
instance {α β γ : Type} [DecidableEq α] [DecidableEq β] [DecidableEq γ] (d : α → PyData) (e : β → PyData) (f : γ → PyData) (l : α → α → Bool) (m : β → β → Bool) (n : γ → γ → Bool) [h : Srt d l] [h' : Srt e m] [h2 : Srt f n] [q : EqD d] [q' : EqD e] [q2 : EqD f] : Srt (d3 d e f) (lt2 l (lt2 m n)) where
  akin x y := by simp [d3, U.akin, akins, h.akin, h'.akin, h2.akin]
  lte x y := by
    show ltDs [d x.1, e x.2.1, f x.2.2] [d y.1, e y.2.1, f y.2.2] = _
    rw [ltDs_cons, ltDs_cons, ltDs_one]; rfl
  irr x := by simp [lt2, h2.irr]
instance {α β γ δ : Type} [DecidableEq α] [DecidableEq β] [DecidableEq γ] [DecidableEq δ] (d : α → PyData) (e : β → PyData) (f : γ → PyData) (g : δ → PyData) (l : α → α → Bool) (m : β → β → Bool) (n : γ → γ → Bool) (o : δ → δ → Bool) [h : Srt d l] [h' : Srt e m] [h2 : Srt f n] [h3 : Srt g o] [q : EqD d] [q' : EqD e] [q2 : EqD f] [q3 : EqD g] : Srt (d4 d e f g) (lt2 l (lt2 m (lt2 n o))) where
  akin x y := by simp [d4, U.akin, akins, h.akin, h'.akin, h2.akin, h3.akin]
  lte x y := by
    show ltDs [d x.1, e x.2.1, f x.2.2.1, g x.2.2.2] [d y.1, e y.2.1, f y.2.2.1, g y.2.2.2] = _
    rw [ltDs_cons, ltDs_cons, ltDs_cons, ltDs_one]; rfl
  irr x := by simp [lt2, h3.irr]
/-- lists, place by place -/
def ltL {α : Type} [DecidableEq α] (l : α → α → Bool) : List α → List α → Bool
  | [], [] => false
  | [], _ :: _ => true
  | _ :: _, [] => false
  | x :: xs, y :: ys => if x = y then ltL l xs ys else l x y
theorem akins_map {α : Type} {d : α → PyData} {l : α → α → Bool} [h : Srt d l] : ∀ xs ys : List α, akins (xs.map d) (ys.map d) = true
  | [], _ => by simp [akins]
  | x :: xs, [] => by simp [akins]
  | x :: xs, y :: ys => by simp [akins, h.akin, akins_map xs ys]
theorem ltDs_map {α : Type} [DecidableEq α] {d : α → PyData} {l : α → α → Bool} [h : Srt d l] [q : EqD d] : ∀ xs ys : List α, ltDs (xs.map d) (ys.map d) = ltL l xs ys
  | [], [] => rfl
  | [], _ :: _ => rfl
  | _ :: _, [] => rfl
  | x :: xs, y :: ys => by rw [List.map_cons, List.map_cons, ltDs_cons, ltDs_map xs ys]; rfl
theorem ltL_irr {α : Type} [DecidableEq α] (l : α → α → Bool) : ∀ xs, ltL l xs xs = false
  | [] => rfl
  | x :: xs => by simp [ltL, ltL_irr l xs]
instance {α : Type} [DecidableEq α] (d : α → PyData) (l : α → α → Bool) [h : Srt d l] [q : EqD d] : Srt (dL d) (ltL l) := ⟨fun x y => by simp [dL, U.akin, akins_map], fun x y => ltDs_map x y, ltL_irr l⟩

/-! ### partial things -/
def snocO {α : Type} (xs : List α) (x : α) : Option (List α) := if xs.length < lineMax then some (xs ++ [x]) else none
def catO {α : Type} (xs ys : List α) : Option (List α) := if xs.length + ys.length ≤ lineMax then some (xs ++ ys) else none
def mulO (i j : Int) : Option Int := if (-(2 ^ 64) < i ∧ i < 2 ^ 64) ∨ (-(2 ^ 64) < j ∧ j < 2 ^ 64) then some (i * j) else none
def modO (i j : Int) : Option Int := if 0 < j then some (i % j) else none
def divO (i j : Int) : Option Int := if 0 < j ∧ j < 1073741824 then some (i / j) else none
def repO {α : Type} (xs : List α) (k : Int) : Option (List α) := if -(2 ^ 63) ≤ k ∧ k < 2 ^ 63 ∧ xs.length * k.toNat ≤ lineMax then some (List.replicate k.toNat xs).flatten else none
def setO {α : Type} (xs : List α) (k : Int) (x : α) : Option (List α) := (ixO xs.length k).map fun n => xs.set n x
def rngO (i j : Int) : Option (List Int) := if far i && far j then some ((List.range (j - i).toNat).map fun (n : Nat) => i + (n : Int)) else none
def sortO {α : Type} (lt : α → α → Bool) (xs : List α) : Option (List α) := if xs.length ≤ lineMax then some (xs.mergeSort fun a b => !lt b a) else none
def sizeO {α : Type} (xs : List α) : Option (List α) := if xs.length ≤ lineMax then some xs else none
def putO {κ β : Type} [DecidableEq κ] (kvs : List (κ × β)) (k : κ) (b : β) : Option (List (κ × β)) := if kvs.length < lineMax then some (put kvs k b) else none
/-- a loop: its turns one after the other -/
def foldO {S α : Type} (step : S → α → Option S) : List α → S → Option S
  | [], s => some s
  | x :: xs, s => (step s x).bind (foldO step xs)
inductive Ctl (R S : Type) where
  | nx (s : S)
  | bk (s : S)
  | rt (r : R)
def foldC {R S α : Type} (step : S → α → Option (Ctl R S)) : List α → S → Option (Ctl R S)
  | [], s => some (.nx s)
  | x :: xs, s => (step s x).bind fun c => match c with
    | .nx s => foldC step xs s
    | .bk s => some (.nx s)
    | .rt r => some (.rt r)
/-- then, unless it is over -/
def thenC {R S T : Type} (m : Option (Ctl R S)) (k : S → Option T) (e : R → T) : Option T := m.bind fun c => match c with
  | .nx s => k s
  | .bk s => k s
  | .rt r => some (e r)
/-- a comprehension whose test and element may fail -/
def lcO {α β : Type} (p : α → Option Bool) (e : α → Option β) : List α → Option (List β)
  | [] => some []
  | x :: xs => (p x).bind fun b => if b then (e x).bind fun y => (lcO p e xs).map (y :: ·) else lcO p e xs
theorem bind_some {α β : Type} {m : Option α} {f : α → Option β} {r : β} (h : m.bind f = some r) : ∃ a, m = some a ∧ f a = some r := Option.bind_eq_some_iff.1 h
theorem ite_some {α : Type} {c : Bool} {a b : Option α} {r : α} (h : (if c = true then a else b) = some r) : (c = true ∧ a = some r) ∨ (c = false ∧ b = some r) := by
  cases c
  · exact .inr ⟨rfl, h⟩
  · exact .inl ⟨rfl, h⟩

/-! ### expressions -/
section
variable {ρ : Env} {f g f1 f2 f3 : EV} {o o1 o2 o3 : O} {k : O → O → Res O}
theorem te_e2 (h1 : f1 ρ = .ok o1) (h2 : f2 ρ = .ok o2) (h : k o1 o2 = .ok o) : e2 k f1 f2 ρ = .ok o := by
  rw [e2_eq, h1, h2]; show (k o1 o2).nox = _; rw [h]; rfl
theorem te_e1 {k : O → Res O} (h1 : f1 ρ = .ok o1) (h : k o1 = .ok o) : e1 k f1 ρ = .ok o := by
  rw [e1_eq, h1]; show (k o1).nox = _; rw [h]; rfl
theorem te_fz {α : Type} {e : α → O} {d : α → PyData} [Frz e d] {x : α} (h : f ρ = .ok (e x)) : eFz f ρ = .ok (zE d x) := te_e1 h (frz_fz x)
theorem te_z {α : Type} {d : α → PyData} {x : α} (h : f ρ = .ok (zE d x)) : eZ f ρ = .ok (zE d x) := te_e1 h rfl
theorem te_unw {α : Type} {d : α → PyData} {x : Option α} {y : α} (hx : x = some y) (h : f ρ = .ok (zE (dO d) x)) : f ρ = .ok (zE d y) := by
  subst hx; exact h
theorem ta_nil : aNil ρ = .ok [] := rfl
theorem ta_cons {r : EA} {os : List O} (h : f ρ = .ok o) (h' : r ρ = .ok os) : aCons f r ρ = .ok (o :: os) := by
  rw [aCons_eq, h]; show ((r ρ).bind _) = _; rw [h']; rfl
theorem te_K {k : List O → Res O} {r : EA} {os : List O} (h : r ρ = .ok os) (h' : k os = .ok o) : eK k r ρ = .ok o := by
  rw [eK_eq, h]; show (k os).nox = _; rw [h']; rfl
theorem te_call {F : List O → Res O} {r : EA} {os : List O} (h : r ρ = .ok os) (h' : F os = .ok o) : eCall F r ρ = .ok o := by
  rw [eCall_eq, h]; exact h'
theorem te_lst {r : EA} {os : List O} (h : r ρ = .ok os) (hl : os.length ≤ lineMax) (hn : os.all nS = true) : eLst r ρ = .ok (.l os) := by
  rw [eLst_eq, h]; exact if_pos ⟨hl, hn⟩
theorem te_tup {r : EA} {os : List O} (h : r ρ = .ok os) (hl : os.length ≤ lineMax) (hn : os.all nS = true) : eTup r ρ = .ok (mkT os) := by
  rw [eTup_eq, h]; exact if_pos ⟨hl, hn⟩
theorem te_cut {p q : Env → Res (Option Int)} {i j : Option Int} (h : f ρ = .ok o1) (hp : p ρ = .ok i) (hq : q ρ = .ok j) (h' : gCut o1 i j = .ok o) : eCut f p q ρ = .ok o := by
  rw [eCut_eq, h]; show ((p ρ).bind _) = _; rw [hp]; show ((q ρ).bind _) = _; rw [hq]; show (gCut o1 i j).nox = _; rw [h']; rfl
theorem tp_no : pNo ρ = .ok none := rfl
theorem tp_so {i : Int} (h : f ρ = .ok (zE dI i)) : pSo f ρ = .ok (some i) := by rw [pSo_eq, h]; rfl
theorem te_rev (h : f ρ = .ok o1) (h' : gRev o1 = .ok o) : eRev f ρ = .ok o := te_e1 h h'
theorem te_revT (h : f ρ = .ok o1) (h' : gRevT o1 = .ok o) : eRevT f ρ = .ok o := te_e1 h h'
theorem te_ch {k k' : O → O → Res O} {p q : Bool} (h1 : f1 ρ = .ok o1) (h2 : f2 ρ = .ok o2) (h3 : f3 ρ = .ok o3) (g1 : k o1 o2 = .ok (zE dB p)) (g2 : k' o2 o3 = .ok (zE dB q)) : eCh k k' f1 f2 f3 ρ = .ok (zE dB (p && q)) := by
  rw [eCh_eq, h1, h2]
  show ((k o1 o2).nox.bind _) = _
  rw [g1]
  cases p
  · rfl
  · show ((f3 ρ).bind _) = _
    rw [h3]; show (k' o2 o3).nox = _; rw [g2]; rfl
theorem te_isi {t : Ty} (h : f ρ = .ok o1) (h' : gIsi t o1 = .ok o) : eIsi t f ρ = .ok o := te_e1 h h'
theorem te_if {t : EB} {c : Bool} (ht : t ρ = .ok c) (h1 : c = true → f ρ = .ok o) (h2 : c = false → g ρ = .ok o) : eIf t f g ρ = .ok o := by
  rw [eIf_eq, ht]
  cases c
  · exact h2 rfl
  · exact h1 rfl
/-- tests -/
theorem tt_b {c : Bool} (h : f ρ = .ok (zE dB c)) : tB f ρ = .ok c := by rw [tB_eq, h]; rfl
theorem tt_v {c : Bool} (h : f ρ = .ok o) (h' : truth o = .ok c) : tV f ρ = .ok c := by rw [tV_eq, h]; exact h'
theorem tt_not {t : EB} {c : Bool} (h : t ρ = .ok c) : tNot t ρ = .ok (!c) := by rw [tNot_eq, h]; rfl
theorem tt_and {t u : EB} {a b : Bool} (h : t ρ = .ok a) (h' : a = true → u ρ = .ok b) : tAnd t u ρ = .ok (a && b) := by
  rw [tAnd_eq, h]
  cases a
  · rfl
  · exact h' rfl
theorem tt_or {t u : EB} {a b : Bool} (h : t ρ = .ok a) (h' : a = false → u ρ = .ok b) : tOr t u ρ = .ok (a || b) := by
  rw [tOr_eq, h]
  cases a
  · exact h' rfl
  · rfl
theorem tt_andM {t u : EB} {a b : Bool} {m : Option Bool} (hm : (if a = true then m else some false) = some b) (h : t ρ = .ok a) (h' : a = true → m = some b → u ρ = .ok b) : tAnd t u ρ = .ok b := by
  rw [tAnd_eq, h]
  cases a
  · cases hm; rfl
  · exact h' rfl hm
theorem tt_orM {t u : EB} {a b : Bool} {m : Option Bool} (hm : (if a = true then some true else m) = some b) (h : t ρ = .ok a) (h' : a = false → m = some b → u ρ = .ok b) : tOr t u ρ = .ok b := by
  rw [tOr_eq, h]
  cases a
  · exact h' rfl hm
  · cases hm; rfl
/-- and, or, not of bools as values -/
theorem te_and {a b : Bool} (h : f ρ = .ok (zE dB a)) (h' : a = true → g ρ = .ok (zE dB b)) : eAnd f g ρ = .ok (zE dB (a && b)) := by
  rw [eAnd_eq, h]
  cases a
  · rfl
  · exact h' rfl
theorem te_or {a b : Bool} (h : f ρ = .ok (zE dB a)) (h' : a = false → g ρ = .ok (zE dB b)) : eOr f g ρ = .ok (zE dB (a || b)) := by
  rw [eOr_eq, h]
  cases a
  · exact h' rfl
  · rfl
theorem te_andM {a b : Bool} {m : Option Bool} (hm : (if a = true then m else some false) = some b) (h : f ρ = .ok (zE dB a)) (h' : a = true → m = some b → g ρ = .ok (zE dB b)) : eAnd f g ρ = .ok (zE dB b) := by
  rw [eAnd_eq, h]
  cases a
  · cases hm; rfl
  · exact h' rfl hm
theorem te_orM {a b : Bool} {m : Option Bool} (hm : (if a = true then some true else m) = some b) (h : f ρ = .ok (zE dB a)) (h' : a = false → m = some b → g ρ = .ok (zE dB b)) : eOr f g ρ = .ok (zE dB b) := by
  rw [eOr_eq, h]
  cases a
  · exact h' rfl hm
  · cases hm; rfl
theorem te_not {c : Bool} (h : f ρ = .ok o) (h' : truth o = .ok c) : eNot f ρ = .ok (zE dB (!c)) := by rw [eNot_eq, h]; show ((truth o).bind _) = _; rw [h']; rfl
end
/-! ### operators -/
section
variable {α β : Type} {d : α → PyData} {e e' : α → O}
theorem o_add (i j : Int) : gAdd (zE dI i) (zE dI j) = .ok (zE dI (i + j)) := rfl
theorem o_sub (i j : Int) : gSub (zE dI i) (zE dI j) = .ok (zE dI (i - j)) := rfl
theorem o_mul {i j r : Int} (h : mulO i j = some r) : gMul (zE dI i) (zE dI j) = .ok (zE dI r) := by
  unfold mulO at h
  split at h
  · next c => cases h; simp only [gMul, zE, dI]; rw [if_pos c]
  · cases h
theorem o_mulL (i j : Int) (h : -(2 ^ 64) < i ∧ i < 2 ^ 64) : gMul (zE dI i) (zE dI j) = .ok (zE dI (i * j)) := gMul_l h
theorem o_mulR (i j : Int) (h : -(2 ^ 64) < j ∧ j < 2 ^ 64) : gMul (zE dI i) (zE dI j) = .ok (zE dI (i * j)) := gMul_r h
theorem o_mod {i j r : Int} (h : modO i j = some r) : gMod (zE dI i) (zE dI j) = .ok (zE dI r) := by
  unfold modO at h
  split at h
  · next c => cases h; exact gMod_p c
  · cases h
theorem o_modL (i j : Int) (h : 0 < j) : gMod (zE dI i) (zE dI j) = .ok (zE dI (i % j)) := gMod_p h
theorem o_div {i j r : Int} (h : divO i j = some r) : gDiv (zE dI i) (zE dI j) = .ok (zE dI r) := by
  unfold divO at h
  split at h
  · next c => cases h; exact gDiv_p c.1 c.2
  · cases h
theorem o_divL (i j : Int) (h : 0 < j ∧ j < 1073741824) : gDiv (zE dI i) (zE dI j) = .ok (zE dI (i / j)) := gDiv_p h.1 h.2
theorem o_powL (i j : Int) (h : 0 ≤ j ∧ j ≤ 1000000 ∧ i.natAbs < 2 ^ 64) : gPow (zE dI i) (zE dI j) = .ok (zE dI (i ^ j.toNat)) := gPow_ok h
theorem o_neg (i : Int) : gNeg (zE dI i) = .ok (zE dI (-i)) := rfl
/-- lists as seen by lz -/
class LZ (e : List α → O) (d : outParam (α → PyData)) : Prop where
  lz : ∀ xs, lz (e xs) = some (xs.map d)
instance : LZ (zE (dL d)) d := ⟨fun xs => U.lz_z⟩
theorem eL_eq (d : α → PyData) (xs : List α) : eL (zE d) xs = .l ((xs.map d).map .z) := by simp [eL, zE, Function.comp_def]
instance : LZ (eL (zE d)) d := ⟨fun xs => by rw [eL_eq]; exact U.lz_l⟩
theorem o_cat {e e' : List α → O} [h : LZ e d] [h' : LZ e' d] {xs ys zs : List α} (hz : catO xs ys = some zs) : gAdd (e xs) (e' ys) = .ok (eL (zE d) zs) := by
  unfold catO at hz
  split at hz
  · next c =>
    cases hz
    have h1 := h.lz xs
    have h2 := h'.lz ys
    unfold gAdd
    split
    · next a b e1 e2 => rw [e1] at h1; cases h1
    · rw [h1, h2]
      show (if (xs.map d).length + (ys.map d).length ≤ lineMax then _ else _) = _
      rw [if_pos (by simpa using c), ← List.map_append, eL_eq]
  · cases hz
theorem gMul_lz {a : O} {xs : List PyData} {k : Int} (h : lz a = some xs) : gMul a (.z (.int k)) = if -(2 ^ 63) ≤ k ∧ k < 2 ^ 63 ∧ xs.length * k.toNat ≤ lineMax then .ok (.l ((List.replicate k.toNat xs).flatten.map .z)) else .bad := by
  cases a with
  | z d =>
    cases d with
    | int i => cases h
    | _ => simp only [gMul, h]
  | _ => simp only [gMul, h]
theorem o_rep {e : List α → O} [h : LZ e d] {xs zs : List α} {k : Int} (hz : repO xs k = some zs) : gMul (e xs) (zE dI k) = .ok (eL (zE d) zs) := by
  unfold repO at hz
  split at hz
  · next c =>
    cases hz
    show gMul (e xs) (.z (.int k)) = _
    rw [gMul_lz (h.lz xs), if_pos (by simpa using c), eL_eq]
    simp
  · cases hz
end
end U
end
/-! TM -/
section
set_option linter.all false
/-! TM: operators, calls and statements at typed values. -/
namespace U
open PySem (PyData Str)
section
variable {α β γ δ : Type} {d : α → PyData} {ρ : Env} {f : EV}
theorem lm_60 : (60 : Nat) ≤ 60 := Nat.le_refl _
theorem strO_fin {n : Nat} [h : FinD d n] [s : NN d] (x : α) (e : α → O) [w : Seen e d] : True := trivial
/-- == of what is seen as data -/
theorem gEqB_seen {neg : Bool} {e e' : α → O} {n : Nat} [DecidableEq α] [w : Seen e d] [w' : Seen e' d] [h : FinD d n] [q : EqD d] (hn : n ≤ 60) (x y : α) : gEqB neg (e x) (e' y) = .ok (zE dB (decide (x = y) != neg)) := by
  have h1 := h.fin 60 x hn
  have h2 := h.fin 60 y hn
  have h3 : eqD (d x) (d y) = decide (x = y) := by
    by_cases g : x = y
    · rw [(q.eq x y).2 g]; simp [g]
    · have : ¬ eqD (d x) (d y) = true := fun k => g ((q.eq x y).1 k)
      simp at this; simp [this, g]
  unfold gEqB
  split
  · next a b e1 e2 =>
    have u1 : d x = .str a := by
      rw [← w.seen x]
      unfold strO at e1; split at e1
      · next k => cases e1; rw [k]; simp
      · cases e1
    have u2 : d y = .str b := by
      rw [← w'.seen y]
      unfold strO at e2; split at e2
      · next k => cases e2; rw [k]; simp
      · cases e2
    rw [u1, u2] at h3
    simp [eqD] at h3
    simp [h3, zE, dB]
  · rw [w.seen, w'.seen, if_pos ⟨h1, h2⟩, h3]; rfl
theorem o_eq {e e' : α → O} {n : Nat} [DecidableEq α] [Seen e d] [Seen e' d] [FinD d n] [EqD d] (hn : n ≤ 60) (x y : α) : gEq (e x) (e' y) = .ok (zE dB (decide (x = y))) := by
  rw [gEq, gEqB_seen hn]; simp
theorem o_ne {e e' : α → O} {n : Nat} [DecidableEq α] [Seen e d] [Seen e' d] [FinD d n] [EqD d] (hn : n ≤ 60) (x y : α) : gNe (e x) (e' y) = .ok (zE dB (!decide (x = y))) := by
  rw [gNe, gEqB_seen hn]; simp
theorem o_eqS (x y : Str) : gEq (zE dS x) (zE dS y) = .ok (zE dB (x == y)) := gEq_s
theorem o_neS (x y : Str) : gNe (zE dS x) (zE dS y) = .ok (zE dB (!(x == y))) := gNe_s
theorem o_lt (i j : Int) : gLt (zE dI i) (zE dI j) = .ok (zE dB (decide (i < j))) := rfl
theorem o_le (i j : Int) : gLe (zE dI i) (zE dI j) = .ok (zE dB (decide (i ≤ j))) := rfl
theorem o_gt (i j : Int) : gGt (zE dI i) (zE dI j) = .ok (zE dB (decide (j < i))) := rfl
theorem o_ge (i j : Int) : gGe (zE dI i) (zE dI j) = .ok (zE dB (decide (j ≤ i))) := rfl
/-- pairs of whole numbers in order -/
theorem o_lt2 (x y : Int × Int) : gLt (zE (d2 dI dI) x) (zE (d2 dI dI) y) = .ok (zE dB (if x.1 = y.1 then decide (x.2 < y.2) else decide (x.1 < y.1))) := by
  show Res.ok (O.z (.bool (ltI [x.1, x.2] [y.1, y.2]))) = _
  by_cases h : x.1 = y.1
  · by_cases h' : x.2 = y.2 <;> simp [ltI, h, h', zE, dB]
  · simp [ltI, h, zE, dB]
theorem o_le2 (x y : Int × Int) : gLe (zE (d2 dI dI) x) (zE (d2 dI dI) y) = .ok (zE dB (if x.1 = y.1 then decide (x.2 ≤ y.2) else decide (x.1 ≤ y.1))) := by
  show Res.ok (O.z (.bool (leI [x.1, x.2] [y.1, y.2]))) = _
  by_cases h : x.1 = y.1
  · by_cases h' : x.2 = y.2 <;> simp [leI, h, h', zE, dB]
  · simp [leI, h, zE, dB]
theorem o_is [h : NN d] (x : Option α) : gIs (zE (dO d) x) (zE dN ()) = .ok (zE dB x.isNone) := by
  cases x with
  | none => rfl
  | some x => show Res.ok (O.z (.bool (isNone (.z (d x))))) = _; rw [(h.nn x).2.2]; rfl
theorem o_isnt [h : NN d] (x : Option α) : gIsnt (zE (dO d) x) (zE dN ()) = .ok (zE dB x.isSome) := by
  cases x with
  | none => rfl
  | some x => show Res.ok (O.z (.bool (!isNone (.z (d x))))) = _; rw [(h.nn x).2.2]; rfl
theorem o_isF [h : NN d] (x : α) : gIs (zE d x) (zE dN ()) = .ok (zE dB false) := by
  show Res.ok (O.z (.bool (isNone (.z (d x))))) = _; rw [(h.nn x).2.2]; rfl
theorem o_isntT [h : NN d] (x : α) : gIsnt (zE d x) (zE dN ()) = .ok (zE dB true) := by
  show Res.ok (O.z (.bool (!isNone (.z (d x))))) = _; rw [(h.nn x).2.2]; rfl
theorem any_eqD [DecidableEq α] [q : EqD d] (x : α) : ∀ xs : List α, (xs.map d).any (fun e => eqD e (d x)) = decide (x ∈ xs)
  | [] => by simp
  | y :: xs => by
    rw [List.map_cons, List.any_cons, any_eqD x xs]
    have : eqD (d y) (d x) = decide (x = y) := by
      by_cases g : y = x
      · rw [(q.eq y x).2 g]; simp [g]
      · have t : ¬ eqD (d y) (d x) = true := fun k => g ((q.eq y x).1 k)
        have g' : ¬ x = y := fun k => g k.symm
        simp at t; simp [t, g']
    rw [this]; simp
theorem gMem_lz {neg : Bool} {e : α → O} {e' : List α → O} {n : Nat} [DecidableEq α] [w : Seen e d] [z : LZ e' d] [h : FinD d n] [q : EqD d] (hn : n ≤ 59) (x : α) (xs : List α) : gMem neg (e x) (e' xs) = .ok (zE dB (decide (x ∈ xs) != neg)) := by
  unfold gMem
  rw [z.lz, w.seen]
  have h2 : fine 60 (.list (xs.map d)) = true := by
    refine fine_l fun y hy => ?_
    obtain ⟨a, -, rfl⟩ := List.mem_map.1 hy
    exact h.fin 59 a hn
  show (if fine 60 (d x) = true ∧ fine 60 (.list (xs.map d)) = true then _ else _) = _
  rw [if_pos ⟨h.fin 60 x (by omega), h2⟩, inD, any_eqD]; rfl
theorem o_in {e : α → O} {e' : List α → O} {n : Nat} [DecidableEq α] [Seen e d] [LZ e' d] [FinD d n] [EqD d] (hn : n ≤ 59) (x : α) (xs : List α) : gIn (e x) (e' xs) = .ok (zE dB (decide (x ∈ xs))) := by
  rw [gIn, gMem_lz hn]; simp
theorem o_nin {e : α → O} {e' : List α → O} {n : Nat} [DecidableEq α] [Seen e d] [LZ e' d] [FinD d n] [EqD d] (hn : n ≤ 59) (x : α) (xs : List α) : gNin (e x) (e' xs) = .ok (zE dB (!decide (x ∈ xs))) := by
  rw [gNin, gMem_lz hn]; simp
/-- items -/
theorem o_ix {xs : List α} {i : Int} {x : α} (h : at_ xs i = some x) : gIx (zE (dL d) xs) (zE dI i) = .ok (zE d x) := by
  show gIx (.z (.list (xs.map d))) (.z (.int i)) = _
  rw [gIx_l, at_map, h]; rfl
theorem o_ixo {xs : List α} {i : Int} {x : α} (h : at_ xs i = some x) : gIx (eL (zE d) xs) (zE dI i) = .ok (zE d x) := by
  rw [eL_eq]
  show gIx (.l ((xs.map d).map .z)) (.z (.int i)) = _
  rw [gIx_ol, at_map, h]; rfl
theorem o_ixs {xs : List Int} {i : Int} {x : Int} (h : at_ xs i = some x) : gIx (eS xs) (zE dI i) = .ok (zE dI x) := by
  show gIx (.s xs) (.z (.int i)) = _
  rw [gIx_s, h]; rfl
variable {d' : β → PyData} {d'' : γ → PyData} {d3' : δ → PyData}
theorem ixt {ds : List PyData} {i : Int} : gIx (.z (.tuple ds)) (.z (.int i)) = item (at_ ds i) := gIx_t
theorem o_ix2_0 (x : α × β) : gIx (zE (d2 d d') x) (zE dI 0) = .ok (zE d x.1) := ixt
theorem o_ix2_1 (x : α × β) : gIx (zE (d2 d d') x) (zE dI 1) = .ok (zE d' x.2) := ixt
theorem o_ix3_0 (x : α × β × γ) : gIx (zE (d3 d d' d'') x) (zE dI 0) = .ok (zE d x.1) := ixt
theorem o_ix3_1 (x : α × β × γ) : gIx (zE (d3 d d' d'') x) (zE dI 1) = .ok (zE d' x.2.1) := ixt
theorem o_ix3_2 (x : α × β × γ) : gIx (zE (d3 d d' d'') x) (zE dI 2) = .ok (zE d'' x.2.2) := ixt
theorem o_ix4_0 (x : α × β × γ × δ) : gIx (zE (d4 d d' d'' d3') x) (zE dI 0) = .ok (zE d x.1) := ixt
theorem o_ix4_1 (x : α × β × γ × δ) : gIx (zE (d4 d d' d'' d3') x) (zE dI 1) = .ok (zE d' x.2.1) := ixt
theorem o_ix4_2 (x : α × β × γ × δ) : gIx (zE (d4 d d' d'' d3') x) (zE dI 2) = .ok (zE d'' x.2.2.1) := ixt
theorem o_ix4_3 (x : α × β × γ × δ) : gIx (zE (d4 d d' d'' d3') x) (zE dI 3) = .ok (zE d3' x.2.2.2) := ixt
/-- the first two of a tuple -/
theorem o_cut4_2 (x : α × β × γ × δ) : gCut (zE (d4 d d' d'' d3') x) none (some 2) = .ok (zE (d2 d d') (x.1, x.2.1)) := by
  show gCut (.z (.tuple _)) none (some 2) = _
  rw [gCut_t, cut_2]; rfl
theorem o_rev2 (x : α × β) : gRevT (zE (d2 d d') x) = .ok (zE (d2 d' d) (x.2, x.1)) := rfl
/-! ### calls of what Python brings -/
theorem o_len {xs : List α} : kLen [zE (dL d) xs] = .ok (zE dI xs.length) := by
  show kLen [.z (.list (xs.map d))] = _
  rw [kLen_z, List.length_map]; rfl
theorem o_leno {e : α → O} {xs : List α} : kLen [eL e xs] = .ok (zE dI xs.length) := by
  show kLen [.l (xs.map e)] = _
  rw [kLen_l, List.length_map]; rfl
theorem o_lens {xs : List Int} : kLen [eS xs] = .ok (zE dI xs.length) := rfl
theorem o_abs (i : Int) : kAbs [zE dI i] = .ok (zE dI (if i < 0 then -i else i)) := rfl
theorem o_int (i : Int) : kInt [zE dI i] = .ok (zE dI i) := rfl
theorem o_intb (b : Bool) : kInt [zE dB b] = .ok (zE dI (if b then 1 else 0)) := rfl
theorem o_min2 (i j : Int) : kMin2 [zE dI i, zE dI j] = .ok (zE dI (if j < i then j else i)) := rfl
theorem o_max2 (i j : Int) : kMax2 [zE dI i, zE dI j] = .ok (zE dI (if j > i then j else i)) := rfl
theorem o_list {e : List α → O} [h : LZ e d] (xs : List α) : kList [e xs] = .ok (eL (zE d) xs) := by
  unfold kList
  simp only [h.lz, eL_eq]
theorem o_sorted {e : List α → O} {lt : α → α → Bool} {n : Nat} {xs ys : List α} [h : LZ e d] [s : Srt d lt] [t : SrtH d] [q : FinD d n] (hn : n ≤ 60) (hy : sortO lt xs = some ys) : kSorted [e xs] = .ok (eL (zE d) ys) := by
  unfold sortO at hy
  split at hy
  · next c =>
    cases hy
    have ft : fit (xs.map d) := by
      refine ⟨?_, ?_, ?_⟩
      · intro a ha b hb
        obtain ⟨x, -, rfl⟩ := List.mem_map.1 ha
        obtain ⟨y, -, rfl⟩ := List.mem_map.1 hb
        exact s.akin x y
      · rcases t.hd with h | h
        · exact .inl fun a ha => by obtain ⟨x, -, rfl⟩ := List.mem_map.1 ha; exact h x
        · exact .inr fun a ha => by obtain ⟨x, -, rfl⟩ := List.mem_map.1 ha; exact h x
      · intro a ha
        obtain ⟨x, -, rfl⟩ := List.mem_map.1 ha
        exact q.fin 60 x hn
    unfold kSorted
    simp only [h.lz]
    rw [if_pos ⟨ft, by simpa using c⟩, eL_eq]
    congr 2
    rw [← List.map_mergeSort (r := fun a b => !lt b a)]
    intro a _ b _
    rw [s.lte]
  · cases hy
theorem boolsD_mapB : ∀ xs : List Bool, boolsD (xs.map dB) = some xs
  | [] => rfl
  | x :: xs => by
    show (boolsD (xs.map dB)).map (x :: ·) = _
    rw [boolsD_mapB xs]; rfl
theorem o_all {e : List Bool → O} [h : LZ e dB] (xs : List Bool) : kAll [e xs] = .ok (zE dB (xs.all id)) := by
  unfold kAll
  simp only [h.lz, Option.bind_some, boolsD_mapB]
  rfl
theorem o_any {e : List Bool → O} [h : LZ e dB] (xs : List Bool) : kAny [e xs] = .ok (zE dB (xs.any id)) := by
  unfold kAny
  simp only [h.lz, Option.bind_some, boolsD_mapB]
  rfl
theorem o_cut {e : List α → O} [h : LZ e d] (xs : List α) (lo hi : Option Int) : gCut (e xs) lo hi = .ok (eL (zE d) (cut xs lo hi)) := by
  unfold gCut
  simp only [h.lz, cut_map, eL_eq]
theorem o_rev {e : List α → O} [h : LZ e d] (xs : List α) : gRev (e xs) = .ok (eL (zE d) xs.reverse) := by
  unfold gRev
  simp only [h.lz, eL_eq, List.map_reverse]
/-- truth -/
theorem o_trB (b : Bool) : truth (zE dB b) = .ok b := rfl
theorem o_trI (i : Int) : truth (zE dI i) = .ok (i != 0) := rfl
theorem o_trL (xs : List α) : truth (zE (dL d) xs) = .ok (!xs.isEmpty) := by cases xs <;> rfl
theorem o_trO {e : α → O} (xs : List α) : truth (eL e xs) = .ok (!xs.isEmpty) := by cases xs <;> rfl
/-- kinds -/
theorem o_isiI (i : Int) : gIsi .int (zE dI i) = .ok (zE dB true) := rfl
theorem o_isiIb (i : Int) : gIsi .bool (zE dI i) = .ok (zE dB false) := rfl
theorem o_isiOI (i : Option Int) : gIsi .int (zE (dO dI) i) = .ok (zE dB i.isSome) := by cases i <;> rfl
theorem o_isiOb (i : Option Int) : gIsi .bool (zE (dO dI) i) = .ok (zE dB false) := by cases i <;> rfl
theorem o_isiL (xs : List α) : gIsi .list (zE (dL d) xs) = .ok (zE dB true) := rfl
theorem o_isiLo {e : α → O} (xs : List α) : gIsi .list (eL e xs) = .ok (zE dB true) := rfl
theorem o_isiB (b : Bool) : gIsi .bool (zE dB b) = .ok (zE dB true) := rfl
theorem o_isiBi (b : Bool) : gIsi .int (zE dB b) = .ok (zE dB true) := rfl
end
/-! ### dicts -/
section
variable {κ α : Type} [DecidableEq κ]
theorem look_k {κ' : Type} [DecidableEq κ'] {k : κ → κ'} {e : α → O} (inj : ∀ a b, k a = k b → a = b) (x : κ) : ∀ kvs : List (κ × α), look (kvs.map fun p => (k p.1, e p.2)) (k x) = (look kvs x).map e
  | [] => rfl
  | p :: r => by
    rw [List.map_cons, look, look, look_k inj x r]
    by_cases h : p.1 = x
    · simp [h]
    · have : ¬ k p.1 = k x := fun q => h (inj _ _ q)
      simp [h, this]
theorem put_k {κ' : Type} [DecidableEq κ'] {k : κ → κ'} {e : α → O} (inj : ∀ a b, k a = k b → a = b) (x : κ) (v : α) : ∀ kvs : List (κ × α), put (kvs.map fun p => (k p.1, e p.2)) (k x) (e v) = (put kvs x v).map fun p => (k p.1, e p.2)
  | [] => rfl
  | p :: r => by
    rw [List.map_cons, put, put, put_k inj x v r]
    by_cases h : p.1 = x
    · simp [h]
    · have : ¬ k p.1 = k x := fun q => h (inj _ _ q)
      simp [h, this]
end
class Inj {κ κ' : Type} (k : κ → κ') : Prop where
  inj : ∀ a b, k a = k b → a = b
instance : Inj kI := ⟨fun a b h => by cases h; rfl⟩
instance : Inj kS := ⟨fun a b h => by cases h; rfl⟩
instance : Inj k2 := ⟨fun a b h => by obtain ⟨a, a'⟩ := a; obtain ⟨b, b'⟩ := b; simp [k2] at h; simp [h]⟩
instance : Inj k3 := ⟨fun a b h => by obtain ⟨a, a', a''⟩ := a; obtain ⟨b, b', b''⟩ := b; simp [k3] at h; simp [h]⟩
/-- a key as data -/
class KyD {κ : Type} (k : κ → Ky) (e : κ → O) : Prop where
  ky : ∀ x, kyO (e x) = some (k x)
instance : KyD kI (zE dI) := ⟨fun x => rfl⟩
instance : KyD kS (zE dS) := ⟨fun x => rfl⟩
section
variable {κ α : Type} [DecidableEq κ] {d : α → PyData} {ρ : Env} {fd fk fx : EV} {ks : EA}
theorem te_get1 {k : κ → Ky} {ek : κ → O} [i : Inj k] [q : KyD k ek] {kvs : List (κ × α)} {x : κ} (h1 : fd ρ = .ok (eK' k (zE d) kvs)) (h2 : fk ρ = .ok (ek x)) : eGet1K fd fk ρ = .ok (zE (dO d) (look kvs x)) := by
  unfold eGet1K
  rw [h1, h2]
  show (match kyO (ek x) with | some k => zOr (look (kvs.map _) k) (.z .none) | none => .bad) = _
  rw [q.ky]
  show zOr (look (kvs.map _) (k x)) (.z .none) = _
  rw [look_k i.inj]
  cases look kvs x <;> rfl
theorem te_get2 {k : κ → Ky} {ek : κ → O} [i : Inj k] [q : KyD k ek] {kvs : List (κ × α)} {x : κ} {y : α} (h1 : fd ρ = .ok (eK' k (zE d) kvs)) (h2 : fk ρ = .ok (ek x)) (h3 : fx ρ = .ok (zE d y)) : eGet2K fd fk fx ρ = .ok (zE d ((look kvs x).getD y)) := by
  unfold eGet2K
  rw [h1, h2, h3]
  show (match kyO (ek x) with | some k => zOr (look (kvs.map _) k) (zE d y) | none => .bad) = _
  rw [q.ky]
  show zOr (look (kvs.map _) (k x)) (zE d y) = _
  rw [look_k i.inj]
  cases look kvs x <;> rfl
theorem te_dg {k : κ → Ky} {ek : κ → O} [i : Inj k] [q : KyD k ek] {kvs : List (κ × α)} {x : κ} {y : α} (hy : look kvs x = some y) (h1 : fd ρ = .ok (eK' k (zE d) kvs)) (h2 : fk ρ = .ok (ek x)) : eDg fd fk ρ = .ok (zE d y) := by
  unfold eDg
  rw [h1, h2]
  show (match (kyO (ek x)).bind (look (kvs.map _)) with | some y => gZ y | none => .bad) = _
  rw [q.ky, Option.bind_some, look_k i.inj, hy]
  rfl
theorem te_get2T {k : κ → List Ky} [i : Inj k] {kvs : List (κ × α)} {js : List O} {x : κ} {y : α} (h1 : fd ρ = .ok (eT k (zE d) kvs)) (h2 : ks ρ = .ok js) (hl : js.length ≤ lineMax) (hj : kysO js = some (k x)) (h3 : fx ρ = .ok (zE d y)) : eGet2T fd ks fx ρ = .ok (zE d ((look kvs x).getD y)) := by
  unfold eGet2T
  rw [h1, h2, h3]
  show (if js.length ≤ lineMax then (match kysO js with | some k => zOr (look (kvs.map _) k) (zE d y) | none => .bad) else .bad) = _
  rw [if_pos hl, hj]
  show zOr (look (kvs.map _) (k x)) (zE d y) = _
  rw [look_k i.inj]
  cases look kvs x <;> rfl
theorem pairsD_map {k : κ → Ky} {dk : κ → PyData} [q : KyD k (zE dk)] : ∀ xs : List (κ × α), pairsD (xs.map (d2 dk d)) = some (xs.map fun p => (k p.1, d p.2))
  | [] => rfl
  | p :: xs => by
    show (kyO (zE dk p.1)).bind (fun j => (pairsD (xs.map (d2 dk d))).map ((j, d p.2) :: ·)) = _
    rw [q.ky, pairsD_map (k := k) xs]; rfl
/-- dict(xs) -/
def dictOf {κ α : Type} [DecidableEq κ] (xs : List (κ × α)) : List (κ × α) := xs.foldl (fun kvs p => put kvs p.1 p.2) []
theorem o_dict {k : κ → Ky} {dk : κ → PyData} {e : List (κ × α) → O} [i : Inj k] [q : KyD k (zE dk)] [h : LZ e (d2 dk d)] (xs : List (κ × α)) : kDict [e xs] = .ok (eK' k (zE d) (dictOf xs)) := by
  unfold kDict
  simp only [h.lz, Option.bind_some, pairsD_map (k := k)]
  have : ∀ (ys : List (κ × α)) (acc : List (κ × α)), (ys.map fun p => (k p.1, d p.2)).foldl (fun kvs p => put kvs p.1 (.z p.2)) (acc.map fun p => (k p.1, zE d p.2)) = (ys.foldl (fun kvs p => put kvs p.1 p.2) acc).map fun p => (k p.1, zE d p.2) := by
    intro ys
    induction ys with
    | nil => intro acc; rfl
    | cons y ys ih =>
      intro acc
      rw [List.map_cons, List.foldl_cons, List.foldl_cons, ← ih]
      congr 1
      exact put_k i.inj y.1 y.2 acc
  have t := this xs []
  simp only [List.map_nil] at t
  rw [t]; rfl
theorem o_lenK {k : κ → Ky} {e : α → O} (kvs : List (κ × α)) : kLenD [eK' k e kvs] = .ok (zE dI kvs.length) := by
  show Res.ok (O.z (.int _)) = _
  rw [List.length_map]; rfl
theorem o_listK {dk : κ → PyData} {k : κ → Ky} {e : α → O} (hk : ∀ x, kyD (k x) = dk x) (kvs : List (κ × α)) : kListD [eK' k e kvs] = .ok (eL (zE dk) (kvs.map (·.1))) := by
  show Res.ok (O.l _) = _
  simp [eL, zE, Function.comp_def, hk]
end
/-! ### what is walked -/
section
variable {α : Type} {d : α → PyData} {ρ : Env} {f g : EV}
theorem ti_z {xs : List α} (h : f ρ = .ok (zE (dL d) xs)) : iSeqZ f ρ = .ok (xs.map (zE d)) := by
  rw [iSeqZ_eq, h]
  show Res.ok ((xs.map d).map O.z) = _
  rw [List.map_map]; rfl
theorem ti_s {xs : List α} (h : f ρ = .ok (zE (dL d) xs)) : iSeq f ρ = .ok (xs.map (zE d)) := by
  unfold iSeq
  rw [h]
  show Res.ok ((xs.map d).map O.z) = _
  rw [List.map_map]; rfl
theorem ti_so {e : α → O} {xs : List α} (h : f ρ = .ok (eL e xs)) : iSeq f ρ = .ok (xs.map e) := by
  unfold iSeq
  rw [h]; rfl
theorem upTo_rng (n : Nat) (lo : Int) : upTo n lo = ((List.range n).map fun (i : Nat) => lo + (i : Int)).map (zE dI) := by
  unfold upTo
  rw [List.map_map]; rfl
theorem ti_r1 {j : Int} {xs : List Int} (hx : rngO 0 j = some xs) (h : f ρ = .ok (zE dI j)) : iR1 f ρ = .ok (xs.map (zE dI)) := by
  unfold rngO at hx
  split at hx
  · next c =>
    cases hx
    rw [Bool.and_eq_true] at c
    unfold iR1
    rw [h]
    show (if far j = true then _ else _) = _
    rw [if_pos c.2, upTo_rng]; simp
  · cases hx
theorem ti_r2 {i j : Int} {xs : List Int} (hx : rngO i j = some xs) (h : f ρ = .ok (zE dI i)) (h' : g ρ = .ok (zE dI j)) : iR2 f g ρ = .ok (xs.map (zE dI)) := by
  unfold rngO at hx
  split at hx
  · next c =>
    cases hx
    unfold iR2
    rw [h, h']
    show (if (far i && far j) = true then _ else _) = _
    rw [if_pos c, upTo_rng]
  · cases hx
/-- a comprehension -/
theorem lcGo_T {β : Type} {tg : EG} {ts : EB} {el : EV} {e : α → O} {e' : β → O} {p : α → Option Bool} {q : α → Option β} [n : NS e'] : ∀ (xs : List α) (ys : List β) (acc : List O), acc.length + xs.length ≤ lineMax → lcO p q xs = some ys →
    (∀ x b, p x = some b → ∃ ρ1, tg (e x) ρ = some ρ1 ∧ ts ρ1 = .ok b ∧ (b = true → ∀ y, q x = some y → el ρ1 = .ok (e' y))) → lcGo tg ts el ρ (xs.map e) acc = .ok (acc ++ ys.map e')
  | [], ys, acc, _, hy, _ => by cases hy; simp [lcGo]
  | x :: xs, ys, acc, hl, hy, h => by
    have hl' : acc.length + xs.length + 1 ≤ lineMax := by simp at hl; omega
    have ih := fun ys acc hl hy => lcGo_T (p := p) (q := q) xs ys acc hl hy h
    rw [lcO] at hy
    obtain ⟨b, hb, hy⟩ := bind_some hy
    obtain ⟨ρ1, e1, e2, e3⟩ := h x b hb
    show lcGo tg ts el ρ (e x :: xs.map e) acc = _
    rw [lcGo, e1]
    show ((ts ρ1).nox.bind fun b => if b then (el ρ1).nox.bind fun o => if acc.length < lineMax ∧ nS o = true then lcGo tg ts el ρ _ (acc ++ [o]) else .bad else lcGo tg ts el ρ _ acc) = _
    rw [e2]
    cases b
    · exact ih ys acc (by omega) hy
    · obtain ⟨y, hq, hy⟩ := bind_some hy
      rw [Option.map_eq_some_iff] at hy
      obtain ⟨zs, hz, rfl⟩ := hy
      show ((el ρ1).nox.bind _) = _
      rw [e3 rfl y hq]
      show (if acc.length < lineMax ∧ nS (e' y) = true then _ else _) = _
      rw [if_pos ⟨by omega, n.ns y⟩, ih zs _ (by simp; omega) hz]
      simp
theorem te_lc {β : Type} {src : EI} {tg : EG} {ts : EB} {el : EV} {vs : List Nat} {e : α → O} {e' : β → O} {xs : List α} {ys : List β} [NS e'] (p : α → Option Bool) (q : α → Option β) (hx : (sizeO xs).bind (lcO p q) = some ys) (hs : src ρ = .ok (xs.map e))
    (h : ∀ x b, p x = some b → ∃ ρ1, tg (e x) (lend (wipeE ρ vs)) = some ρ1 ∧ ts ρ1 = .ok b ∧ (b = true → ∀ y, q x = some y → el ρ1 = .ok (e' y))) : eLc src tg ts el vs ρ = .ok (eL e' ys) := by
  obtain ⟨xs', h1, h2⟩ := bind_some hx
  unfold sizeO at h1
  split at h1
  · next c =>
    cases h1
    unfold eLc
    rw [hs]
    show ((lcGo tg ts el (lend (wipeE ρ vs)) (xs.map e) []).bind fun os => Res.ok (O.l os)) = _
    rw [lcGo_T xs ys [] (by simpa using c) h2 h]
    rfl
  · cases h1
theorem lcO_pure {β : Type} (p : α → Bool) (q : α → β) : ∀ xs : List α, lcO (fun x => some (p x)) (fun x => some (q x)) xs = some ((xs.filter p).map q)
  | [] => rfl
  | x :: xs => by
    rw [lcO, Option.bind_some, Option.bind_some, lcO_pure p q xs]
    by_cases h : p x = true <;> simp [h]
end
/-! ### statements -/
def Gs (G : Out → Prop) (st : List ES) (o : Out) : Prop := G (st.foldl Out.seq o)
section
variable {G : Out → Prop} {st : List ES} {ρ ρ' : Env} {f : EV} {o : O} {a b : ES} {t : EB} {c : Bool}
theorem gs_seq (h : Gs G (b :: st) (a ρ)) : Gs G st (sSeq a b ρ) := h
theorem gs_nx (h : Gs G st (b ρ)) : Gs G (b :: st) (.nx ρ) := h
theorem gs_end (h : G (.nx ρ)) : Gs G [] (.nx ρ) := h
theorem gs_rt (h : G (.rt o)) : Gs G st (.rt o) := by
  induction st with
  | nil => exact h
  | cons b st ih => exact ih
theorem gs_bk (h : G (.bk ρ)) : Gs G st (.bk ρ) := by
  induction st with
  | nil => exact h
  | cons b st ih => exact ih
theorem gs_ct (h : G (.ct ρ)) : Gs G st (.ct ρ) := by
  induction st with
  | nil => exact h
  | cons b st ih => exact ih
theorem gs_pass (h : Gs G st (.nx ρ)) : Gs G st (sPass ρ) := h
theorem gs_asg {k : EG} (o : O) (h : f ρ = .ok o) (h2 : k o ρ = some ρ') (h3 : Gs G st (.nx ρ')) : Gs G st (sAsg f k ρ) := by
  unfold sAsg; rw [h]; show Gs G st (match k o ρ with | some ρ' => .nx ρ' | none => .bad); rw [h2]; exact h3
theorem gs_drop (o : O) (h : f ρ = .ok o) (h3 : Gs G st (.nx ρ)) : Gs G st (sDrop f ρ) := by
  unfold sDrop; rw [h]; exact h3
theorem gs_ret (o : O) (h : f ρ = .ok o) (h3 : G (.rt o)) : Gs G st (sRet f ρ) := by
  unfold sRet; rw [h]; exact gs_rt h3
theorem gs_retN (h3 : G (.rt (.z .none))) : Gs G st (sRetN ρ) := gs_rt h3
theorem gs_retMv {i : Nat} (o : O) (h : ρ[i]? = some (some (.w o))) (h3 : G (.rt o)) : Gs G st (sRetMv i ρ) := by
  unfold sRetMv; rw [h]; exact gs_rt h3
theorem gs_brk (h3 : G (.bk ρ)) : Gs G st (sBrk ρ) := gs_bk h3
theorem gs_cnt (h3 : G (.ct ρ)) : Gs G st (sCnt ρ) := gs_ct h3
theorem gs_ifT (c : Bool) (ht : t ρ = .ok c) (hc : c = true) (h : Gs G st (a ρ)) : Gs G st (sIf t a b ρ) := by
  subst hc; unfold sIf; rw [ht]; exact h
theorem gs_ifF (c : Bool) (ht : t ρ = .ok c) (hc : c = false) (h : Gs G st (b ρ)) : Gs G st (sIf t a b ρ) := by
  subst hc; unfold sIf; rw [ht]; exact h
/-- both ways meet -/
def Nx (E : Env → Prop) (o : Out) : Prop := ∃ ρ', o = .nx ρ' ∧ E ρ'
def On (E : Env → Prop) (o : Out) : Prop := ∃ ρ', (o = .nx ρ' ∨ o = .ct ρ') ∧ E ρ'
theorem gs_mid {o : Out} (E : Env → Prop) (h1 : Gs (Nx E) [] o) (h2 : ∀ ρ', E ρ' → Gs G st (.nx ρ')) : Gs G st o := by
  obtain ⟨ρ', e, h⟩ := h1
  have e : o = .nx ρ' := e
  rw [e]; exact h2 ρ' h
theorem frz_l {α : Type} {e : α → O} {d : α → PyData} {i : Nat} {x : α} [h : Frz e d] (hr : ρ[i]? = some (some (.w (e x)))) : frz i ρ = ρ.set i (some (.w (zE d x))) := by
  unfold frz; rw [hr]
  show (if dz (e x) = true then _ else _) = _
  rw [if_pos (h.dz x), h.seen]; rfl
theorem frz_k {i : Nat} {o : O} (hr : ρ[i]? = some (some (.w o))) (hd : dz o = false) : frz i ρ = ρ := by
  unfold frz; rw [hr]
  show (if dz o = true then _ else _) = _
  rw [if_neg (by rw [hd]; exact Bool.noConfusion)]
theorem gs_frz {i : Nat} (hf : frz i ρ = ρ') (h : Gs G st (a ρ')) : Gs G st (sFrz i a ρ) := by
  unfold sFrz; rw [hf]; exact h
theorem gs_app {α : Type} {e : α → O} {i : Nat} {xs ys : List α} {x : α} [n : NS e] (hy : snocO xs x = some ys) (hr : ρ[i]? = some (some (.w (eL e xs)))) (hf : f ρ = .ok (e x)) (h : Gs G st (.nx (ρ.set i (some (.w (eL e ys)))))) : Gs G st (sApp i f ρ) := by
  unfold snocO at hy
  split at hy
  · next c =>
    cases hy
    have e1 : eL e (xs ++ [x]) = .l (xs.map e ++ [e x]) := by simp [eL]
    rw [e1] at h
    unfold sApp
    rw [hr]
    show Gs G st ((f ρ).out ρ fun o => if (xs.map e).length < lineMax ∧ nS o = true then .nx (ρ.set i (some (.w (.l (xs.map e ++ [o]))))) else .bad)
    rw [hf]
    show Gs G st (if (xs.map e).length < lineMax ∧ nS (e x) = true then _ else _)
    rw [if_pos ⟨by simpa using c, n.ns x⟩]
    exact h
  · cases hy
theorem gs_aug {i : Nat} {k : Int → Int → Int} {x y v : Int} (hv : v = k x y) (hr : ρ[i]? = some (some (.w (zE dI x)))) (hf : f ρ = .ok (zE dI y)) (h : Gs G st (.nx (ρ.set i (some (.w (zE dI v)))))) : Gs G st (sAug i k f ρ) := by
  subst hv
  unfold sAug
  rw [hr]
  show Gs G st ((f ρ).out ρ _)
  rw [hf]; exact h
/-! changes along ways: the way's thing, its change -/
theorem gs_chg {i : Nat} {q : List Stp} {k : O → Option O} {c x y : O} (ho : ownAt ρ i = some c) (hg : getP c q = some x) (hk : k x = some y) (h : Gs G st (.nx (setAtS ρ i (setP c q y)))) : Gs G st (chg ρ i q k) := by
  unfold chg
  rw [ho]
  show Gs G st (match (getP c q).bind fun d => (k d).map fun d' => setAtS ρ i (setP c q d') with | some ρ' => .nx ρ' | none => .bad)
  rw [hg]
  show Gs G st (match (k x).map fun d' => setAtS ρ i (setP c q d') with | some ρ' => .nx ρ' | none => .bad)
  rw [hk]; exact h
theorem gs_putL {i : Nat} {p : EP} {e : EV} {q : List Stp} {o j : O} (hf : f ρ = .ok o) (hp : p ρ = .ok q) (he : e ρ = .ok j) (h : Gs G st (chg ρ i q (putL j o))) : Gs G st (sPutL i p e f ρ) := by
  unfold sPutL; rw [hf]; show Gs G st ((p ρ).nox.out ρ _); rw [hp]; show Gs G st ((e ρ).nox.out ρ _); rw [he]; exact h
theorem gs_putD {i : Nat} {p : EP} {e : EV} {q : List Stp} {o j : O} (hf : f ρ = .ok o) (hp : p ρ = .ok q) (he : e ρ = .ok j) (h : Gs G st (chg ρ i q (putD j o))) : Gs G st (sPutD i p e f ρ) := by
  unfold sPutD; rw [hf]; show Gs G st ((p ρ).nox.out ρ _); rw [hp]; show Gs G st ((e ρ).nox.out ρ _); rw [he]; exact h
theorem gs_putT {i : Nat} {p : EP} {e : EA} {q : List Stp} {o : O} {js : List O} (hf : f ρ = .ok o) (hp : p ρ = .ok q) (he : e ρ = .ok js) (h : Gs G st (chg ρ i q (putT js o))) : Gs G st (sPutT i p e f ρ) := by
  unfold sPutT; rw [hf]; show Gs G st ((p ρ).nox.out ρ _); rw [hp]; show Gs G st ((e ρ).nox.out ρ _); rw [he]; exact h
theorem gs_addP {i : Nat} {p : EP} {q : List Stp} {o : O} {c : O} {os : List O} (hp : p ρ = .ok q) (ho : ownAt ρ i = some c) (hg : getP c q = some (.l os)) (hf : f ρ = .ok o) (h : Gs G st (chg ρ i q (addL o))) : Gs G st (sAddP i p f ρ) := by
  unfold sAddP; rw [hp]
  show Gs G st (if okP ρ i q = true then _ else _)
  rw [if_pos (by unfold okP; rw [ho]; show (match getP c q with | some (.l _) => true | _ => false) = true; rw [hg])]
  rw [hf]; exact h
theorem tq_n : pN ρ = .ok [] := rfl
theorem tq_ix {p : EP} {e : EV} {q : List Stp} {i : Int} (hp : p ρ = .ok q) (he : e ρ = .ok (zE dI i)) : pIx p e ρ = .ok (q ++ [.ix i]) := by
  rw [pIx_eq, hp]; show ((e ρ).nox.bind _) = _; rw [he]; rfl
theorem tq_k {κ : Type} {k : κ → Ky} {ek : κ → O} [q' : KyD k ek] {p : EP} {e : EV} {q : List Stp} {x : κ} (hp : p ρ = .ok q) (he : e ρ = .ok (ek x)) : pK p e ρ = .ok (q ++ [.k (k x)]) := by
  unfold pK; rw [hp]; show ((e ρ).nox.bind _) = _; rw [he]; show (match kyO (ek x) with | some k => Res.ok (q ++ [Stp.k k]) | none => Res.bad) = _; rw [q'.ky]
/-! the change itself -/
theorem c_putL {α : Type} {e : α → O} {xs ys : List α} {i : Int} {x : α} [n : NS e] (h : setO xs i x = some ys) : putL (zE dI i) (e x) (eL e xs) = some (eL e ys) := by
  unfold setO at h
  rw [Option.map_eq_some_iff] at h
  obtain ⟨m, hm, rfl⟩ := h
  show (if nS (e x) = true then (ixO (xs.map e).length i).map fun n => O.l ((xs.map e).set n (e x)) else none) = _
  rw [if_pos (n.ns x), List.length_map, hm]
  simp [eL]
theorem c_putD {κ α : Type} [DecidableEq κ] {k : κ → Ky} {ek : κ → O} {e : α → O} [i : Inj k] [q : KyD k ek] [n : NS e] {kvs kvs' : List (κ × α)} {x : κ} {v : α} (h : putO kvs x v = some kvs') : putD (ek x) (e v) (eK' k e kvs) = some (eK' k e kvs') := by
  unfold putO at h
  split at h
  · next c =>
    cases h
    show (kyO (ek x)).bind (fun k' => if (kvs.map fun p => (k p.1, e p.2)).length < lineMax ∧ nS (e v) = true then some (O.dk (put (kvs.map fun p => (k p.1, e p.2)) k' (e v))) else none) = _
    rw [q.ky]
    show (if (kvs.map fun p => (k p.1, e p.2)).length < lineMax ∧ nS (e v) = true then some (O.dk (put (kvs.map fun p => (k p.1, e p.2)) (k x) (e v))) else none) = _
    rw [if_pos ⟨by simpa using c, n.ns v⟩, put_k i.inj]; rfl
  · cases h
theorem c_putT {κ α : Type} [DecidableEq κ] {k : κ → List Ky} {e : α → O} [i : Inj k] [n : NS e] {kvs kvs' : List (κ × α)} {js : List O} {x : κ} {v : α} (h : putO kvs x v = some kvs') (hj : kysO js = some (k x)) (hl : js.length ≤ lineMax) : putT js (e v) (eT k e kvs) = some (eT k e kvs') := by
  unfold putO at h
  split at h
  · next c =>
    cases h
    show (kysO js).bind (fun k' => if (kvs.map fun p => (k p.1, e p.2)).length < lineMax ∧ js.length ≤ lineMax ∧ nS (e v) = true then some (O.dt (put (kvs.map fun p => (k p.1, e p.2)) k' (e v))) else none) = _
    rw [hj]
    show (if (kvs.map fun p => (k p.1, e p.2)).length < lineMax ∧ js.length ≤ lineMax ∧ nS (e v) = true then some (O.dt (put (kvs.map fun p => (k p.1, e p.2)) (k x) (e v))) else none) = _
    rw [if_pos ⟨by simpa using c, hl, n.ns v⟩, put_k i.inj]; rfl
  · cases h
theorem c_addL {α : Type} {e : α → O} {xs ys : List α} {x : α} [n : NS e] (h : snocO xs x = some ys) : addL (e x) (eL e xs) = some (eL e ys) := by
  unfold snocO at h
  split at h
  · next c =>
    cases h
    show (if (xs.map e).length < lineMax ∧ nS (e x) = true then some (O.l (xs.map e ++ [e x])) else none) = _
    rw [if_pos ⟨by simpa using c, n.ns x⟩]
    simp [eL]
  · cases h
/-- one step into a list of one's own -/
theorem get_ix {α : Type} {e : α → O} {xs : List α} {i : Int} {x : α} (h : at_ xs i = some x) : ∃ n, ixO xs.length i = some n ∧ xs[n]? = some x := by
  unfold at_ at h
  unfold ixO
  split at h
  · next c =>
    have := (List.getElem?_eq_some_iff.1 h).1
    rw [if_pos c, if_pos (by omega)]
    exact ⟨_, rfl, h⟩
  · next c =>
    rw [if_neg c]
    split at h
    · next c' => rw [if_pos c']; exact ⟨_, rfl, h⟩
    · cases h
theorem gp_1 {α : Type} {e : α → O} {xs : List α} {i : Int} {x : α} (h : at_ xs i = some x) : getP (eL e xs) [.ix i] = some (e x) := by
  obtain ⟨n, h1, h2⟩ := get_ix (e := e) h
  show (ixO (xs.map e).length i).bind (fun n => ((xs.map e)[n]?).bind fun o => getP o []) = _
  rw [List.length_map, h1]
  simp [h2]
theorem sp_1 {α : Type} {e : α → O} {xs ys : List α} {i : Int} {x y : α} (h : at_ xs i = some x) (hy : setO xs i y = some ys) : setP (eL e xs) [.ix i] (e y) = eL e ys := by
  obtain ⟨n, h1, h2⟩ := get_ix (e := e) h
  unfold setO at hy
  rw [h1] at hy
  cases hy
  show (match ixO (xs.map e).length i with | some n => (match (xs.map e)[n]? with | some o => O.l ((xs.map e).set n (setP o [] (e y))) | none => .l (xs.map e)) | none => .l (xs.map e)) = _
  rw [List.length_map, h1]
  have h3 : (xs.map e)[n]? = some (e x) := by simp [h2]
  simp only [h3, setP_nil]
  simp [eL]
end
/-! loops -/
section
variable {R S α : Type} {G : Out → Prop} {st : List ES} {ρ : Env} {fi : EI} {k : EG} {body : ES} {e : α → O}
theorem allZ_zE {d : α → PyData} (xs : List α) : allZ (xs.map (zE d)) = some (xs.map d) := by
  have : xs.map (zE d) = (xs.map d).map .z := by rw [List.map_map]; rfl
  rw [this, allZ_map]
theorem forGo_T {step : S → α → Option S} (E : S → Env → Prop) (hb : ∀ s x s' ρ, E s ρ → step s x = some s' → ∃ ρ1, k (e x) ρ = some ρ1 ∧ Gs (On (E s')) [] (body ρ1)) : ∀ (xs : List α) (s s' : S) (ρ : Env), E s ρ → foldO step xs s = some s' → ∃ ρ', forGo k body (xs.map e) ρ = .nx ρ' ∧ E s' ρ'
  | [], s, s', ρ, h0, h => by cases h; exact ⟨ρ, by rw [List.map_nil, forGo], h0⟩
  | x :: xs, s, s', ρ, h0, h => by
    rw [foldO] at h
    obtain ⟨s1, h1, h2⟩ := bind_some h
    obtain ⟨ρ1, e1, ρ2, e2, h3⟩ := hb s x s1 ρ h0 h1
    obtain ⟨ρ', e3, h4⟩ := forGo_T E hb xs s1 s' ρ2 h3 h2
    refine ⟨ρ', ?_, h4⟩
    rw [List.map_cons, forGo, e1]
    show (body ρ1).turn _ = _
    have e2 : body ρ1 = .nx ρ2 ∨ body ρ1 = .ct ρ2 := e2
    rcases e2 with e2 | e2 <;> rw [e2] <;> exact e3
theorem sFor_T {d : α → PyData} {xs : List α} (hs : fi ρ = .ok (xs.map (zE d))) : sFor fi k body ρ = forGo k body (xs.map (zE d)) ρ := by
  unfold sFor
  rw [hs]
  show (match allZ (xs.map (zE d)) with | some ds => forGo k body (ds.map .z) ρ | none => .bad) = _
  rw [allZ_zE]
  show forGo k body ((xs.map d).map .z) ρ = _
  rw [List.map_map]; rfl
theorem gs_fold {d : α → PyData} {step : S → α → Option S} {xs : List α} {s s' : S} (E : S → Env → Prop) (h : foldO step xs s = some s') (hs : fi ρ = .ok (xs.map (zE d))) (h0 : E s ρ)
    (hb : ∀ s x s' ρ, E s ρ → step s x = some s' → ∃ ρ1, k (zE d x) ρ = some ρ1 ∧ Gs (On (E s')) [] (body ρ1)) (hk : ∀ ρ', E s' ρ' → Gs G st (.nx ρ')) : Gs G st (sFor fi k body ρ) := by
  obtain ⟨ρ', e1, h1⟩ := forGo_T E hb xs s s' ρ h0 h
  rw [sFor_T hs, e1]
  exact hk ρ' h1
/-- a turn that may end the loop, or the def -/
def OnC (E : S → Env → Prop) (eR : R → O) : Ctl R S → Out → Prop
  | .nx s, o => ∃ ρ', (o = .nx ρ' ∨ o = .ct ρ') ∧ E s ρ'
  | .bk s, o => ∃ ρ', o = .bk ρ' ∧ E s ρ'
  | .rt r, o => o = .rt (eR r)
theorem forGo_C {step : S → α → Option (Ctl R S)} (E : S → Env → Prop) (eR : R → O) (hb : ∀ s x c ρ, E s ρ → step s x = some c → ∃ ρ1, k (e x) ρ = some ρ1 ∧ Gs (OnC E eR c) [] (body ρ1)) : ∀ (xs : List α) (s : S) (c : Ctl R S) (ρ : Env), E s ρ → foldC step xs s = some c → (∃ s' ρ', c = .nx s' ∧ forGo k body (xs.map e) ρ = .nx ρ' ∧ E s' ρ') ∨ ∃ r, c = .rt r ∧ forGo k body (xs.map e) ρ = .rt (eR r)
  | [], s, c, ρ, h0, h => by cases h; exact .inl ⟨s, ρ, rfl, by rw [List.map_nil, forGo], h0⟩
  | x :: xs, s, c, ρ, h0, h => by
    rw [foldC] at h
    obtain ⟨c1, h1, h2⟩ := bind_some h
    obtain ⟨ρ1, e1, q⟩ := hb s x c1 ρ h0 h1
    rw [List.map_cons, forGo, e1]
    cases c1 with
    | nx s1 =>
      obtain ⟨ρ2, e2, h3⟩ := q
      have e2 : body ρ1 = .nx ρ2 ∨ body ρ1 = .ct ρ2 := e2
      have ih := forGo_C E eR hb xs s1 c ρ2 h3 h2
      show (∃ s' ρ', c = .nx s' ∧ (body ρ1).turn _ = .nx ρ' ∧ _) ∨ ∃ r, c = .rt r ∧ (body ρ1).turn _ = _
      rcases e2 with e2 | e2 <;> rw [e2] <;> exact ih
    | bk s1 =>
      obtain ⟨ρ2, e2, h3⟩ := q
      have e2 : body ρ1 = .bk ρ2 := e2
      cases h2
      refine .inl ⟨s1, ρ2, rfl, ?_, h3⟩
      show (body ρ1).turn _ = _
      rw [e2]; rfl
    | rt r =>
      have q : body ρ1 = .rt (eR r) := q
      cases h2
      refine .inr ⟨r, rfl, ?_⟩
      show (body ρ1).turn _ = _
      rw [q]; rfl
theorem gs_foldC {T : Type} {d : α → PyData} {step : S → α → Option (Ctl R S)} {xs : List α} {s : S} {m : S → Option T} {w : R → T} {r : T} (E : S → Env → Prop) (eR : R → O) (h : thenC (foldC step xs s) m w = some r) (hs : fi ρ = .ok (xs.map (zE d))) (h0 : E s ρ)
    (hb : ∀ s x c ρ, E s ρ → step s x = some c → ∃ ρ1, k (zE d x) ρ = some ρ1 ∧ Gs (OnC E eR c) [] (body ρ1)) (hk : ∀ s' ρ', m s' = some r → E s' ρ' → Gs G st (.nx ρ')) (hr : ∀ x, w x = r → G (.rt (eR x))) : Gs G st (sFor fi k body ρ) := by
  unfold thenC at h
  obtain ⟨c, h1, h2⟩ := bind_some h
  rw [sFor_T hs]
  rcases forGo_C E eR hb xs s c ρ h0 h1 with ⟨s', ρ', rfl, e1, h3⟩ | ⟨x, rfl, e1⟩
  · rw [e1]; exact hk s' ρ' h2 h3
  · rw [e1]; exact gs_rt (hr x (by cases h2; rfl))
/-- a def's end -/
def Rets (eR : R → O) (r : R) (o : Out) : Prop := o.res = .ok (eR r)
theorem rets_rt {eR : R → O} {r : R} : Rets eR r (.rt (eR r)) := rfl
end
end U
namespace U
open PySem (PyData Str)
/-! small words for printed texts -/
def letO {α β : Type} (x : α) (f : α → Option β) : Option β := f x
@[simp] theorem letO_eq {α β : Type} (x : α) (f : α → Option β) : letO x f = f x := rfl
theorem let_some {α β : Type} {x : α} {f : α → Option β} {r : β} (h : letO x f = some r) : ∃ a, a = x ∧ f a = some r := ⟨x, rfl, h⟩
def reprO (o : O) : Option Str := match kRepr [o] with
  | .ok (.z (.str s)) => some s
  | _ => none
theorem o_repr {o : O} {s : Str} (h : reprO o = some s) : kRepr [o] = .ok (zE dS s) := by
  unfold reprO at h
  split at h
  · next e => cases h; rw [e]; rfl
  · cases h
section
variable {G : Out → Prop} {st : List ES} {ρ : Env} {f : EV} {α β : Type} {E : Env → Prop}
theorem te_eq {e : α → O} {a b : α} (h : a = b) (hp : f ρ = .ok (e b)) : f ρ = .ok (e a) := by rw [h]; exact hp
theorem on_nx (h : E ρ) : Gs (On E) [] (.nx ρ) := ⟨ρ, .inl rfl, h⟩
theorem on_ct (h : E ρ) : Gs (On E) st (sCnt ρ) := gs_ct ⟨ρ, .inr rfl, h⟩
theorem nx_end (h : E ρ) : Gs (Nx E) [] (.nx ρ) := ⟨ρ, rfl, h⟩
variable {S R : Type} {EE : S → Env → Prop} {eR : R → O} {s : S}
theorem onc_nx (h : EE s ρ) : Gs (OnC EE eR (.nx s)) [] (.nx ρ) := ⟨ρ, .inl rfl, h⟩
theorem onc_ct (h : EE s ρ) : Gs (OnC EE eR (.nx s)) st (sCnt ρ) := gs_ct ⟨ρ, .inr rfl, h⟩
theorem onc_bk (h : EE s ρ) : Gs (OnC EE eR (.bk s)) st (sBrk ρ) := gs_bk ⟨ρ, rfl, h⟩
theorem onc_rt {r : R} : OnC EE eR (.rt r : Ctl R S) (.rt (eR r)) := rfl
theorem gs_chg0 {i : Nat} {k : O → Option O} {x y : O} (ho : ownAt ρ i = some x) (hk : k x = some y) (h : Gs G st (.nx (setAtS ρ i y))) : Gs G st (chg ρ i [] k) :=
  gs_chg ho (getP_nil x) hk (by rw [setP_nil]; exact h)
theorem gs_chg1 {i : Nat} {k : O → Option O} {e : α → O} {xs ys : List α} {j : Int} {x y : α} (hx : at_ xs j = some x) (hy : setO xs j y = some ys) (ho : ownAt ρ i = some (eL e xs)) (hk : k (e x) = some (e y)) (h : Gs G st (.nx (setAtS ρ i (eL e ys)))) : Gs G st (chg ρ i [.ix j] k) :=
  gs_chg ho (gp_1 hx) hk (by rw [sp_1 hx hy]; exact h)
theorem gs_add0 {i : Nat} {e : α → O} {xs ys : List α} {x : α} [n : NS e] (hy : snocO xs x = some ys) (ho : ownAt ρ i = some (eL e xs)) (hf : f ρ = .ok (e x)) (h : Gs G st (.nx (setAtS ρ i (eL e ys)))) : Gs G st (sAddP i pN f ρ) :=
  gs_addP (os := xs.map e) tq_n ho (getP_nil _) hf (gs_chg0 ho (c_addL hy) h)
theorem gs_add1 {i : Nat} {e : α → O} {xs : List (List α)} {xs' : List (List α)} {j : EV} {jv : Int} {ys zs : List α} {x : α} [n : NS e] (hx : at_ xs jv = some ys) (hz : snocO ys x = some zs) (hy : setO xs jv zs = some xs') (ho : ownAt ρ i = some (eL (eL e) xs)) (hj : j ρ = .ok (zE dI jv)) (hf : f ρ = .ok (e x)) (h : Gs G st (.nx (setAtS ρ i (eL (eL e) xs')))) : Gs G st (sAddP i (pIx pN j) f ρ) :=
  gs_addP (os := ys.map e) (tq_ix tq_n hj) ho (gp_1 hx) hf (gs_chg1 hx hy ho (c_addL hz) h)
theorem te_lcP {src : EI} {tg : EG} {ts : EB} {el : EV} {vs : List Nat} {e : α → O} {e' : β → O} {xs xs' : List α} [NS e'] (p : α → Bool) (q : α → β) (hx : sizeO xs = some xs') (hs : src ρ = .ok (xs.map e))
    (h : ∀ x, ∃ ρ1, tg (e x) (lend (wipeE ρ vs)) = some ρ1 ∧ ts ρ1 = .ok (p x) ∧ (p x = true → el ρ1 = .ok (e' (q x)))) : eLc src tg ts el vs ρ = .ok (eL e' ((xs'.filter p).map q)) := by
  have : xs' = xs := by unfold sizeO at hx; split at hx <;> cases hx; rfl
  subst this
  refine te_lc (fun x => some (p x)) (fun x => some (q x)) (by rw [hx, Option.bind_some, lcO_pure]) hs ?_
  intro x b hb
  cases hb
  obtain ⟨ρ1, a, b, c⟩ := h x
  exact ⟨ρ1, a, b, fun t y hy => by cases hy; exact c t⟩
theorem te_lcM {src : EI} {tg : EG} {el : EV} {vs : List Nat} {e : α → O} {e' : β → O} {xs xs' : List α} [NS e'] (q : α → β) (hx : sizeO xs = some xs') (hs : src ρ = .ok (xs.map e))
    (h : ∀ x, ∃ ρ1, tg (e x) (lend (wipeE ρ vs)) = some ρ1 ∧ el ρ1 = .ok (e' (q x))) : eLc src tg tYes el vs ρ = .ok (eL e' (xs'.map q)) := by
  have := te_lcP (src := src) (tg := tg) (ts := tYes) (el := el) (vs := vs) (e := e) (e' := e') (xs := xs) (xs' := xs') (fun _ => true) q hx hs fun x => by
    obtain ⟨ρ1, a, b⟩ := h x
    exact ⟨ρ1, a, rfl, fun _ => b⟩
  rw [List.filter_eq_self.2 (fun _ _ => rfl)] at this
  exact this
theorem te_lcO {src : EI} {tg : EG} {ts : EB} {el : EV} {vs : List Nat} {e : α → O} {e' : β → O} {xs xs' : List α} {ys : List β} [NS e'] {p : α → Option Bool} {q : α → Option β} (hx : sizeO xs = some xs') (hy : lcO p q xs' = some ys) (hs : src ρ = .ok (xs.map e))
    (h : ∀ x b, p x = some b → ∃ ρ1, tg (e x) (lend (wipeE ρ vs)) = some ρ1 ∧ ts ρ1 = .ok b ∧ (b = true → ∀ y, q x = some y → el ρ1 = .ok (e' y))) : eLc src tg ts el vs ρ = .ok (eL e' ys) :=
  te_lc p q (by rw [hx, Option.bind_some, hy]) hs h
end
end U
namespace U
theorem lenOK {α : Type} {os : List α} (h : Nat.ble os.length lineMax = true) : os.length ≤ lineMax := Nat.le_of_ble_eq_true h
end U
end
/-! TN -/
section
set_option linter.all false
/-! TN: tools for what is proved of typed functions. -/
namespace U
open PySem (PyData Str)
/-- it ends, and so -/
def Ok {α : Type} (m : Option α) (P : α → Prop) : Prop := ∃ a, m = some a ∧ P a
section
variable {α β S R : Type} {P : α → Prop} {Q : β → Prop}
theorem Ok.some {a : α} (h : P a) : Ok (some a) P := ⟨a, rfl, h⟩
theorem Ok.eq {m : Option α} {a : α} (e : m = Option.some a) (h : P a) : Ok m P := ⟨a, e, h⟩
theorem Ok.bind {m : Option α} {f : α → Option β} (h : Ok m P) (k : ∀ a, P a → Ok (f a) Q) : Ok (m.bind f) Q := by
  obtain ⟨a, e, p⟩ := h
  rw [e]; exact k a p
theorem Ok.bindE {m : Option α} {f : α → Option β} {a : α} (e : m = Option.some a) (k : Ok (f a) Q) : Ok (m.bind f) Q := by
  rw [e]; exact k
theorem Ok.mono {m : Option α} {P' : α → Prop} (h : Ok m P) (k : ∀ a, P a → P' a) : Ok m P' := by
  obtain ⟨a, e, p⟩ := h
  exact ⟨a, e, k a p⟩
theorem Ok.ite {c : Bool} {a b : Option α} (h1 : c = true → Ok a P) (h2 : c = false → Ok b P) : Ok (if c = true then a else b) P := by
  cases c
  · exact h2 rfl
  · exact h1 rfl
theorem Ok.letO {x : α} {f : α → Option β} (h : Ok (f x) Q) : Ok (U.letO x f) Q := h
theorem Ok.get {m : Option α} {a : α} (h : Ok m fun x => x = a) : m = Option.some a := by
  obtain ⟨b, e, rfl⟩ := h; exact e
theorem ok_fold {step : S → α → Option S} {xs : List α} {s : S} (I : List α → S → Prop) (h0 : I [] s)
    (hs : ∀ done x rest s, xs = done ++ x :: rest → I done s → Ok (step s x) (I (done ++ [x]))) : Ok (foldO step xs s) (I xs) := by
  have : ∀ (ys done : List α) (s : S), xs = done ++ ys → I done s → Ok (foldO step ys s) (I xs) := by
    intro ys
    induction ys with
    | nil => intro done s e h; rw [List.append_nil] at e; subst e; exact ⟨s, rfl, h⟩
    | cons y ys ih =>
      intro done s e h
      obtain ⟨s1, e1, h1⟩ := hs done y ys s e h
      rw [foldO, e1]
      exact ih (done ++ [y]) s1 (by rw [e, List.append_assoc]; rfl) h1
  exact this xs [] s rfl h0
/-- a loop over a range -/
def rng (i j : Int) : List Int := (List.range (j - i).toNat).map fun (n : Nat) => i + (n : Int)
theorem rngO_ok {i j : Int} (hi : -(2 ^ 62) ≤ i ∧ i < 2 ^ 62) (hj : -(2 ^ 62) ≤ j ∧ j < 2 ^ 62) : rngO i j = Option.some (rng i j) := by
  unfold rngO
  rw [if_pos]; rfl
  rw [Bool.and_eq_true]
  exact ⟨decide_eq_true hi, decide_eq_true hj⟩
theorem rng_len (i j : Int) : (rng i j).length = (j - i).toNat := by simp [rng]
theorem rng_part {i j x : Int} {done rest : List Int} (h : rng i j = done ++ x :: rest) : x = i + done.length ∧ x < j := by
  have h2 : done.length < (j - i).toNat := by
    have := congrArg List.length h
    simp [rng] at this
    omega
  have h1 : (rng i j)[done.length]? = Option.some x := by rw [h]; simp
  unfold rng at h1
  rw [List.getElem?_map, List.getElem?_range h2] at h1
  simp at h1
  omega
theorem mem_rng {i j x : Int} : x ∈ rng i j ↔ i ≤ x ∧ x < j := by
  simp only [rng, List.mem_map, List.mem_range]
  constructor
  · rintro ⟨n, hn, rfl⟩; omega
  · intro h; exact ⟨(x - i).toNat, by omega, by omega⟩
theorem ok_foldR {step : S → Int → Option S} {i j : Int} {s : S} (I : Int → S → Prop) (hij : i ≤ j) (h0 : I i s)
    (hs : ∀ x s, i ≤ x → x < j → I x s → Ok (step s x) (I (x + 1))) : Ok (foldO step (rng i j) s) (I j) := by
  have := ok_fold (step := step) (xs := rng i j) (s := s) (fun done s => I (i + done.length) s) (by simpa using h0) fun done x rest s e h => by
    obtain ⟨e1, e2⟩ := rng_part e
    have := hs x s (by omega) e2 (by rw [e1]; exact h)
    refine this.mono fun a ha => ?_
    rw [List.length_append, List.length_singleton]
    rw [e1] at ha
    have : i + (done.length : Int) + 1 = i + ((done.length + 1 : Nat) : Int) := by omega
    rw [← this]; exact ha
  refine this.mono fun a ha => ?_
  rw [rng_len] at ha
  have : i + ((j - i).toNat : Int) = j := by omega
  rw [this] at ha; exact ha
/-- a loop that may be over before its end -/
theorem ok_foldC {T : Type} {step : S → α → Option (Ctl R S)} {xs : List α} {s : S} {k : S → Option T} {e : R → T} {Q : T → Prop} (I : List α → S → Prop) (h0 : I [] s)
    (hs : ∀ done x rest s, xs = done ++ x :: rest → I done s → Ok (step s x) fun c => match c with
      | .nx s => I (done ++ [x]) s
      | .bk s => Ok (k s) Q
      | .rt r => Q (e r)) (hk : ∀ s, I xs s → Ok (k s) Q) : Ok (thenC (foldC step xs s) k e) Q := by
  have : ∀ (ys done : List α) (s : S), xs = done ++ ys → I done s → Ok (thenC (foldC step ys s) k e) Q := by
    intro ys
    induction ys with
    | nil => intro done s e h; rw [List.append_nil] at e; subst e; exact hk s h
    | cons y ys ih =>
      intro done s e1 h
      obtain ⟨c, e2, h1⟩ := hs done y ys s e1 h
      unfold thenC
      rw [foldC, e2]
      cases c with
      | nx s1 => exact ih (done ++ [y]) s1 (by rw [e1, List.append_assoc]; rfl) h1
      | bk s1 => exact h1
      | rt r => exact ⟨_, rfl, h1⟩
  exact this xs [] s rfl h0
theorem ok_foldCR {T : Type} {step : S → Int → Option (Ctl R S)} {i j : Int} {s : S} {k : S → Option T} {e : R → T} {Q : T → Prop} (I : Int → S → Prop) (hij : i ≤ j) (h0 : I i s)
    (hs : ∀ x s, i ≤ x → x < j → I x s → Ok (step s x) fun c => match c with
      | .nx s => I (x + 1) s
      | .bk s => Ok (k s) Q
      | .rt r => Q (e r)) (hk : ∀ s, I j s → Ok (k s) Q) : Ok (thenC (foldC step (rng i j) s) k e) Q := by
  refine ok_foldC (fun done s => I (i + done.length) s) (by simpa using h0) ?_ ?_
  · intro done x rest s e h
    obtain ⟨e1, e2⟩ := rng_part e
    refine (hs x s (by omega) e2 (by rw [e1]; exact h)).mono fun c hc => ?_
    cases c with
    | nx s1 =>
      have h2 : I (x + 1) s1 := hc
      show I (i + ((done ++ [x]).length : Int)) s1
      rw [List.length_append, List.length_singleton]
      have : x + 1 = i + ((done.length + 1 : Nat) : Int) := by omega
      rw [← this]; exact h2
    | bk s1 => exact hc
    | rt r => exact hc
  · intro s h
    rw [rng_len] at h
    have : i + ((j - i).toNat : Int) = j := by omega
    rw [this] at h; exact hk s h
theorem at_I0 {xs : List α} {i : Int} (h0 : 0 ≤ i) (h1 : i < xs.length) : at_ xs i = Option.some (xs[i.toNat]'(by omega)) := by
  rw [at_p h0, List.getElem?_eq_getElem]
theorem at_lt {xs : List α} {i : Int} (h0 : 0 ≤ i) (h1 : i < xs.length) : ∃ x, x ∈ xs ∧ at_ xs i = Option.some x := ⟨_, List.getElem_mem _, at_I0 h0 h1⟩
theorem snoc_ok {xs : List α} {x : α} (h : xs.length < 16777216) : snocO xs x = Option.some (xs ++ [x]) := if_pos h
theorem cat_ok {xs ys : List α} (h : xs.length + ys.length ≤ 16777216) : catO xs ys = Option.some (xs ++ ys) := if_pos h
theorem size_ok {xs : List α} (h : xs.length ≤ 16777216) : sizeO xs = Option.some xs := if_pos h
theorem mod_ok {i j : Int} (h : 0 < j) : modO i j = Option.some (i % j) := if_pos h
theorem div_ok {i j : Int} (h : 0 < j) (h' : j < 1073741824) : divO i j = Option.some (i / j) := if_pos ⟨h, h'⟩
theorem mul_ok {i j : Int} (h : (-(2 ^ 64) < i ∧ i < 2 ^ 64) ∨ (-(2 ^ 64) < j ∧ j < 2 ^ 64)) : mulO i j = Option.some (i * j) := if_pos h
theorem sort_ok {lt : α → α → Bool} {xs : List α} (h : xs.length ≤ 16777216) : sortO lt xs = Option.some (xs.mergeSort fun a b => !lt b a) := if_pos h
theorem put_ok {κ : Type} [DecidableEq κ] {kvs : List (κ × α)} {k : κ} {b : α} (h : kvs.length < 16777216) : putO kvs k b = Option.some (put kvs k b) := if_pos h
theorem set_ok {xs : List α} {k : Int} {x : α} (h0 : 0 ≤ k) (h1 : k < xs.length) : setO xs k x = Option.some (xs.set k.toNat x) := by
  unfold setO ixO
  rw [if_pos h0, if_pos h1]; rfl
theorem foldO_congr {step step' : S → α → Option S} {xs : List α} {s : S} (h : ∀ s x, x ∈ xs → step s x = step' s x) : foldO step xs s = foldO step' xs s := by
  induction xs generalizing s with
  | nil => rfl
  | cons x xs ih =>
    rw [foldO, foldO, h s x List.mem_cons_self]
    cases step' s x with
    | none => rfl
    | some s1 => exact ih fun s y hy => h s y (List.mem_cons_of_mem _ hy)
/-- a list that grows: what each turn appends -/
theorem foldO_app {step : List β → α → Option (List β)} {f : α → List β} {B : Nat} {xs : List α} (hB : ∀ x ∈ xs, (f x).length ≤ B) (hs : ∀ acc x, x ∈ xs → acc.length + B ≤ 16777216 → step acc x = Option.some (acc ++ f x)) (hl : xs.length * B ≤ 16777216) : foldO step xs [] = Option.some (xs.flatMap f) := by
  have : Ok (foldO step xs []) fun r => r = xs.flatMap f := by
    refine (ok_fold (fun done (acc : List β) => acc = done.flatMap f ∧ acc.length ≤ done.length * B) ⟨rfl, by simp⟩ ?_).mono fun a ha => ha.1
    rintro done x rest acc e ⟨h1, h2⟩
    have hx : x ∈ xs := by rw [e]; simp
    have hd : (done.length + 1) * B ≤ xs.length * B := Nat.mul_le_mul_right B (by rw [e]; simp)
    rw [Nat.add_mul, Nat.one_mul] at hd
    have hb := hB x hx
    rw [hs acc x hx (by omega)]
    refine Ok.some ⟨by rw [h1]; simp, ?_⟩
    rw [List.length_append, List.length_append, List.length_singleton, Nat.add_mul, Nat.one_mul]
    omega
  exact this.get
end
/-! ### what is shown -/
def Sh {α : Type} (d : α → PyData) (W : Nat) (x : α) : Prop := (d x).showable = true ∧ PyData.leavesShort 13 (d x) = true ∧ (d x).weight ≤ W
section
variable {α β γ δ : Type} {d : α → PyData} {e : β → PyData} {f : γ → PyData} {g : δ → PyData}
theorem sh_I {i : Int} (h : i.natAbs < 10 ^ 12) : Sh dI 40 i := by
  have h1 : i.natAbs < 2 ^ 40 := Nat.lt_trans h (by decide)
  have h2 : i.natAbs.log2 < 40 := by
    by_cases z : i.natAbs = 0
    · rw [z]; decide
    · exact (Nat.log2_lt z).2 h1
  refine ⟨?_, ?_, ?_⟩
  · simp only [dI, PyData.showable, decide_eq_true_eq]; omega
  · simp only [dI, PyData.leavesShort, decide_eq_true_eq]; exact PyData.shown_int_le h
  · simp only [dI, PyData.weight]
    split <;> omega
theorem sh_B {b : Bool} : Sh dB 0 b := ⟨rfl, rfl, Nat.le_of_eq (by simp only [dB, PyData.weight])⟩
theorem sh_O {o : Option α} {W : Nat} (h : ∀ x, o = some x → Sh d W x) : Sh (dO d) W o := by
  cases o with
  | none => exact ⟨rfl, rfl, by simp only [dO, PyData.weight]; omega⟩
  | some x => exact h x rfl
theorem sh_all {W : Nat} : ∀ xs : List α, (∀ x ∈ xs, Sh d W x) → PyData.showableAll (xs.map d) = true ∧ PyData.leavesShortAll 13 (xs.map d) = true ∧ PyData.weightAll (xs.map d) ≤ xs.length * (W + 1)
  | [], _ => ⟨rfl, rfl, by simp [PyData.weightAll]⟩
  | x :: xs, h => by
    obtain ⟨h1, h2, h3⟩ := h x List.mem_cons_self
    obtain ⟨k1, k2, k3⟩ := sh_all xs fun y hy => h y (List.mem_cons_of_mem _ hy)
    refine ⟨by simp only [List.map_cons, PyData.showableAll, h1, k1, Bool.and_self], by simp only [List.map_cons, PyData.leavesShortAll, h2, k2, Bool.and_self], ?_⟩
    simp only [List.map_cons, PyData.weightAll, List.length_cons, Nat.add_mul, Nat.one_mul]
    omega
theorem sh_L {xs : List α} {W N : Nat} (h : ∀ x ∈ xs, Sh d W x) (hN : xs.length * (W + 1) ≤ N) : Sh (dL d) N xs := by
  obtain ⟨k1, k2, k3⟩ := sh_all xs h
  exact ⟨by simpa only [dL, PyData.showable] using k1, by simpa only [dL, PyData.leavesShort] using k2, by simp only [dL, PyData.weight]; omega⟩
theorem sh_2 {x : α × β} {W V : Nat} (h1 : Sh d W x.1) (h2 : Sh e V x.2) : Sh (d2 d e) (W + V + 2) x := by
  refine ⟨?_, ?_, ?_⟩
  · simp only [d2, PyData.showable, PyData.showableAll, h1.1, h2.1, Bool.and_self]
  · simp only [d2, PyData.leavesShort, PyData.leavesShortAll, h1.2.1, h2.2.1, Bool.and_self]
  · have := h1.2.2; have := h2.2.2; simp only [d2, PyData.weight, PyData.weightAll]; omega
theorem sh_3 {x : α × β × γ} {W V U : Nat} (h1 : Sh d W x.1) (h2 : Sh e V x.2.1) (h3 : Sh f U x.2.2) : Sh (d3 d e f) (W + V + U + 3) x := by
  refine ⟨?_, ?_, ?_⟩
  · simp only [d3, PyData.showable, PyData.showableAll, h1.1, h2.1, h3.1, Bool.and_self]
  · simp only [d3, PyData.leavesShort, PyData.leavesShortAll, h1.2.1, h2.2.1, h3.2.1, Bool.and_self]
  · have := h1.2.2; have := h2.2.2; have := h3.2.2; simp only [d3, PyData.weight, PyData.weightAll]; omega
theorem sh_4 {x : α × β × γ × δ} {W V U T : Nat} (h1 : Sh d W x.1) (h2 : Sh e V x.2.1) (h3 : Sh f U x.2.2.1) (h4 : Sh g T x.2.2.2) : Sh (d4 d e f g) (W + V + U + T + 4) x := by
  refine ⟨?_, ?_, ?_⟩
  · simp only [d4, PyData.showable, PyData.showableAll, h1.1, h2.1, h3.1, h4.1, Bool.and_self]
  · simp only [d4, PyData.leavesShort, PyData.leavesShortAll, h1.2.1, h2.2.1, h3.2.1, h4.2.1, Bool.and_self]
  · have := h1.2.2; have := h2.2.2; have := h3.2.2; have := h4.2.2; simp only [d4, PyData.weight, PyData.weightAll]; omega
/-- repr of data -/
theorem repr_z {n W : Nat} [h : FinD d n] (hn : n ≤ 60) {x : α} (hb : boxed (d x) = true) (hs : Sh d W x) (hW : W ≤ 1048576) : reprO (zE d x) = some (d x).shown := by
  have h1 : (d x).shown.length ≤ lineMax := PyData.shown_fits (B := 13) (by decide) (by decide) hs.2.1 (Nat.le_trans hs.2.2 hW)
  unfold reprO
  have : kRepr [zE d x] = .ok (.z (.str (d x).shown)) := by
    show (if fine 60 (d x) = true ∧ (d x).showable = true ∧ (d x).shown.length ≤ lineMax ∧ boxed (d x) = true then _ else _) = _
    rw [if_pos ⟨h.fin 60 x hn, hs.1, h1, hb⟩]
  rw [this]
end
/-! dicts of flat data, shown -/
class FlatD {α : Type} (d : α → PyData) : Prop where
  flat : ∀ x, flat (d x) = true
instance : FlatD dI := ⟨fun _ => rfl⟩
instance : FlatD dB := ⟨fun _ => rfl⟩
instance {α : Type} (d : α → PyData) [h : FlatD d] : FlatD (dO d) := ⟨fun x => by cases x with
  | none => rfl
  | some x => exact h.flat x⟩
/-- the dict as data -/
def dT3 {α : Type} (d : α → PyData) : List ((Int × Int × Int) × α) → PyData := fun kvs => .dict (kvs.map fun p => (.tuple [.int p.1.1, .int p.1.2.1, .int p.1.2.2], d p.2))
theorem stripT3_map {α : Type} (d : α → PyData) : ∀ kvs : List ((Int × Int × Int) × α), stripT (kvs.map fun p => (k3 p.1, zE d p.2)) = kvs.map fun p => (.tuple [.int p.1.1, .int p.1.2.1, .int p.1.2.2], d p.2)
  | [] => by simp [stripT]
  | p :: r => by
    rw [List.map_cons, stripT, stripT3_map d r]
    simp [k3, zE, kyD]
theorem strip_eT3 {α : Type} (d : α → PyData) (kvs : List ((Int × Int × Int) × α)) : strip (eT k3 (zE d) kvs) = dT3 d kvs := by
  rw [eT, strip, stripT3_map]; rfl
theorem sh_T3 {α : Type} {d : α → PyData} {W : Nat} : ∀ kvs : List ((Int × Int × Int) × α), (∀ p ∈ kvs, p.1.1.natAbs < 10 ^ 12 ∧ p.1.2.1.natAbs < 10 ^ 12 ∧ p.1.2.2.natAbs < 10 ^ 12 ∧ Sh d W p.2) →
    Sh (dT3 d) (kvs.length * (W + 125)) kvs := by
  intro kvs h
  have : PyData.showableKv (kvs.map fun p => (PyData.tuple [.int p.1.1, .int p.1.2.1, .int p.1.2.2], d p.2)) = true ∧ PyData.leavesShortKv 13 (kvs.map fun p => (PyData.tuple [.int p.1.1, .int p.1.2.1, .int p.1.2.2], d p.2)) = true ∧ PyData.weightKv (kvs.map fun p => (PyData.tuple [.int p.1.1, .int p.1.2.1, .int p.1.2.2], d p.2)) ≤ kvs.length * (W + 125) := by
    induction kvs with
    | nil => exact ⟨rfl, rfl, by simp [PyData.weightKv]⟩
    | cons p r ih =>
      obtain ⟨h1, h2, h3, h4⟩ := h p List.mem_cons_self
      obtain ⟨k1, k2, k3⟩ := ih fun y hy => h y (List.mem_cons_of_mem _ hy)
      obtain ⟨t1, t2, t3⟩ := sh_3 (d := dI) (e := dI) (f := dI) (x := p.1) (sh_I h1) (sh_I h2) (sh_I h3)
      have t1 : (PyData.tuple [.int p.1.1, .int p.1.2.1, .int p.1.2.2]).showable = true := t1
      have t2 : PyData.leavesShort 13 (PyData.tuple [.int p.1.1, .int p.1.2.1, .int p.1.2.2]) = true := t2
      have t3 : (PyData.tuple [.int p.1.1, .int p.1.2.1, .int p.1.2.2]).weight ≤ 123 := t3
      refine ⟨by simp only [List.map_cons, PyData.showableKv, t1, h4.1, k1, Bool.and_self], by simp only [List.map_cons, PyData.leavesShortKv, t2, h4.2.1, k2, Bool.and_self], ?_⟩
      have := h4.2.2
      simp only [List.map_cons, PyData.weightKv, List.length_cons, Nat.add_mul, Nat.one_mul]
      omega
  exact ⟨by simpa only [dT3, PyData.showable] using this.1, by simpa only [dT3, PyData.leavesShort] using this.2.1, by simpa only [dT3, PyData.weight] using this.2.2⟩
/-- repr((data, dict)) -/
theorem repr_zT {α β : Type} {d : α → PyData} {e : β → PyData} {n W V : Nat} [h : FinD d n] [hf : FlatD e] (hn : n ≤ 59) {x : α} {T : List ((Int × Int × Int) × β)} (h1 : Sh d W x) (h2 : Sh (dT3 e) V T) (hW : W + V + 2 ≤ 1048576) : ∃ s, reprO (t2 (zE d) (eT k3 (zE e)) (x, T)) = some s := by
  have e1 : strip (t2 (zE d) (eT k3 (zE e)) (x, T)) = d2 d (dT3 e) (x, T) := by
    show strip (.t [zE d x, eT k3 (zE e) T]) = _
    simp [strip_eT3, d2, zE]
  have hs : Sh (d2 d (dT3 e)) (W + V + 2) (x, T) := sh_2 h1 h2
  have h3 : (d2 d (dT3 e) (x, T)).shown.length ≤ lineMax := PyData.shown_fits (B := 13) (by decide) (by decide) hs.2.1 (Nat.le_trans hs.2.2 hW)
  have h4 : [zE d x, eT k3 (zE e) T].all shows = true := by
    have a : shows (zE d x) = true := h.fin 59 x hn
    have b : shows (eT k3 (zE e) T) = true := by
      show (T.map fun p => (k3 p.1, zE e p.2)).all (fun p => flatO p.2) = true
      rw [List.all_map, List.all_eq_true]
      intro p _
      exact hf.flat p.2
    simp [a, b]
  refine ⟨(d2 d (dT3 e) (x, T)).shown, ?_⟩
  unfold reprO
  have : kRepr [t2 (zE d) (eT k3 (zE e)) (x, T)] = .ok (.z (.str (d2 d (dT3 e) (x, T)).shown)) := by
    show (if [zE d x, eT k3 (zE e) T].all shows = true ∧ (strip (t2 (zE d) (eT k3 (zE e)) (x, T))).showable = true ∧ (strip (t2 (zE d) (eT k3 (zE e)) (x, T))).shown.length ≤ lineMax then Res.ok (O.z (.str (strip (t2 (zE d) (eT k3 (zE e)) (x, T))).shown)) else .bad) = _
    rw [e1, if_pos ⟨h4, hs.1, h3⟩]
  rw [this]
end U
end
/-! TO -/
section
set_option linter.all false
/-! TO: typed rules for UF's words; good texts, unions. -/
namespace U
open PySem (PyData Str)
/-! ### texts that == may see; unions -/
def GStr := {s : Str // strFine s = true}
instance : DecidableEq GStr := fun a b => decidable_of_iff (a.1 = b.1) Subtype.ext_iff.symm
def dG : GStr → PyData := fun s => .str s.1
instance : FinD dG 0 := ⟨fun m x _ => by
  have : fine m (.str x.1) = strFine x.1 := by cases m <;> rfl
  exact this.trans x.2⟩
instance : EqD dG := ⟨fun x y => by simp [dG, eqD]; exact Subtype.ext_iff.symm⟩
instance : NN dG := ⟨fun x => ⟨rfl, rfl, rfl⟩⟩
instance : FlatD dG := ⟨fun x => rfl⟩
def dU {α β : Type} (d : α → PyData) (e : β → PyData) : Sum α β → PyData
  | .inl x => d x
  | .inr y => e y
class Dis {α β : Type} (d : α → PyData) (e : β → PyData) : Prop where
  dis : ∀ x y, eqD (d x) (e y) = false ∧ eqD (e y) (d x) = false
section
variable {α β γ δ : Type} {d : α → PyData} {e : β → PyData} {f : γ → PyData} {g : δ → PyData}
instance : Dis (dL d) dI := ⟨fun x y => ⟨rfl, rfl⟩⟩
instance : Dis dI (dL d) := ⟨fun x y => ⟨rfl, rfl⟩⟩
instance : Dis (dL d) dG := ⟨fun x y => ⟨rfl, rfl⟩⟩
instance : Dis dG (dL d) := ⟨fun x y => ⟨rfl, rfl⟩⟩
instance : Dis dI dG := ⟨fun x y => ⟨rfl, rfl⟩⟩
instance : Dis dG dI := ⟨fun x y => ⟨rfl, rfl⟩⟩
instance : Dis (d2 d e) dI := ⟨fun x y => ⟨rfl, rfl⟩⟩
instance : Dis dI (d2 d e) := ⟨fun x y => ⟨rfl, rfl⟩⟩
instance : Dis (d2 d e) (dL f) := ⟨fun x y => ⟨rfl, rfl⟩⟩
instance : Dis (dL f) (d2 d e) := ⟨fun x y => ⟨rfl, rfl⟩⟩
instance [h : EqD d] [h' : EqD e] [s : Dis d e] : EqD (dU d e) := ⟨fun x y => by
  cases x <;> cases y <;> simp [dU, h.eq, h'.eq, s.dis]⟩
instance [h : NN d] [h' : NN e] : NN (dU d e) := ⟨fun x => by
  cases x
  · exact h.nn _
  · exact h'.nn _⟩
instance {n k : Nat} [h : FinD d n] [h' : FinD e k] : FinD (dU d e) (max n k) := ⟨fun m x hm => by
  cases x
  · exact h.fin m _ (by omega)
  · exact h'.fin m _ (by omega)⟩
end
/-! ### errors -/
inductive Rs (R : Type) where
  | ok (r : R)
  | er (c : Str) (d : Int)
def resOf {R : Type} (e : R → O) : Rs R → Res O
  | .ok r => .ok (e r)
  | .er c d => .err c (.int d)
def RetsX {R : Type} (e : R → O) (r : Rs R) (o : Out) : Prop := o.res = resOf e r
/-- then, or the error -/
def thenR {A T : Type} (m : Option (Rs A)) (k : A → Option T) (e : Str → Int → Option T) : Option T := m.bind fun c => match c with
  | .ok a => k a
  | .er c d => e c d
theorem thenR_some {A T : Type} {m : Option (Rs A)} {k : A → Option T} {e : Str → Int → Option T} {r : T} (h : thenR m k e = some r) : (∃ a, m = some (.ok a) ∧ k a = some r) ∨ ∃ c d, m = some (.er c d) ∧ e c d = some r := by
  obtain ⟨c, h1, h2⟩ := bind_some h
  cases c with
  | ok a => exact .inl ⟨a, h1, h2⟩
  | er c d => exact .inr ⟨c, d, h1, h2⟩
def tryO {A T : Type} (m : Option (Rs A)) (ks : List Str) (sub : Str → Bool) (k : A → Option T) (h : Str → Int → Option T) : Option T := m.bind fun c => match c with
  | .ok a => k a
  | .er c d => if c ∈ ks ∧ sub c = true then h c d else none
section
variable {G : Out → Prop} {st : List ES} {ρ ρ' : Env} {f f1 f2 : EV} {α R : Type} {e : α → O} {c : Str} {d : PyData} {g : EA} {F : List O → Res O} {os : List O} {o : O}
theorem gs_err (h : G (.err c d ρ)) : Gs G st (.err c d ρ) := by
  induction st with
  | nil => exact h
  | cons b st ih => exact ih
theorem retsX_rt {e : R → O} {r : R} : RetsX e (.ok r) (.rt (e r)) := rfl
theorem retsX_er {e : R → O} {d : Int} : RetsX e (.er c d) (.err c (.int d) ρ) := rfl
theorem gs_raise {i : Int} (hf : f ρ = .ok (zE dI i)) (h : G (.err c (.int i) ρ)) : Gs G st (sRaise c f ρ) := by
  unfold sRaise; rw [hf]; exact gs_err h
theorem xe_call (h : g ρ = .ok os) (h' : F os = .err c d) : eCall F g ρ = .err c d := by rw [eCall_eq, h]; exact h'
theorem xe_fz (h : f ρ = .err c d) : eFz f ρ = .err c d := by rw [eFz_eq, h]; rfl
theorem xe_z (h : f ρ = .err c d) : eZ f ρ = .err c d := by rw [eZ_eq, h]; rfl
theorem xa_hd {r : EA} (h : f ρ = .err c d) : aCons f r ρ = .err c d := by rw [aCons_eq, h]; rfl
theorem xa_tl {r : EA} (h : f ρ = .ok o) (h' : r ρ = .err c d) : aCons f r ρ = .err c d := by rw [aCons_eq, h]; show ((r ρ).bind _) = _; rw [h']; rfl
theorem xe_K {k : List O → Res O} {r : EA} (h : r ρ = .err c d) : eK k r ρ = .err c d := by rw [eK_eq, h]; rfl
theorem xe_callA (h : g ρ = .err c d) : eCall F g ρ = .err c d := by rw [eCall_eq, h]; rfl
theorem xe_lst {r : EA} (h : r ρ = .err c d) : eLst r ρ = .err c d := by rw [eLst_eq, h]; rfl
theorem xe_tup {r : EA} (h : r ρ = .err c d) : eTup r ρ = .err c d := by rw [eTup_eq, h]; rfl
theorem xe_e2a {k : O → O → Res O} (h : f1 ρ = .err c d) : e2 k f1 f2 ρ = .err c d := by rw [e2_eq, h]; rfl
theorem xe_e2b {k : O → O → Res O} (h : f1 ρ = .ok o) (h' : f2 ρ = .err c d) : e2 k f1 f2 ρ = .err c d := by rw [e2_eq, h]; show ((f2 ρ).bind _) = _; rw [h']; rfl
theorem xt_b (h : f ρ = .err c d) : tB f ρ = .err c d := by rw [tB_eq, h]; rfl
theorem xt_v (h : f ρ = .err c d) : tV f ρ = .err c d := by rw [tV_eq, h]; rfl
theorem xt_not {t : EB} (h : t ρ = .err c d) : tNot t ρ = .err c d := by rw [tNot_eq, h]; rfl
theorem gs_asgX {k : EG} (h : f ρ = .err c d) (hg : G (.err c d ρ)) : Gs G st (sAsg f k ρ) := by
  unfold sAsg; rw [h]; exact gs_err hg
theorem gs_retX (h : f ρ = .err c d) (hg : G (.err c d ρ)) : Gs G st (sRet f ρ) := by
  unfold sRet; rw [h]; exact gs_err hg
theorem gs_dropX (h : f ρ = .err c d) (hg : G (.err c d ρ)) : Gs G st (sDrop f ρ) := by
  unfold sDrop; rw [h]; exact gs_err hg
theorem gs_ifX {t : EB} {a b : ES} (h : t ρ = .err c d) (hg : G (.err c d ρ)) : Gs G st (sIf t a b ρ) := by
  unfold sIf; rw [h]; exact gs_err hg
theorem gs_appX {i : Nat} {β : Type} {e' : β → O} {xs : List β} (hr : ρ[i]? = some (some (.w (eL e' xs)))) (h : f ρ = .err c d) (hg : G (.err c d ρ)) : Gs G st (sApp i f ρ) := by
  unfold sApp; rw [hr]; show Gs G st ((f ρ).out ρ _); rw [h]; exact gs_err hg
/-- the body of a try -/
def RetsT {A : Type} (i : Nat) (e : A → O) (t : Rs A) (o : Out) : Prop := match t with
  | .ok r => o = .rt (e r)
  | .er c d => ∃ ρ', o = .err c (.int d) ρ' ∧ Nat.blt i ρ'.length = true
theorem retsT_rt {A : Type} {i : Nat} {e : A → O} {r : A} : RetsT i e (.ok r) (.rt (e r)) := rfl
theorem retsT_er {A : Type} {i : Nat} {e : A → O} {d : Int} (h : Nat.blt i ρ.length = true) : RetsT i e (.er c d) (.err c (.int d) ρ) := ⟨ρ, rfl, h⟩
theorem gs_try {A T : Type} {i : Nat} {ks : List Str} {sub : Str → Bool} {hw : Str → PyData → O} {fs : ES} {e0 : A → O} {m : Option (Rs A)} {k : A → Option T} {hd : Str → Int → Option T} {r : T} (h : tryO m ks sub k hd = some r)
    (hb : ∀ t, m = some t → Gs (RetsT i e0 t) [] (fs ρ)) (hk : ∀ a, k a = some r → G (.rt (e0 a))) (hh : ∀ c d, sub c = true → hd c d = some r → G (.rt (hw c (.int d)))) : Gs G st (sTry i ks sub hw fs ρ) := by
  obtain ⟨t, h1, h2⟩ := bind_some h
  have q := hb t h1
  cases t with
  | ok a =>
    have q : fs ρ = .rt (e0 a) := q
    unfold sTry
    rw [q]
    exact gs_rt (hk a h2)
  | er c d =>
    obtain ⟨ρ', q, hl⟩ := q
    have q : fs ρ = .err c (.int d) ρ' := q
    have h2 : (if c ∈ ks ∧ sub c = true then hd c d else none) = some r := h2
    split at h2
    · next hc =>
      unfold sTry
      rw [q]
      dsimp only
      rw [if_pos ⟨hc.1, by simpa using hl⟩, if_pos hc.2]
      exact gs_rt (hh c d hc.2 h2)
    · cases h2
end
/-! ### while -/
def whO {S : Type} (t : S → Option Bool) (step : S → Option S) : Nat → S → Option S
  | 0, _ => none
  | n + 1, s => (t s).bind fun b => if b = true then (step s).bind (whO t step n) else some s
def whC {R S : Type} (t : S → Option Bool) (step : S → Option (Ctl R S)) : Nat → S → Option (Ctl R S)
  | 0, _ => none
  | n + 1, s => (t s).bind fun b => if b = true then (step s).bind fun c => match c with
    | .nx s => whC t step n s
    | .bk s => some (.nx s)
    | .rt r => some (.rt r)
    else some (.nx s)
section
variable {R S : Type} {G : Out → Prop} {st : List ES} {ρ : Env} {tw : EB} {body : ES}
theorem whGo_T {t : S → Option Bool} {step : S → Option S} (E : S → Env → Prop) (ht : ∀ s b ρ, E s ρ → t s = some b → tw ρ = .ok b) (hb : ∀ s s' ρ, E s ρ → step s = some s' → Gs (On (E s')) [] (body ρ)) : ∀ (n : Nat) (s s' : S) (ρ : Env), E s ρ → whO t step n s = some s' → ∃ ρ', whGo tw body n ρ = .nx ρ' ∧ E s' ρ'
  | 0, s, s', ρ, _, h => by cases h
  | n + 1, s, s', ρ, h0, h => by
    have h : ((t s).bind fun b => if b = true then (step s).bind (whO t step n) else some s) = some s' := h
    obtain ⟨b, h1, h2⟩ := bind_some h
    show ∃ ρ', ((tw ρ).out ρ fun b => if b = true then (body ρ).turn (whGo tw body n) else .nx ρ) = .nx ρ' ∧ _
    rw [ht s b ρ h0 h1]
    cases b with
    | false => cases h2; exact ⟨ρ, rfl, h0⟩
    | true =>
      obtain ⟨s1, h3, h4⟩ := bind_some h2
      obtain ⟨ρ2, e2, h5⟩ := hb s s1 ρ h0 h3
      have e2 : body ρ = .nx ρ2 ∨ body ρ = .ct ρ2 := e2
      obtain ⟨ρ', e3, h6⟩ := whGo_T E ht hb n s1 s' ρ2 h5 h4
      refine ⟨ρ', ?_, h6⟩
      show (body ρ).turn (whGo tw body n) = _
      rcases e2 with e2 | e2 <;> rw [e2] <;> exact e3
theorem gs_wh {n : Nat} {t : S → Option Bool} {step : S → Option S} {s s' : S} (E : S → Env → Prop) (h : whO t step n s = some s') (h0 : E s ρ) (ht : ∀ s b ρ, E s ρ → t s = some b → tw ρ = .ok b) (hb : ∀ s s' ρ, E s ρ → step s = some s' → Gs (On (E s')) [] (body ρ))
    (hk : ∀ ρ', E s' ρ' → Gs G st (.nx ρ')) : Gs G st (sWh n tw body ρ) := by
  obtain ⟨ρ', e1, h1⟩ := whGo_T E ht hb n s s' ρ h0 h
  unfold sWh
  rw [e1]
  exact hk ρ' h1
theorem whGo_C {t : S → Option Bool} {step : S → Option (Ctl R S)} (E : S → Env → Prop) (eR : R → O) (ht : ∀ s b ρ, E s ρ → t s = some b → tw ρ = .ok b) (hb : ∀ s c ρ, E s ρ → step s = some c → Gs (OnC E eR c) [] (body ρ)) : ∀ (n : Nat) (s : S) (c : Ctl R S) (ρ : Env), E s ρ → whC t step n s = some c → (∃ s' ρ', c = .nx s' ∧ whGo tw body n ρ = .nx ρ' ∧ E s' ρ') ∨ ∃ r, c = .rt r ∧ whGo tw body n ρ = .rt (eR r)
  | 0, s, c, ρ, _, h => by cases h
  | n + 1, s, c, ρ, h0, h => by
    have h : ((t s).bind fun b => if b = true then (step s).bind fun c => match c with
      | .nx s => whC t step n s
      | .bk s => some (.nx s)
      | .rt r => some (.rt r)
      else some (.nx s)) = some c := h
    obtain ⟨b, h1, h2⟩ := bind_some h
    show (∃ s' ρ', c = .nx s' ∧ ((tw ρ).out ρ fun b => if b = true then (body ρ).turn (whGo tw body n) else .nx ρ) = .nx ρ' ∧ _) ∨ ∃ r, c = .rt r ∧ ((tw ρ).out ρ fun b => if b = true then (body ρ).turn (whGo tw body n) else .nx ρ) = _
    rw [ht s b ρ h0 h1]
    cases b with
    | false => cases h2; exact .inl ⟨s, ρ, rfl, rfl, h0⟩
    | true =>
      obtain ⟨c1, h3, h4⟩ := bind_some h2
      have q := hb s c1 ρ h0 h3
      show (∃ s' ρ', c = .nx s' ∧ (body ρ).turn (whGo tw body n) = .nx ρ' ∧ _) ∨ ∃ r, c = .rt r ∧ (body ρ).turn (whGo tw body n) = _
      cases c1 with
      | nx s1 =>
        obtain ⟨ρ2, e2, h5⟩ := q
        have e2 : body ρ = .nx ρ2 ∨ body ρ = .ct ρ2 := e2
        have ih := whGo_C E eR ht hb n s1 c ρ2 h5 h4
        rcases e2 with e2 | e2 <;> rw [e2] <;> exact ih
      | bk s1 =>
        obtain ⟨ρ2, e2, h5⟩ := q
        have e2 : body ρ = .bk ρ2 := e2
        cases h4
        exact .inl ⟨s1, ρ2, rfl, by rw [e2]; rfl, h5⟩
      | rt r =>
        have q : body ρ = .rt (eR r) := q
        cases h4
        exact .inr ⟨r, rfl, by rw [q]; rfl⟩
theorem gs_whC {T : Type} {n : Nat} {t : S → Option Bool} {step : S → Option (Ctl R S)} {s : S} {m : S → Option T} {w : R → T} {r : T} (E : S → Env → Prop) (eR : R → O) (h : thenC (whC t step n s) m w = some r) (h0 : E s ρ) (ht : ∀ s b ρ, E s ρ → t s = some b → tw ρ = .ok b)
    (hb : ∀ s c ρ, E s ρ → step s = some c → Gs (OnC E eR c) [] (body ρ)) (hk : ∀ s' ρ', m s' = some r → E s' ρ' → Gs G st (.nx ρ')) (hr : ∀ x, w x = r → G (.rt (eR x))) : Gs G st (sWh n tw body ρ) := by
  unfold thenC at h
  obtain ⟨c, h1, h2⟩ := bind_some h
  unfold sWh
  rcases whGo_C E eR ht hb n s c ρ h0 h1 with ⟨s', ρ', rfl, e1, h3⟩ | ⟨x, rfl, e1⟩
  · rw [e1]; exact hk s' ρ' h2 h3
  · rw [e1]; exact gs_rt (hr x (by cases h2; rfl))
end
/-! ### more changes -/
def popO {α : Type} (xs : List α) : Option (List α) := if 0 < xs.length then some xs.dropLast else none
def remO {α : Type} [DecidableEq α] (xs : List α) (x : α) : Option (List α) := (xs.findIdx? fun y => decide (y = x)).map fun j => xs.eraseIdx j
def dropO {κ β : Type} [DecidableEq κ] (kvs : List (κ × β)) (k : κ) : Option (List (κ × β)) := if (look kvs k).isSome = true then some (out kvs k) else none
def rlO (j : Int) : Option (List Int) := if far j = true ∧ j.toNat ≤ lineMax then some (rng 0 j) else none
section
variable {α β : Type} {G : Out → Prop} {st : List ES} {ρ : Env} {f g : EV} {e : α → O} {d : α → PyData} {p : EP} {q : List Stp}
theorem te_rl {j : Int} {xs : List Int} (hx : rlO j = some xs) (h : f ρ = .ok (zE dI j)) : eRl f ρ = .ok (eL (zE dI) xs) := by
  unfold rlO at hx
  split at hx
  · next c =>
    cases hx
    unfold eRl
    rw [h]
    show (if far j = true ∧ j.toNat ≤ lineMax then Res.ok (O.l (upTo j.toNat 0)) else .bad) = _
    rw [if_pos c, upTo_rng, rng, Int.sub_zero]; rfl
  · cases hx
theorem te_ixB {xs : List α} {i : Int} {x : α} (hx : at_ xs i = some x) (h1 : f ρ = .ok (eL e xs)) (h2 : g ρ = .ok (zE dI i)) : eIxB f g ρ = .ok (e x) := by
  unfold eIxB
  rw [h1, h2]
  show (Res.of (at_ (xs.map e) i)).nox = _
  rw [at_map, hx]; rfl
theorem gs_lm {i : Nat} {k : O → Option O} (hp : p ρ = .ok q) (h : Gs G st (chg ρ i q k)) : Gs G st (sLm i p k ρ) := by
  unfold sLm; rw [hp]; exact h
theorem c_rev {xs : List α} : revL (eL e xs) = some (eL e xs.reverse) := by
  show some (O.l (xs.map e).reverse) = _
  rw [← List.map_reverse]; rfl
theorem c_clr {xs : List α} : clrL (eL e xs) = some (eL e []) := rfl
theorem c_pop {xs ys : List α} (h : popO xs = some ys) : popL (eL e xs) = some (eL e ys) := by
  unfold popO at h
  split at h
  · next c =>
    cases h
    show (if 0 < (xs.map e).length then some (O.l (xs.map e).dropLast) else none) = _
    rw [if_pos (by simpa using c), ← List.map_dropLast]; rfl
  · cases h
theorem gs_le0 {i : Nat} {k : O → O → Option O} {x y : List α} {o : O} (ho : ownAt ρ i = some (eL e x)) (hf : f ρ = .ok o) (hk : k o (eL e x) = some (eL e y)) (h : Gs G st (.nx (setAtS ρ i (eL e y)))) : Gs G st (sLe i pN k f ρ) := by
  unfold sLe
  show Gs G st (if okP ρ i [] = true then _ else _)
  rw [if_pos (by unfold okP; rw [ho]; rfl), hf]
  exact gs_chg0 ho hk h
theorem c_ext {e' : List α → O} [z : LZ e' d] {xs ys zs : List α} (h : catO xs ys = some zs) : extL (e' ys) (eL (zE d) xs) = some (eL (zE d) zs) := by
  unfold catO at h
  split at h
  · next c =>
    cases h
    show (match lz (e' ys) with
      | some ds => if (xs.map (zE d)).length + ds.length ≤ lineMax then some (O.l (xs.map (zE d) ++ ds.map O.z)) else none
      | none => none) = _
    rw [z.lz]
    show (if (xs.map (zE d)).length + (ys.map d).length ≤ lineMax then some (O.l (xs.map (zE d) ++ (ys.map d).map fun w => O.z w)) else none) = _
    rw [if_pos (by simpa using c), List.map_map]
    show some (O.l (xs.map (zE d) ++ ys.map (zE d))) = _
    rw [← List.map_append]; rfl
  · cases h
theorem eraseIdx_mapO {A B : Type} (f : A → B) : ∀ (xs : List A) (j : Nat), (xs.map f).eraseIdx j = (xs.eraseIdx j).map f
  | [], j => rfl
  | x :: xs, 0 => rfl
  | x :: xs, j + 1 => by show f x :: (xs.map f).eraseIdx j = f x :: (xs.eraseIdx j).map f; rw [eraseIdx_mapO f xs j]
theorem c_rem {n : Nat} [DecidableEq α] [hf : FinD d n] [q : EqD d] (hn : n ≤ 60) {xs ys : List α} {x : α} (h : remO xs x = some ys) : remL (zE d x) (eL (zE d) xs) = some (eL (zE d) ys) := by
  unfold remO at h
  rw [Option.map_eq_some_iff] at h
  obtain ⟨j, hj, rfl⟩ := h
  show (match (zE d x : O), allZ (xs.map (zE d)) with
    | .z d, some ds => if fine 60 d = true ∧ ds.all (fine 60) = true then (placeD ds d).map fun j => O.l ((ds.eraseIdx j).map .z) else none
    | _, _ => none) = _
  rw [allZ_zE]
  show (if fine 60 (d x) = true ∧ (xs.map d).all (fine 60) = true then (placeD (xs.map d) (d x)).map fun j => O.l (((xs.map d).eraseIdx j).map .z) else none) = _
  have hp : placeD (xs.map d) (d x) = some j := by
    unfold placeD
    rw [List.findIdx?_map, ← hj]
    congr 1
    funext y
    show eqD (d y) (d x) = decide (y = x)
    by_cases e : y = x
    · rw [(q.eq y x).2 e]; simp [e]
    · have : ¬ eqD (d y) (d x) = true := fun k => e ((q.eq y x).1 k)
      simp at this; simp [this, e]
  rw [if_pos ⟨hf.fin 60 x hn, by rw [List.all_map, List.all_eq_true]; exact fun y _ => hf.fin 60 y hn⟩, hp]
  show some (O.l _) = _
  rw [eraseIdx_mapO, List.map_map]; rfl
theorem gs_popD {i : Nat} {o : O} (hp : p ρ = .ok q) (hf : f ρ = .ok o) (h : Gs G st (chg ρ i q (popD o))) : Gs G st (sPopD i p f ρ) := by
  unfold sPopD; rw [hp]; show Gs G st ((f ρ).nox.out ρ _); rw [hf]; exact h
theorem gs_clrD {i : Nat} (hp : p ρ = .ok q) (h : Gs G st (chg ρ i q clrD)) : Gs G st (sClrD i p ρ) := by
  unfold sClrD; rw [hp]; exact h
theorem c_clrD {κ : Type} {k : κ → Ky} {kvs : List (κ × α)} : clrD (eK' k e kvs) = some (eK' k e []) := rfl
theorem out_k {κ κ' : Type} [DecidableEq κ] [DecidableEq κ'] {k : κ → κ'} (inj : ∀ a b, k a = k b → a = b) (x : κ) (kvs : List (κ × α)) : out (kvs.map fun p => (k p.1, e p.2)) (k x) = (out kvs x).map fun p => (k p.1, e p.2) := by
  unfold out
  rw [List.filter_map]
  congr 1
  apply List.filter_congr
  intro p _
  show decide (k p.1 ≠ k x) = decide (p.1 ≠ x)
  by_cases h : p.1 = x
  · simp [h]
  · have : ¬ k p.1 = k x := fun q => h (inj _ _ q)
    simp [h, this]
theorem c_popD {κ : Type} [DecidableEq κ] {k : κ → Ky} {ek : κ → O} [i : Inj k] [y : KyD k ek] {kvs kvs' : List (κ × α)} {x : κ} (h : dropO kvs x = some kvs') : popD (ek x) (eK' k e kvs) = some (eK' k e kvs') := by
  unfold dropO at h
  split at h
  · next c =>
    cases h
    show (kyO (ek x)).bind (fun j => if (look (kvs.map fun p => (k p.1, e p.2)) j).isSome = true then some (O.dk (out (kvs.map fun p => (k p.1, e p.2)) j)) else none) = _
    rw [y.ky]
    show (if (look (kvs.map fun p => (k p.1, e p.2)) (k x)).isSome = true then some (O.dk (out (kvs.map fun p => (k p.1, e p.2)) (k x))) else none) = _
    rw [look_k i.inj, if_pos (by simpa using c), out_k i.inj]; rfl
  · cases h
/-- a call that changes x -/
theorem gs_callM {i : Nat} {F : List O → Res O} {g : EA} {ds : List PyData} {e' : β → O} [n : NS e'] {x : α} {y : β} (ho : ownAt ρ i = some (e x)) (hg : g ρ = .ok (ds.map .z)) (hF : F (e x :: ds.map .z) = .ok (e' y)) (h : Gs G st (.nx (setAtS ρ i (e' y)))) : Gs G st (sCallM i F g ρ) := by
  unfold sCallM
  rw [ho]
  show Gs G st ((g ρ).nox.out ρ _)
  rw [hg]
  show Gs G st (match allZ (ds.map O.z) with
    | some ds => (F (e x :: ds.map .z)).nox.out ρ fun o' => if nS o' = true then .nx (setAtS ρ i o') else .bad
    | none => .bad)
  rw [allZ_map]
  show Gs G st ((F (e x :: ds.map .z)).nox.out ρ _)
  rw [hF]
  show Gs G st (if nS (e' y) = true then .nx (setAtS ρ i (e' y)) else .bad)
  rw [if_pos (n.ns y)]
  exact h
/-- the end of a def that changes its first argument -/
def RetsM (e : α → O) (r : α) (o : Out) : Prop := ∃ τ, o = .nx (some (.p (e r)) :: τ)
theorem runP_of {n : Nat} {body : ES} {o : O} {ds : List PyData} {r : α} (h : Gs (RetsM e r) [] (body (entryP n o ds))) : runP n body (o :: ds.map .z) = .ok (e r) := by
  obtain ⟨τ, h⟩ := h
  have h : body (entryP n o ds) = .nx (some (.p (e r)) :: τ) := h
  show (match allZ (ds.map O.z) with
    | some ds => match body (entryP n o ds) with
      | .nx (some (.p o') :: _) => Res.ok o'
      | _ => .bad
    | none => .bad) = _
  rw [allZ_map]
  show (match body (entryP n o ds) with
      | .nx (some (.p o') :: _) => Res.ok o'
      | _ => .bad) = _
  rw [h]
theorem retsM {τ : Env} {r : α} : Gs (RetsM e r) [] (.nx (some (.p (e r)) :: τ)) := ⟨τ, rfl⟩
end
theorem te_cG {ρ : Env} (g : GStr) : eC (.str g.1) ρ = .ok (zE dG g) := rfl
theorem te_cI {ρ : Env} (i : Int) : eC (.int i) ρ = .ok (zE dI i) := rfl
theorem te_cB {ρ : Env} (b : Bool) : eC (.bool b) ρ = .ok (zE dB b) := rfl
/-- in, of a pair -/
theorem o_in2 (a : Int) (x : Int × Int) : gIn (zE dI a) (zE (d2 dI dI) x) = .ok (zE dB (decide (a = x.1) || decide (a = x.2))) := by
  have q : gIn (zE dI a) (zE (d2 dI dI) x) = (if flat (.int a) = true ∧ [PyData.int x.1, PyData.int x.2].all flat = true then Res.ok (O.z (.bool (inD (.int a) [.int x.1, .int x.2] != false))) else .bad) := rfl
  have e1 : (x.1 == a) = decide (a = x.1) := by rw [Bool.eq_iff_iff, beq_iff_eq, decide_eq_true_iff]; exact ⟨Eq.symm, Eq.symm⟩
  have e2 : (x.2 == a) = decide (a = x.2) := by rw [Bool.eq_iff_iff, beq_iff_eq, decide_eq_true_iff]; exact ⟨Eq.symm, Eq.symm⟩
  rw [q, if_pos ⟨rfl, rfl⟩]
  simp [inD, eqD, zE, dB, e1, e2]
theorem o_nin2 (a : Int) (x : Int × Int) : gNin (zE dI a) (zE (d2 dI dI) x) = .ok (zE dB (!(decide (a = x.1) || decide (a = x.2)))) := by
  have q : gNin (zE dI a) (zE (d2 dI dI) x) = (if flat (.int a) = true ∧ [PyData.int x.1, PyData.int x.2].all flat = true then Res.ok (O.z (.bool (inD (.int a) [.int x.1, .int x.2] != true))) else .bad) := rfl
  have e1 : (x.1 == a) = decide (a = x.1) := by rw [Bool.eq_iff_iff, beq_iff_eq, decide_eq_true_iff]; exact ⟨Eq.symm, Eq.symm⟩
  have e2 : (x.2 == a) = decide (a = x.2) := by rw [Bool.eq_iff_iff, beq_iff_eq, decide_eq_true_iff]; exact ⟨Eq.symm, Eq.symm⟩
  rw [q, if_pos ⟨rfl, rfl⟩]
  simp [inD, eqD, zE, dB, e1, e2]
theorem gs_in {R : Type} {e : R → O} {r : R} {o : Out} (h : Gs (Rets e r) [] o) : o.res = .ok (e r) := h
theorem gs_inX {R : Type} {e : R → O} {r : Rs R} {o : Out} (h : Gs (RetsX e r) [] o) : o.res = resOf e r := h
theorem try_ok {i : Nat} {ks : List Str} {sub : Str → Bool} {hw : Str → PyData → O} {fs : ES} {ρ : Env} {o : O} (h : fs ρ = .rt o) : sTry i ks sub hw fs ρ = .rt o := by unfold sTry; rw [h]
theorem try_er {i : Nat} {ks : List Str} {sub : Str → Bool} {hw : Str → PyData → O} {fs : ES} {ρ ρ' : Env} {c : Str} {d : PyData} (h : fs ρ = .err c d ρ') (hc : c ∈ ks) (hl : i < ρ'.length) (hs : sub c = true) : sTry i ks sub hw fs ρ = .rt (hw c d) := by
  unfold sTry; rw [h]; dsimp only; rw [if_pos ⟨hc, hl⟩, if_pos hs]
theorem ret_ok {f : EV} {ρ : Env} {o : O} (h : f ρ = .ok o) : sRet f ρ = .rt o := by unfold sRet; rw [h]; rfl
theorem ret_er {f : EV} {ρ : Env} {c : Str} {d : PyData} (h : f ρ = .err c d) : sRet f ρ = .err c d ρ := by unfold sRet; rw [h]; rfl
end U
end
/-! TK -/
section
set_option linter.all false
/-! TK: errors as values, typed. -/
namespace U
open PySem (PyData Str)
def eX : Str × Int → O := fun p => .x p.1 (.int p.2)
def eOX : Option (Str × Int) → O
  | none => .z .none
  | some p => eX p
def isxO (ks : List Str) (sub : Str → Bool) (v : Str × Int) : Option Bool := if v.1 ∈ ks then some (sub v.1) else none
section
variable {ρ : Env} {f : EV}
theorem te_newx {c : Str} {i : Int} (h : f ρ = .ok (zE dI i)) : eNewX c f ρ = .ok (eX (c, i)) := by unfold eNewX; rw [h]; rfl
theorem te_atx {v : Str × Int} (h : f ρ = .ok (eX v)) : eAtX f ρ = .ok (zE dI v.2) := by unfold eAtX; rw [h]; rfl
theorem te_isx {ks : List Str} {sub : Str → Bool} {v : Str × Int} {b : Bool} (hb : isxO ks sub v = some b) (h : f ρ = .ok (eX v)) : eIsX ks sub f ρ = .ok (zE dB b) := by
  unfold isxO at hb
  split at hb
  · next c =>
    cases hb
    unfold eIsX; rw [h]
    show (if v.1 ∈ ks then _ else _) = _
    rw [if_pos c]; rfl
  · cases hb
theorem te_unwx {x : Option (Str × Int)} {y : Str × Int} (hx : x = some y) (h : f ρ = .ok (eOX x)) : f ρ = .ok (eX y) := by subst hx; exact h
end
end U
end
/-! E_k08 -/
section
set_option linter.all false
namespace Z
open PySem (PyData Str)
open U
noncomputable section
def KSL : List Str := ["OverpassesError", "BadLine", "BadPlace", "BadPrice", "WrongOrder", "NoLink", "NoPlace", "NotAnOrder", "NoPair", "NothingToUndo", "OutOfRange", "NoTurn", "BadKind", "BadWorth", "BadRule", "WrongSize"]
/-- _law_first(k, n): slots k=0 n=1 -/
def b__law_first : ES := sSeq (sIf (tB (e2 gEq (eVar 0) (eC (.int 0))))
  (sRet (eNewX "BadLine" (eZ (eVar 1))))
  sPass)
  (sSeq (sIf (tB (e2 gEq (eVar 0) (eC (.int 1))))
  (sRet (eNewX "BadPlace" (eZ (eVar 1))))
  sPass)
  (sSeq (sIf (tB (e2 gEq (eVar 0) (eC (.int 2))))
  (sRet (eNewX "BadPrice" (eZ (eVar 1))))
  sPass)
  (sSeq (sIf (tB (e2 gEq (eVar 0) (eC (.int 3))))
  (sRet (eNewX "WrongOrder" (eZ (eVar 1))))
  sPass)
  (sSeq (sIf (tB (e2 gEq (eVar 0) (eC (.int 4))))
  (sRet (eNewX "NoLink" (eZ (eVar 1))))
  sPass)
  (sSeq (sIf (tB (e2 gEq (eVar 0) (eC (.int 5))))
  (sRet (eNewX "NoPlace" (eZ (eVar 1))))
  sPass)
  (sRet (eC .none)))))))
def ev__law_first : List O → Res O := run 2 b__law_first
/-- _law_second(k, n): slots k=0 n=1 -/
def b__law_second : ES := sSeq (sIf (tB (e2 gEq (eVar 0) (eC (.int 6))))
  (sRet (eNewX "NotAnOrder" (eZ (eVar 1))))
  sPass)
  (sSeq (sIf (tB (e2 gEq (eVar 0) (eC (.int 7))))
  (sRet (eNewX "NoPair" (eZ (eVar 1))))
  sPass)
  (sSeq (sIf (tB (e2 gEq (eVar 0) (eC (.int 8))))
  (sRet (eNewX "NothingToUndo" (eZ (eVar 1))))
  sPass)
  (sSeq (sIf (tB (e2 gEq (eVar 0) (eC (.int 9))))
  (sRet (eNewX "OutOfRange" (eZ (eVar 1))))
  sPass)
  (sSeq (sIf (tB (e2 gEq (eVar 0) (eC (.int 10))))
  (sRet (eNewX "NoTurn" (eZ (eVar 1))))
  sPass)
  (sSeq (sIf (tB (e2 gEq (eVar 0) (eC (.int 11))))
  (sRet (eNewX "BadKind" (eZ (eVar 1))))
  sPass)
  (sSeq (sIf (tB (e2 gEq (eVar 0) (eC (.int 12))))
  (sRet (eNewX "BadWorth" (eZ (eVar 1))))
  sPass)
  (sSeq (sIf (tB (e2 gEq (eVar 0) (eC (.int 13))))
  (sRet (eNewX "BadRule" (eZ (eVar 1))))
  sPass)
  (sSeq (sIf (tB (e2 gEq (eVar 0) (eC (.int 14))))
  (sRet (eNewX "WrongSize" (eZ (eVar 1))))
  sPass)
  (sRet (eC .none))))))))))
def ev__law_second : List O → Res O := run 2 b__law_second
/-- _law_kinds(e): slots e=0 -/
def b__law_kinds : ES := sRet (eLst (aCons (eIsX KSL (below "BadLine") (eVar 0)) (aCons (eIsX KSL (below "BadPlace") (eVar 0)) (aCons (eIsX KSL (below "BadPrice") (eVar 0)) (aCons (eIsX KSL (below "WrongOrder") (eVar 0)) (aCons (eIsX KSL (below "NoLink") (eVar 0)) (aCons (eIsX KSL (below "NoPlace") (eVar 0)) (aCons (eIsX KSL (below "NotAnOrder") (eVar 0)) (aCons (eIsX KSL (below "NoPair") (eVar 0)) (aCons (eIsX KSL (below "NothingToUndo") (eVar 0)) (aCons (eIsX KSL (below "OutOfRange") (eVar 0)) (aCons (eIsX KSL (below "NoTurn") (eVar 0)) (aCons (eIsX KSL (below "BadKind") (eVar 0)) (aCons (eIsX KSL (below "BadWorth") (eVar 0)) (aCons (eIsX KSL (below "BadRule") (eVar 0)) (aCons (eIsX KSL (below "WrongSize") (eVar 0)) aNil))))))))))))))))
def ev__law_kinds : List O → Res O := run 1 b__law_kinds
/-- law(script): slots script=0 number=1 k=2 e=3 base=4 j=5 -/
def b_law : ES := sSeq (sAsg (eC (.int 0)) (tN 1))
  (sSeq (sIf (tB (e2 gGt (eK kLen (aCons (eVar 0) aNil)) (eC (.int 0))))
  (sAsg (e2 gSub (e2 gMod (eK kInt (aCons (e2 gIx (eVar 0) (eC (.int 0))) aNil)) (e2 gPow (eC (.int 10)) (eC (.int 30)))) (e2 gPow (eC (.int 10)) (eC (.int 15)))) (tN 1))
  sPass)
  (sSeq (sFor (iR1 (eC (.int 15))) (tN 2)
  (sSeq (sAsg (eCall ev__law_first (aCons (eVar 2) (aCons (e2 gAdd (eVar 1) (eVar 2)) aNil))) (tN 3))
  (sSeq (sIf (tB (e2 gGe (eVar 2) (eC (.int 6))))
  (sAsg (eCall ev__law_second (aCons (eVar 2) (aCons (e2 gAdd (eVar 1) (eVar 2)) aNil))) (tN 3))
  sPass)
  (sSeq (sIf (tOr (tNot (tV (eIsX KSL (below "OverpassesError") (eVar 3)))) (tNot (tV (eIsX KSL anyC (eVar 3)))))
  (sRet (eC (.bool false)))
  sPass)
  (sSeq (sIf (tOr (tNot (tV (eIsi .int (eAtX (eVar 3))))) (tOr (tV (eIsi .bool (eAtX (eVar 3)))) (tB (e2 gNe (eAtX (eVar 3)) (e2 gAdd (eVar 1) (eVar 2))))))
  (sRet (eC (.bool false)))
  sPass)
  (sIf (tB (e2 gNe (eCall ev__law_kinds (aCons (eVar 3) aNil)) (eLc (iR1 (eC (.int 15))) (tNr 5) tYes (e2 gEq (eVar 5) (eVar 2)) [5])))
  (sRet (eC (.bool false)))
  sPass))))))
  (sSeq (sAsg (eNewX "OverpassesError" (eZ (eVar 1))) (tN 4))
  (sRet (eAnd (e2 gEq (eAtX (eVar 4)) (eVar 1)) (e2 gEq (eCall ev__law_kinds (aCons (eVar 4) aNil)) (eLc (iR1 (eC (.int 15))) (tNr 5) tYes (eC (.bool false)) [5])))))))
def ev_law : List O → Res O := run 6 b_law
end
end Z
end
/-! T_k08 -/
section
set_option linter.all false
set_option maxRecDepth 4000
namespace Z
open PySem (PyData Str)
open U
noncomputable section
/-- _law_first -/
def p__law_first (k : Int) (n : Int) : Option (Option (Str × Int)) :=
  if (decide (k = (0 : Int))) = true then
    some (some (("BadLine" : Str), n))
  else
    if (decide (k = (1 : Int))) = true then
      some (some (("BadPlace" : Str), n))
    else
      if (decide (k = (2 : Int))) = true then
        some (some (("BadPrice" : Str), n))
      else
        if (decide (k = (3 : Int))) = true then
          some (some (("WrongOrder" : Str), n))
        else
          if (decide (k = (4 : Int))) = true then
            some (some (("NoLink" : Str), n))
          else
            if (decide (k = (5 : Int))) = true then
              some (some (("NoPlace" : Str), n))
            else
              some none
theorem t__law_first (k : Int) (n : Int) (res' : Option (Str × Int)) (h : p__law_first k n = some res') : ev__law_first [(zE dI) k, (zE dI) n] = .ok (eOX res') := by
  unfold p__law_first at h
  unfold ev__law_first run b__law_first
  refine gs_in ?_
  rw [show entry 2 [(zE dI) k, (zE dI) n] = [some (.w ((zE dI) k)), some (.w ((zE dI) n))] from rfl]
  refine gs_seq ?_
  rcases ite_some h with ⟨hc, h⟩ | ⟨hc, h⟩
  · refine gs_ifT ((decide (k = (0 : Int)))) (tt_b (te_e2 rfl (te_cI (0 : Int)) (o_eq (d := dI) (e := (zE dI)) (e' := (zE dI)) (by decide) k (0 : Int)))) hc ?_
    obtain rfl := Option.some.inj h
    exact gs_ret (eOX (some (("BadLine" : Str), n))) (te_newx (te_z rfl)) rets_rt
  · refine gs_ifF ((decide (k = (0 : Int)))) (tt_b (te_e2 rfl (te_cI (0 : Int)) (o_eq (d := dI) (e := (zE dI)) (e' := (zE dI)) (by decide) k (0 : Int)))) hc ?_
    refine gs_pass ?_
    refine gs_nx ?_
    refine gs_seq ?_
    rcases ite_some h with ⟨hc, h⟩ | ⟨hc, h⟩
    · refine gs_ifT ((decide (k = (1 : Int)))) (tt_b (te_e2 rfl (te_cI (1 : Int)) (o_eq (d := dI) (e := (zE dI)) (e' := (zE dI)) (by decide) k (1 : Int)))) hc ?_
      obtain rfl := Option.some.inj h
      exact gs_ret (eOX (some (("BadPlace" : Str), n))) (te_newx (te_z rfl)) rets_rt
    · refine gs_ifF ((decide (k = (1 : Int)))) (tt_b (te_e2 rfl (te_cI (1 : Int)) (o_eq (d := dI) (e := (zE dI)) (e' := (zE dI)) (by decide) k (1 : Int)))) hc ?_
      refine gs_pass ?_
      refine gs_nx ?_
      refine gs_seq ?_
      rcases ite_some h with ⟨hc, h⟩ | ⟨hc, h⟩
      · refine gs_ifT ((decide (k = (2 : Int)))) (tt_b (te_e2 rfl (te_cI (2 : Int)) (o_eq (d := dI) (e := (zE dI)) (e' := (zE dI)) (by decide) k (2 : Int)))) hc ?_
        obtain rfl := Option.some.inj h
        exact gs_ret (eOX (some (("BadPrice" : Str), n))) (te_newx (te_z rfl)) rets_rt
      · refine gs_ifF ((decide (k = (2 : Int)))) (tt_b (te_e2 rfl (te_cI (2 : Int)) (o_eq (d := dI) (e := (zE dI)) (e' := (zE dI)) (by decide) k (2 : Int)))) hc ?_
        refine gs_pass ?_
        refine gs_nx ?_
        refine gs_seq ?_
        rcases ite_some h with ⟨hc, h⟩ | ⟨hc, h⟩
        · refine gs_ifT ((decide (k = (3 : Int)))) (tt_b (te_e2 rfl (te_cI (3 : Int)) (o_eq (d := dI) (e := (zE dI)) (e' := (zE dI)) (by decide) k (3 : Int)))) hc ?_
          obtain rfl := Option.some.inj h
          exact gs_ret (eOX (some (("WrongOrder" : Str), n))) (te_newx (te_z rfl)) rets_rt
        · refine gs_ifF ((decide (k = (3 : Int)))) (tt_b (te_e2 rfl (te_cI (3 : Int)) (o_eq (d := dI) (e := (zE dI)) (e' := (zE dI)) (by decide) k (3 : Int)))) hc ?_
          refine gs_pass ?_
          refine gs_nx ?_
          refine gs_seq ?_
          rcases ite_some h with ⟨hc, h⟩ | ⟨hc, h⟩
          · refine gs_ifT ((decide (k = (4 : Int)))) (tt_b (te_e2 rfl (te_cI (4 : Int)) (o_eq (d := dI) (e := (zE dI)) (e' := (zE dI)) (by decide) k (4 : Int)))) hc ?_
            obtain rfl := Option.some.inj h
            exact gs_ret (eOX (some (("NoLink" : Str), n))) (te_newx (te_z rfl)) rets_rt
          · refine gs_ifF ((decide (k = (4 : Int)))) (tt_b (te_e2 rfl (te_cI (4 : Int)) (o_eq (d := dI) (e := (zE dI)) (e' := (zE dI)) (by decide) k (4 : Int)))) hc ?_
            refine gs_pass ?_
            refine gs_nx ?_
            refine gs_seq ?_
            rcases ite_some h with ⟨hc, h⟩ | ⟨hc, h⟩
            · refine gs_ifT ((decide (k = (5 : Int)))) (tt_b (te_e2 rfl (te_cI (5 : Int)) (o_eq (d := dI) (e := (zE dI)) (e' := (zE dI)) (by decide) k (5 : Int)))) hc ?_
              obtain rfl := Option.some.inj h
              exact gs_ret (eOX (some (("NoPlace" : Str), n))) (te_newx (te_z rfl)) rets_rt
            · refine gs_ifF ((decide (k = (5 : Int)))) (tt_b (te_e2 rfl (te_cI (5 : Int)) (o_eq (d := dI) (e := (zE dI)) (e' := (zE dI)) (by decide) k (5 : Int)))) hc ?_
              refine gs_pass ?_
              refine gs_nx ?_
              obtain rfl := Option.some.inj h
              exact gs_ret (eOX none) rfl rets_rt

/-- _law_second -/
def p__law_second (k : Int) (n : Int) : Option (Option (Str × Int)) :=
  if (decide (k = (6 : Int))) = true then
    some (some (("NotAnOrder" : Str), n))
  else
    if (decide (k = (7 : Int))) = true then
      some (some (("NoPair" : Str), n))
    else
      if (decide (k = (8 : Int))) = true then
        some (some (("NothingToUndo" : Str), n))
      else
        if (decide (k = (9 : Int))) = true then
          some (some (("OutOfRange" : Str), n))
        else
          if (decide (k = (10 : Int))) = true then
            some (some (("NoTurn" : Str), n))
          else
            if (decide (k = (11 : Int))) = true then
              some (some (("BadKind" : Str), n))
            else
              if (decide (k = (12 : Int))) = true then
                some (some (("BadWorth" : Str), n))
              else
                if (decide (k = (13 : Int))) = true then
                  some (some (("BadRule" : Str), n))
                else
                  if (decide (k = (14 : Int))) = true then
                    some (some (("WrongSize" : Str), n))
                  else
                    some none
theorem t__law_second (k : Int) (n : Int) (res' : Option (Str × Int)) (h : p__law_second k n = some res') : ev__law_second [(zE dI) k, (zE dI) n] = .ok (eOX res') := by
  unfold p__law_second at h
  unfold ev__law_second run b__law_second
  refine gs_in ?_
  rw [show entry 2 [(zE dI) k, (zE dI) n] = [some (.w ((zE dI) k)), some (.w ((zE dI) n))] from rfl]
  refine gs_seq ?_
  rcases ite_some h with ⟨hc, h⟩ | ⟨hc, h⟩
  · refine gs_ifT ((decide (k = (6 : Int)))) (tt_b (te_e2 rfl (te_cI (6 : Int)) (o_eq (d := dI) (e := (zE dI)) (e' := (zE dI)) (by decide) k (6 : Int)))) hc ?_
    obtain rfl := Option.some.inj h
    exact gs_ret (eOX (some (("NotAnOrder" : Str), n))) (te_newx (te_z rfl)) rets_rt
  · refine gs_ifF ((decide (k = (6 : Int)))) (tt_b (te_e2 rfl (te_cI (6 : Int)) (o_eq (d := dI) (e := (zE dI)) (e' := (zE dI)) (by decide) k (6 : Int)))) hc ?_
    refine gs_pass ?_
    refine gs_nx ?_
    refine gs_seq ?_
    rcases ite_some h with ⟨hc, h⟩ | ⟨hc, h⟩
    · refine gs_ifT ((decide (k = (7 : Int)))) (tt_b (te_e2 rfl (te_cI (7 : Int)) (o_eq (d := dI) (e := (zE dI)) (e' := (zE dI)) (by decide) k (7 : Int)))) hc ?_
      obtain rfl := Option.some.inj h
      exact gs_ret (eOX (some (("NoPair" : Str), n))) (te_newx (te_z rfl)) rets_rt
    · refine gs_ifF ((decide (k = (7 : Int)))) (tt_b (te_e2 rfl (te_cI (7 : Int)) (o_eq (d := dI) (e := (zE dI)) (e' := (zE dI)) (by decide) k (7 : Int)))) hc ?_
      refine gs_pass ?_
      refine gs_nx ?_
      refine gs_seq ?_
      rcases ite_some h with ⟨hc, h⟩ | ⟨hc, h⟩
      · refine gs_ifT ((decide (k = (8 : Int)))) (tt_b (te_e2 rfl (te_cI (8 : Int)) (o_eq (d := dI) (e := (zE dI)) (e' := (zE dI)) (by decide) k (8 : Int)))) hc ?_
        obtain rfl := Option.some.inj h
        exact gs_ret (eOX (some (("NothingToUndo" : Str), n))) (te_newx (te_z rfl)) rets_rt
      · refine gs_ifF ((decide (k = (8 : Int)))) (tt_b (te_e2 rfl (te_cI (8 : Int)) (o_eq (d := dI) (e := (zE dI)) (e' := (zE dI)) (by decide) k (8 : Int)))) hc ?_
        refine gs_pass ?_
        refine gs_nx ?_
        refine gs_seq ?_
        rcases ite_some h with ⟨hc, h⟩ | ⟨hc, h⟩
        · refine gs_ifT ((decide (k = (9 : Int)))) (tt_b (te_e2 rfl (te_cI (9 : Int)) (o_eq (d := dI) (e := (zE dI)) (e' := (zE dI)) (by decide) k (9 : Int)))) hc ?_
          obtain rfl := Option.some.inj h
          exact gs_ret (eOX (some (("OutOfRange" : Str), n))) (te_newx (te_z rfl)) rets_rt
        · refine gs_ifF ((decide (k = (9 : Int)))) (tt_b (te_e2 rfl (te_cI (9 : Int)) (o_eq (d := dI) (e := (zE dI)) (e' := (zE dI)) (by decide) k (9 : Int)))) hc ?_
          refine gs_pass ?_
          refine gs_nx ?_
          refine gs_seq ?_
          rcases ite_some h with ⟨hc, h⟩ | ⟨hc, h⟩
          · refine gs_ifT ((decide (k = (10 : Int)))) (tt_b (te_e2 rfl (te_cI (10 : Int)) (o_eq (d := dI) (e := (zE dI)) (e' := (zE dI)) (by decide) k (10 : Int)))) hc ?_
            obtain rfl := Option.some.inj h
            exact gs_ret (eOX (some (("NoTurn" : Str), n))) (te_newx (te_z rfl)) rets_rt
          · refine gs_ifF ((decide (k = (10 : Int)))) (tt_b (te_e2 rfl (te_cI (10 : Int)) (o_eq (d := dI) (e := (zE dI)) (e' := (zE dI)) (by decide) k (10 : Int)))) hc ?_
            refine gs_pass ?_
            refine gs_nx ?_
            refine gs_seq ?_
            rcases ite_some h with ⟨hc, h⟩ | ⟨hc, h⟩
            · refine gs_ifT ((decide (k = (11 : Int)))) (tt_b (te_e2 rfl (te_cI (11 : Int)) (o_eq (d := dI) (e := (zE dI)) (e' := (zE dI)) (by decide) k (11 : Int)))) hc ?_
              obtain rfl := Option.some.inj h
              exact gs_ret (eOX (some (("BadKind" : Str), n))) (te_newx (te_z rfl)) rets_rt
            · refine gs_ifF ((decide (k = (11 : Int)))) (tt_b (te_e2 rfl (te_cI (11 : Int)) (o_eq (d := dI) (e := (zE dI)) (e' := (zE dI)) (by decide) k (11 : Int)))) hc ?_
              refine gs_pass ?_
              refine gs_nx ?_
              refine gs_seq ?_
              rcases ite_some h with ⟨hc, h⟩ | ⟨hc, h⟩
              · refine gs_ifT ((decide (k = (12 : Int)))) (tt_b (te_e2 rfl (te_cI (12 : Int)) (o_eq (d := dI) (e := (zE dI)) (e' := (zE dI)) (by decide) k (12 : Int)))) hc ?_
                obtain rfl := Option.some.inj h
                exact gs_ret (eOX (some (("BadWorth" : Str), n))) (te_newx (te_z rfl)) rets_rt
              · refine gs_ifF ((decide (k = (12 : Int)))) (tt_b (te_e2 rfl (te_cI (12 : Int)) (o_eq (d := dI) (e := (zE dI)) (e' := (zE dI)) (by decide) k (12 : Int)))) hc ?_
                refine gs_pass ?_
                refine gs_nx ?_
                refine gs_seq ?_
                rcases ite_some h with ⟨hc, h⟩ | ⟨hc, h⟩
                · refine gs_ifT ((decide (k = (13 : Int)))) (tt_b (te_e2 rfl (te_cI (13 : Int)) (o_eq (d := dI) (e := (zE dI)) (e' := (zE dI)) (by decide) k (13 : Int)))) hc ?_
                  obtain rfl := Option.some.inj h
                  exact gs_ret (eOX (some (("BadRule" : Str), n))) (te_newx (te_z rfl)) rets_rt
                · refine gs_ifF ((decide (k = (13 : Int)))) (tt_b (te_e2 rfl (te_cI (13 : Int)) (o_eq (d := dI) (e := (zE dI)) (e' := (zE dI)) (by decide) k (13 : Int)))) hc ?_
                  refine gs_pass ?_
                  refine gs_nx ?_
                  refine gs_seq ?_
                  rcases ite_some h with ⟨hc, h⟩ | ⟨hc, h⟩
                  · refine gs_ifT ((decide (k = (14 : Int)))) (tt_b (te_e2 rfl (te_cI (14 : Int)) (o_eq (d := dI) (e := (zE dI)) (e' := (zE dI)) (by decide) k (14 : Int)))) hc ?_
                    obtain rfl := Option.some.inj h
                    exact gs_ret (eOX (some (("WrongSize" : Str), n))) (te_newx (te_z rfl)) rets_rt
                  · refine gs_ifF ((decide (k = (14 : Int)))) (tt_b (te_e2 rfl (te_cI (14 : Int)) (o_eq (d := dI) (e := (zE dI)) (e' := (zE dI)) (by decide) k (14 : Int)))) hc ?_
                    refine gs_pass ?_
                    refine gs_nx ?_
                    obtain rfl := Option.some.inj h
                    exact gs_ret (eOX none) rfl rets_rt

/-- _law_kinds -/
def p__law_kinds (e : Str × Int) : Option (List Bool) :=
  Option.bind (isxO KSL (below "BadLine") e) fun b =>
  Option.bind (isxO KSL (below "BadPlace") e) fun b1 =>
  Option.bind (isxO KSL (below "BadPrice") e) fun b2 =>
  Option.bind (isxO KSL (below "WrongOrder") e) fun b3 =>
  Option.bind (isxO KSL (below "NoLink") e) fun b4 =>
  Option.bind (isxO KSL (below "NoPlace") e) fun b5 =>
  Option.bind (isxO KSL (below "NotAnOrder") e) fun b6 =>
  Option.bind (isxO KSL (below "NoPair") e) fun b7 =>
  Option.bind (isxO KSL (below "NothingToUndo") e) fun b8 =>
  Option.bind (isxO KSL (below "OutOfRange") e) fun b9 =>
  Option.bind (isxO KSL (below "NoTurn") e) fun b10 =>
  Option.bind (isxO KSL (below "BadKind") e) fun b11 =>
  Option.bind (isxO KSL (below "BadWorth") e) fun b12 =>
  Option.bind (isxO KSL (below "BadRule") e) fun b13 =>
  Option.bind (isxO KSL (below "WrongSize") e) fun b14 =>
  some [b, b1, b2, b3, b4, b5, b6, b7, b8, b9, b10, b11, b12, b13, b14]
theorem t__law_kinds (e : Str × Int) (res' : List Bool) (h : p__law_kinds e = some res') : ev__law_kinds [eX e] = .ok ((eL (zE dB)) res') := by
  unfold p__law_kinds at h
  unfold ev__law_kinds run b__law_kinds
  refine gs_in ?_
  rw [show entry 1 [eX e] = [some (.r (eX e))] from rfl]
  obtain ⟨b, h_b, h⟩ := bind_some h
  obtain ⟨b1, h_b1, h⟩ := bind_some h
  obtain ⟨b2, h_b2, h⟩ := bind_some h
  obtain ⟨b3, h_b3, h⟩ := bind_some h
  obtain ⟨b4, h_b4, h⟩ := bind_some h
  obtain ⟨b5, h_b5, h⟩ := bind_some h
  obtain ⟨b6, h_b6, h⟩ := bind_some h
  obtain ⟨b7, h_b7, h⟩ := bind_some h
  obtain ⟨b8, h_b8, h⟩ := bind_some h
  obtain ⟨b9, h_b9, h⟩ := bind_some h
  obtain ⟨b10, h_b10, h⟩ := bind_some h
  obtain ⟨b11, h_b11, h⟩ := bind_some h
  obtain ⟨b12, h_b12, h⟩ := bind_some h
  obtain ⟨b13, h_b13, h⟩ := bind_some h
  obtain ⟨b14, h_b14, h⟩ := bind_some h
  obtain rfl := Option.some.inj h
  exact gs_ret ((eL (zE dB)) [b, b1, b2, b3, b4, b5, b6, b7, b8, b9, b10, b11, b12, b13, b14]) (te_lst (ta_cons (te_isx h_b rfl) (ta_cons (te_isx h_b1 rfl) (ta_cons (te_isx h_b2 rfl) (ta_cons (te_isx h_b3 rfl) (ta_cons (te_isx h_b4 rfl) (ta_cons (te_isx h_b5 rfl) (ta_cons (te_isx h_b6 rfl) (ta_cons (te_isx h_b7 rfl) (ta_cons (te_isx h_b8 rfl) (ta_cons (te_isx h_b9 rfl) (ta_cons (te_isx h_b10 rfl) (ta_cons (te_isx h_b11 rfl) (ta_cons (te_isx h_b12 rfl) (ta_cons (te_isx h_b13 rfl) (ta_cons (te_isx h_b14 rfl) ta_nil))))))))))))))) (by exact lenOK rfl) rfl) rets_rt

/-- law -/
def p_law (script : List Int) : Option Bool :=
  Option.bind (if (decide ((0 : Int) < ((script).length : Int))) = true then
      Option.bind (at_ script (0 : Int)) fun v0 =>
      Option.bind (modO v0 ((10 : Int) ^ (30 : Nat))) fun v1 =>
      letO ((v1 - ((10 : Int) ^ (15 : Nat)))) fun number1 =>
      some number1
    else
      some (0 : Int)) fun (number : Int) =>
  Option.bind (rngO 0 (15 : Int)) fun r =>
  thenC (foldC (fun (s_1 : Unit) (x0 : Int) => (show Option (Ctl (Bool) (Unit)) from
      Option.bind (p__law_first x0 (number + x0)) fun first =>
    Option.bind (if (decide ((6 : Int) ≤ x0)) = true then
        Option.bind (p__law_second x0 (number + x0)) fun second =>
        some second
      else
        some first) fun (e : (Option (Str × Int))) =>
    Option.bind (e) fun v2 =>
    Option.bind (isxO KSL (below "OverpassesError") v2) fun b =>
    Option.bind (if (!b) = true then some true else (Option.bind (e) fun v3 => Option.bind (isxO KSL anyC v3) fun b1 => some (!b1))) fun c0 =>
    if c0 = true then
      some (.rt false)
    else
      Option.bind (e) fun v4 =>
      Option.bind (if (!true) = true then some true else (Option.bind (e) fun v5 => Option.bind (if false = true then some true else (Option.bind (e) fun v6 => some (!decide (v6.2 = (number + x0))))) fun c1 => some c1)) fun c2 =>
      if c2 = true then
        some (.rt false)
      else
        Option.bind (e) fun v7 =>
        Option.bind (p__law_kinds v7) fun kinds =>
        Option.bind (rngO 0 (15 : Int)) fun r1 =>
        Option.bind (sizeO r1) fun z =>
        if (!decide (kinds = ((z).map fun (x1 : Int) => (decide (x1 = x0))))) = true then
          some (.rt false)
        else
          some (.nx ()))) r ()) (fun (u : Unit) =>
  letO ((("OverpassesError" : Str), number)) fun base =>
  Option.bind (if (decide (base.2 = number)) = true then (Option.bind (p__law_kinds base) fun kinds1 => Option.bind (rngO 0 (15 : Int)) fun r2 => Option.bind (sizeO r2) fun z1 => some (decide (kinds1 = ((z1).map fun (x2 : Int) => false)))) else some false) fun v8 =>
  some v8) id
theorem t_law (script : List Int) (res' : Bool) (h : p_law script = some res') : ev_law [eS script] = .ok ((zE dB) res') := by
  unfold p_law at h
  unfold ev_law run b_law
  refine gs_in ?_
  rw [show entry 6 [eS script] = [some (.r (eS script)), none, none, none, none, none] from rfl]
  refine gs_seq ?_
  refine gs_asg ((zE dI) (0 : Int)) (te_cI (0 : Int)) rfl ?_
  refine gs_nx ?_
  refine gs_seq ?_
  obtain ⟨number, h_number, h⟩ := bind_some h
  refine gs_mid (fun ρ => ρ = [some (.r (eS script)), some (.w ((zE dI) number)), none, none, none, none]) ?_ ?_
  · clear h
    rcases ite_some h_number with ⟨hc, h⟩ | ⟨hc, h⟩
    · refine gs_ifT ((decide ((0 : Int) < ((script).length : Int)))) (tt_b (te_e2 (te_K (ta_cons rfl ta_nil) (o_lens)) (te_cI (0 : Int)) (o_gt ((script).length : Int) (0 : Int)))) hc ?_
      obtain ⟨v0, h_v0, h⟩ := bind_some h
      obtain ⟨v1, h_v1, h⟩ := bind_some h
      obtain ⟨number1, h_number1, h⟩ := let_some h
      refine gs_asg ((zE dI) number1) (te_eq (e := (zE dI)) h_number1 (te_e2 (te_e2 (te_K (ta_cons (te_e2 rfl (te_cI (0 : Int)) (o_ixs h_v0)) ta_nil) (o_int v0)) (te_e2 (te_cI (10 : Int)) (te_cI (30 : Int)) (o_powL (10 : Int) (30 : Int) (by decide))) (o_mod h_v1)) (te_e2 (te_cI (10 : Int)) (te_cI (15 : Int)) (o_powL (10 : Int) (15 : Int) (by decide))) (o_sub v1 ((10 : Int) ^ (15 : Nat))))) rfl ?_
      obtain rfl := Option.some.inj h
      exact nx_end rfl
    · refine gs_ifF ((decide ((0 : Int) < ((script).length : Int)))) (tt_b (te_e2 (te_K (ta_cons rfl ta_nil) (o_lens)) (te_cI (0 : Int)) (o_gt ((script).length : Int) (0 : Int)))) hc ?_
      refine gs_pass ?_
      obtain rfl := Option.some.inj h
      exact nx_end rfl
  intro ρ hE
  subst hE
  refine gs_nx ?_
  refine gs_seq ?_
  obtain ⟨r, h_r, h⟩ := bind_some h
  refine gs_foldC (fun (s_1 : Unit) ρ => ∃ j0 j1, ρ = [some (.r (eS script)), some (.w ((zE dI) number)), j0, j1, none, none]) (zE dB) h (ti_r1 h_r (te_cI (15 : Int))) ⟨_, _, rfl⟩ ?_ ?_ ?_
  · clear h
    intro s_1 x0 res' ρ hE h
    obtain ⟨j0, j1, hE⟩ := hE; subst hE
    refine ⟨_, rfl, ?_⟩
    refine gs_seq ?_
    obtain ⟨first, h_first, h⟩ := bind_some h
    refine gs_asg (eOX first) (te_call (ta_cons rfl (ta_cons (te_e2 rfl rfl (o_add number x0)) ta_nil)) (t__law_first x0 (number + x0) _ h_first)) rfl ?_
    refine gs_nx ?_
    refine gs_seq ?_
    obtain ⟨e, h_e, h⟩ := bind_some h
    refine gs_mid (fun ρ => ρ = [some (.r (eS script)), some (.w ((zE dI) number)), some (.w ((zE dI) x0)), some (.w (eOX e)), none, none]) ?_ ?_
    · clear h
      rcases ite_some h_e with ⟨hc, h⟩ | ⟨hc, h⟩
      · refine gs_ifT ((decide ((6 : Int) ≤ x0))) (tt_b (te_e2 rfl (te_cI (6 : Int)) (o_ge x0 (6 : Int)))) hc ?_
        obtain ⟨second, h_second, h⟩ := bind_some h
        refine gs_asg (eOX second) (te_call (ta_cons rfl (ta_cons (te_e2 rfl rfl (o_add number x0)) ta_nil)) (t__law_second x0 (number + x0) _ h_second)) rfl ?_
        obtain rfl := Option.some.inj h
        exact nx_end rfl
      · refine gs_ifF ((decide ((6 : Int) ≤ x0))) (tt_b (te_e2 rfl (te_cI (6 : Int)) (o_ge x0 (6 : Int)))) hc ?_
        refine gs_pass ?_
        obtain rfl := Option.some.inj h
        exact nx_end rfl
    intro ρ hE
    subst hE
    refine gs_nx ?_
    refine gs_seq ?_
    obtain ⟨v2, h_v2, h⟩ := bind_some h
    obtain ⟨b, h_b, h⟩ := bind_some h
    obtain ⟨c0, h_c0, h⟩ := bind_some h
    rcases ite_some h with ⟨hc, h⟩ | ⟨hc, h⟩
    · refine gs_ifT (c0) (tt_orM h_c0 (tt_not (tt_v (te_isx h_b (te_unwx h_v2 rfl)) (o_trB b))) (fun _ h => by obtain ⟨v3, h_v3, h⟩ := bind_some h; obtain ⟨b1, h_b1, h⟩ := bind_some h; obtain rfl := Option.some.inj h; exact (tt_not (tt_v (te_isx h_b1 (te_unwx h_v3 rfl)) (o_trB b1))))) hc ?_
      obtain rfl := Option.some.inj h
      exact gs_ret ((zE dB) false) (te_cB false) onc_rt
    · refine gs_ifF (c0) (tt_orM h_c0 (tt_not (tt_v (te_isx h_b (te_unwx h_v2 rfl)) (o_trB b))) (fun _ h => by obtain ⟨v3, h_v3, h⟩ := bind_some h; obtain ⟨b1, h_b1, h⟩ := bind_some h; obtain rfl := Option.some.inj h; exact (tt_not (tt_v (te_isx h_b1 (te_unwx h_v3 rfl)) (o_trB b1))))) hc ?_
      refine gs_pass ?_
      refine gs_nx ?_
      refine gs_seq ?_
      obtain ⟨v4, h_v4, h⟩ := bind_some h
      obtain ⟨c2, h_c2, h⟩ := bind_some h
      rcases ite_some h with ⟨hc, h⟩ | ⟨hc, h⟩
      · refine gs_ifT (c2) (tt_orM h_c2 (tt_not (tt_v (te_isi (te_atx (te_unwx h_v4 rfl)) (o_isiI v4.2)) (o_trB true))) (fun _ h => by obtain ⟨v5, h_v5, h⟩ := bind_some h; obtain ⟨c1, h_c1, h⟩ := bind_some h; obtain rfl := Option.some.inj h; exact (tt_orM h_c1 (tt_v (te_isi (te_atx (te_unwx h_v5 rfl)) (o_isiIb v5.2)) (o_trB false)) (fun _ h => by obtain ⟨v6, h_v6, h⟩ := bind_some h; obtain rfl := Option.some.inj h; exact (tt_b (te_e2 (te_atx (te_unwx h_v6 rfl)) (te_e2 rfl rfl (o_add number x0)) (o_ne (d := dI) (e := (zE dI)) (e' := (zE dI)) (by decide) v6.2 (number + x0)))))))) hc ?_
        obtain rfl := Option.some.inj h
        exact gs_ret ((zE dB) false) (te_cB false) onc_rt
      · refine gs_ifF (c2) (tt_orM h_c2 (tt_not (tt_v (te_isi (te_atx (te_unwx h_v4 rfl)) (o_isiI v4.2)) (o_trB true))) (fun _ h => by obtain ⟨v5, h_v5, h⟩ := bind_some h; obtain ⟨c1, h_c1, h⟩ := bind_some h; obtain rfl := Option.some.inj h; exact (tt_orM h_c1 (tt_v (te_isi (te_atx (te_unwx h_v5 rfl)) (o_isiIb v5.2)) (o_trB false)) (fun _ h => by obtain ⟨v6, h_v6, h⟩ := bind_some h; obtain rfl := Option.some.inj h; exact (tt_b (te_e2 (te_atx (te_unwx h_v6 rfl)) (te_e2 rfl rfl (o_add number x0)) (o_ne (d := dI) (e := (zE dI)) (e' := (zE dI)) (by decide) v6.2 (number + x0)))))))) hc ?_
        refine gs_pass ?_
        refine gs_nx ?_
        obtain ⟨v7, h_v7, h⟩ := bind_some h
        obtain ⟨kinds, h_kinds, h⟩ := bind_some h
        obtain ⟨r1, h_r1, h⟩ := bind_some h
        obtain ⟨z, h_z, h⟩ := bind_some h
        rcases ite_some h with ⟨hc, h⟩ | ⟨hc, h⟩
        · refine gs_ifT ((!decide (kinds = ((z).map fun (x1 : Int) => (decide (x1 = x0)))))) (tt_b (te_e2 (te_call (ta_cons (te_unwx h_v7 rfl) ta_nil) (t__law_kinds v7 _ h_kinds)) (te_lcM (e := (zE dI)) (e' := (zE dB)) (fun (x1 : Int) => (decide (x1 = x0))) h_z (ti_r1 h_r1 (te_cI (15 : Int))) fun x1 => ⟨_, rfl, (te_e2 rfl rfl (o_eq (d := dI) (e := (zE dI)) (e' := (zE dI)) (by decide) x1 x0))⟩) (o_ne (d := (dL dB)) (e := (eL (zE dB))) (e' := (eL (zE dB))) (by decide) kinds ((z).map fun (x1 : Int) => (decide (x1 = x0)))))) hc ?_
          obtain rfl := Option.some.inj h
          exact gs_ret ((zE dB) false) (te_cB false) onc_rt
        · refine gs_ifF ((!decide (kinds = ((z).map fun (x1 : Int) => (decide (x1 = x0)))))) (tt_b (te_e2 (te_call (ta_cons (te_unwx h_v7 rfl) ta_nil) (t__law_kinds v7 _ h_kinds)) (te_lcM (e := (zE dI)) (e' := (zE dB)) (fun (x1 : Int) => (decide (x1 = x0))) h_z (ti_r1 h_r1 (te_cI (15 : Int))) fun x1 => ⟨_, rfl, (te_e2 rfl rfl (o_eq (d := dI) (e := (zE dI)) (e' := (zE dI)) (by decide) x1 x0))⟩) (o_ne (d := (dL dB)) (e := (eL (zE dB))) (e' := (eL (zE dB))) (by decide) kinds ((z).map fun (x1 : Int) => (decide (x1 = x0)))))) hc ?_
          refine gs_pass ?_
          obtain rfl := Option.some.inj h
          exact onc_nx ⟨_, _, rfl⟩
  · intro u ρ h hE
    obtain ⟨j0, j1, hE⟩ := hE; subst hE
    refine gs_nx ?_
    refine gs_seq ?_
    obtain ⟨base, h_base, h⟩ := let_some h
    refine gs_asg (eX base) (te_eq (e := eX) h_base (te_newx (te_z rfl))) rfl ?_
    refine gs_nx ?_
    obtain ⟨v8, h_v8, h⟩ := bind_some h
    obtain rfl := Option.some.inj h
    exact gs_ret ((zE dB) v8) (te_andM h_v8 (te_e2 (te_atx rfl) rfl (o_eq (d := dI) (e := (zE dI)) (e' := (zE dI)) (by decide) base.2 number)) (fun _ h => by obtain ⟨kinds1, h_kinds1, h⟩ := bind_some h; obtain ⟨r2, h_r2, h⟩ := bind_some h; obtain ⟨z1, h_z1, h⟩ := bind_some h; obtain rfl := Option.some.inj h; exact (te_e2 (te_call (ta_cons rfl ta_nil) (t__law_kinds base _ h_kinds1)) (te_lcM (e := (zE dI)) (e' := (zE dB)) (fun (x2 : Int) => false) h_z1 (ti_r1 h_r2 (te_cI (15 : Int))) fun x2 => ⟨_, rfl, (te_cB false)⟩) (o_eq (d := (dL dB)) (e := (eL (zE dB))) (e' := (eL (zE dB))) (by decide) kinds1 ((z1).map fun (x2 : Int) => false))))) rets_rt
  · intro x hx
    obtain rfl := (show x = _ from hx); exact rets_rt

end
end Z
end
/-! M_k08 -/
section
set_option linter.all false
set_option maxRecDepth 4000
namespace Z
open PySem (PyData Str)
open U
def cl (k : Nat) : Str := KSL.getD (k + 1) ""
def kindsL (c : Str) : List Bool := [below "BadLine" c, below "BadPlace" c, below "BadPrice" c, below "WrongOrder" c, below "NoLink" c, below "NoPlace" c, below "NotAnOrder" c, below "NoPair" c, below "NothingToUndo" c, below "OutOfRange" c, below "NoTurn" c, below "BadKind" c, below "BadWorth" c, below "BadRule" c, below "WrongSize" c]
theorem isx_ok {c : Str} {n : Int} {sub : Str → Bool} (h : c ∈ KSL) : isxO KSL sub (c, n) = some (sub c) := if_pos h
theorem kinds_ok {c : Str} {n : Int} (h : c ∈ KSL) : p__law_kinds (c, n) = some (kindsL c) := by
  unfold p__law_kinds
  rw [isx_ok h, isx_ok h, isx_ok h, isx_ok h, isx_ok h, isx_ok h, isx_ok h, isx_ok h, isx_ok h, isx_ok h, isx_ok h, isx_ok h, isx_ok h, isx_ok h, isx_ok h]
  rfl
theorem facts : ∀ k, k < 15 → cl k ∈ KSL ∧ below "OverpassesError" (cl k) = true ∧ kindsL (cl k) = (rng 0 15).map fun x1 => decide (x1 = (k : Int)) := by decide +kernel
theorem fact0 : ("OverpassesError" : Str) ∈ KSL ∧ kindsL "OverpassesError" = (rng 0 15).map fun _ => false := by decide +kernel
theorem fs (k : Nat) (hk : k < 15) (m : Int) : (∃ a, p__law_first k m = some a ∧ (k < 6 → a = some (cl k, m))) ∧ (6 ≤ k → p__law_second k m = some (some (cl k, m))) := by
  have : k = 0 ∨ k = 1 ∨ k = 2 ∨ k = 3 ∨ k = 4 ∨ k = 5 ∨ k = 6 ∨ k = 7 ∨ k = 8 ∨ k = 9 ∨ k = 10 ∨ k = 11 ∨ k = 12 ∨ k = 13 ∨ k = 14 := by omega
  rcases this with rfl | rfl | rfl | rfl | rfl | rfl | rfl | rfl | rfl | rfl | rfl | rfl | rfl | rfl | rfl
  all_goals first
    | exact ⟨⟨_, rfl, fun _ => rfl⟩, fun h => absurd h (by decide)⟩
    | exact ⟨⟨_, rfl, fun h => absurd h (by decide)⟩, fun _ => rfl⟩
theorem law_true' (ns : List Int) : p_law ns = some true := by
  refine Ok.get ?_
  unfold p_law
  refine Ok.bind (P := fun _ => True) (Ok.ite (fun hc => ?_) fun _ => Ok.some trivial) fun number _ => ?_
  · have hc := of_decide_eq_true hc
    obtain ⟨v, -, hv⟩ := at_lt (xs := ns) (i := 0) (by omega) hc
    exact Ok.bindE hv (Ok.bindE (mod_ok (by omega)) (Ok.letO (Ok.some trivial)))
  have hr : rngO 0 15 = some (rng 0 15) := rngO_ok (by omega) (by omega)
  have hz : sizeO (rng 0 15) = some (rng 0 15) := size_ok (by rw [rng_len]; decide)
  refine Ok.bindE hr ?_
  refine ok_foldCR (fun _ _ => True) (by omega) trivial ?_ ?_
  · rintro x s x0 x1 -
    obtain ⟨k, rfl⟩ : ∃ k : Nat, x = k := ⟨x.toNat, by omega⟩
    have hk : k < 15 := by omega
    obtain ⟨m1, m2, m3⟩ := facts k hk
    obtain ⟨⟨a, e1, e2⟩, e3⟩ := fs k hk (number + k)
    refine Ok.bindE e1 (Ok.bindE (a := some (cl k, number + k)) ?_ ?_)
    · by_cases h : 6 ≤ k
      · rw [if_pos (decide_eq_true (by omega)), e3 h]; rfl
      · rw [if_neg (by simp; omega), e2 (by omega)]
    · refine Ok.bindE rfl (Ok.bindE (isx_ok m1) ?_)
      rw [m2]
      simp only [Option.bind_some, isx_ok m1, kinds_ok m1, hr, hz, m3, anyC]
      simp [Ok]
  · intro u _
    refine Ok.letO ?_
    simp only [kinds_ok fact0.1, hr, hz, Option.bind_some, fact0.2]
    simp [Ok]
theorem law_true : ∀ ns : List Int, ns.length ≤ 63 → ev_law [.s ns] = .ok (.z (.bool true)) := fun ns _ => t_law ns true (law_true' ns)
end Z
end
/-! W_k08 -/
section
set_option Elab.async false
set_option linter.all false
set_option maxRecDepth 100000
set_option maxHeartbeats 4000000
namespace Z
open PySem L2 U
def topS (i : Nat) : Stmt := PySem.Challenge.pw_overpasses_k08_errors_are_apart.main.body.getD i (.Pass ⟨0, 0, 0, 0⟩)
def clsDef (st : Stmt) (j : Nat) : Stmt := match st with
  | .ClassDef _ _ _ body _ _ _ _ _ _ _ => body.getD j (.Pass ⟨0, 0, 0, 0⟩)
  | _ => .Pass ⟨0, 0, 0, 0⟩
abbrev s_init : Stmt := clsDef (topS 1) 0
theorem sc_init : FnScope ["self", "at"] ["self", "at"] (defScope s_init) := ⟨rfl, rfl, rfl, by decide +kernel, rfl, by decide +kernel, by decide +kernel⟩
theorem ok_init {P : Program} {w : World} {K : PySem.W.Frag} {mg : Str → Option Value} {base : Heap} {f : Addr} {fd : FuncData} (F : Fun K "__init__" "OverpassesError.__init__" s_init f fd) (hm : mg "ValueError" = none) (vV : PySem.W.findCls K (.type "ValueError") (.type "type") "__init__" = some (.val (.builtin "ValueError.__init__"))) :
    FnOk P w K mg base (L2.CX P w) 1 f fd ["self", "at"] (spI K) := by
  refine F.okX (k := 0) sc_init (fun vs H Q E h => ?_) (fun cdv A outer s H vs Q E hr h => ⟨_, pss_cons (ps_expr (pe_veinit rfl hm vV (pa_cons (pv 0) (pa_cons pe_str pa_nil))) rfl) (pss_one (ps_ost (pv 0) (pv 1))), ?_⟩)
  · obtain ⟨a, C, y, rfl, _⟩ := h
    rfl
  · obtain ⟨a, C, y, rfl, T, hf, ea, q⟩ := h
    exact ⟨.ref a, rfl, a, C, [.str "overpasses error"], rfl, by decide, T, ea, y, rfl, .ref a, rfl, a, C, rfl, T, hf, .inl ⟨ea, q⟩⟩
structure Errs (P : Program) (w : World) (K : PySem.W.Frag) (mg : Str → Option Value) (base : Heap) : Prop where
  ks : KS K mg KSL
  r : ∀ c ∈ KSL, KR P w K mg base c
  n : ∀ c ∈ KSL, KN P w K mg base c
  v_BadLine : KV K mg KSL "BadLine"
  v_BadPlace : KV K mg KSL "BadPlace"
  v_BadPrice : KV K mg KSL "BadPrice"
  v_WrongOrder : KV K mg KSL "WrongOrder"
  v_NoLink : KV K mg KSL "NoLink"
  v_NoPlace : KV K mg KSL "NoPlace"
  v_NotAnOrder : KV K mg KSL "NotAnOrder"
  v_NoPair : KV K mg KSL "NoPair"
  v_NothingToUndo : KV K mg KSL "NothingToUndo"
  v_OutOfRange : KV K mg KSL "OutOfRange"
  v_NoTurn : KV K mg KSL "NoTurn"
  v_BadKind : KV K mg KSL "BadKind"
  v_BadWorth : KV K mg KSL "BadWorth"
  v_BadRule : KV K mg KSL "BadRule"
  v_WrongSize : KV K mg KSL "WrongSize"
  v_OverpassesError : KV K mg KSL "OverpassesError"
  ve : KVE K mg KSL
abbrev s__law_first : Stmt := topS 18
theorem sc__law_first : FnScope ["k", "n"] ["k", "n"] (defScope s__law_first) := ⟨rfl, rfl, rfl, by decide +kernel, rfl, by decide +kernel, by decide +kernel⟩
section
variable {P : Program} {w : World} {K : PySem.W.Frag} {mg : Str → Option Value} {base : Heap}
theorem ok__law_first (B : Blt mg) (B2 : Blt2 mg) (D : Df K mg "_law_first" s__law_first ["k", "n"]) (X_ : Errs P w K mg base)  : Cal P w K mg base "_law_first" 3 2 ev__law_first := by
  refine calU (N := ["k", "n"]) (ps := ["k", "n"]) (k := 2) (fs := b__law_first) D sc__law_first fun f cdv A outer s H E gd hr => ?_
  have hu := hu65 hr
  have tk := takes_of (X := cxOf (L2.CX P w) P w K mg base ["k", "n"] "_law_first" (defScope s__law_first) f cdv A outer s H E) (E := E) rfl rfl rfl rfl
  have hp := passes_of (X := cxOf (L2.CX P w) P w K mg base ["k", "n"] "_law_first" (defScope s__law_first) f cdv A outer s H E) rfl
  have nd := (sc__law_first).nd
  unfold b__law_first
  exact pss_cons' (ps_if' (teq_ hu (nm 0) ((pu_int).br))
      (pss_one' (ps_ret' (newx_ (X_.n "BadLine" (by decide)) tk hr (pu_z (nm 1)))))
      pss_nil')
      (pss_cons' (ps_if' (teq_ hu (nm 0) ((pu_int).br))
      (pss_one' (ps_ret' (newx_ (X_.n "BadPlace" (by decide)) tk hr (pu_z (nm 1)))))
      pss_nil')
      (pss_cons' (ps_if' (teq_ hu (nm 0) ((pu_int).br))
      (pss_one' (ps_ret' (newx_ (X_.n "BadPrice" (by decide)) tk hr (pu_z (nm 1)))))
      pss_nil')
      (pss_cons' (ps_if' (teq_ hu (nm 0) ((pu_int).br))
      (pss_one' (ps_ret' (newx_ (X_.n "WrongOrder" (by decide)) tk hr (pu_z (nm 1)))))
      pss_nil')
      (pss_cons' (ps_if' (teq_ hu (nm 0) ((pu_int).br))
      (pss_one' (ps_ret' (newx_ (X_.n "NoLink" (by decide)) tk hr (pu_z (nm 1)))))
      pss_nil')
      (pss_cons' (ps_if' (teq_ hu (nm 0) ((pu_int).br))
      (pss_one' (ps_ret' (newx_ (X_.n "NoPlace" (by decide)) tk hr (pu_z (nm 1)))))
      pss_nil')
      (pss_one' (ps_ret' pu_non)))))))
end
abbrev s__law_second : Stmt := topS 19
theorem sc__law_second : FnScope ["k", "n"] ["k", "n"] (defScope s__law_second) := ⟨rfl, rfl, rfl, by decide +kernel, rfl, by decide +kernel, by decide +kernel⟩
section
variable {P : Program} {w : World} {K : PySem.W.Frag} {mg : Str → Option Value} {base : Heap}
theorem ok__law_second (B : Blt mg) (B2 : Blt2 mg) (D : Df K mg "_law_second" s__law_second ["k", "n"]) (X_ : Errs P w K mg base)  : Cal P w K mg base "_law_second" 3 2 ev__law_second := by
  refine calU (N := ["k", "n"]) (ps := ["k", "n"]) (k := 2) (fs := b__law_second) D sc__law_second fun f cdv A outer s H E gd hr => ?_
  have hu := hu65 hr
  have tk := takes_of (X := cxOf (L2.CX P w) P w K mg base ["k", "n"] "_law_second" (defScope s__law_second) f cdv A outer s H E) (E := E) rfl rfl rfl rfl
  have hp := passes_of (X := cxOf (L2.CX P w) P w K mg base ["k", "n"] "_law_second" (defScope s__law_second) f cdv A outer s H E) rfl
  have nd := (sc__law_second).nd
  unfold b__law_second
  exact pss_cons' (ps_if' (teq_ hu (nm 0) ((pu_int).br))
      (pss_one' (ps_ret' (newx_ (X_.n "NotAnOrder" (by decide)) tk hr (pu_z (nm 1)))))
      pss_nil')
      (pss_cons' (ps_if' (teq_ hu (nm 0) ((pu_int).br))
      (pss_one' (ps_ret' (newx_ (X_.n "NoPair" (by decide)) tk hr (pu_z (nm 1)))))
      pss_nil')
      (pss_cons' (ps_if' (teq_ hu (nm 0) ((pu_int).br))
      (pss_one' (ps_ret' (newx_ (X_.n "NothingToUndo" (by decide)) tk hr (pu_z (nm 1)))))
      pss_nil')
      (pss_cons' (ps_if' (teq_ hu (nm 0) ((pu_int).br))
      (pss_one' (ps_ret' (newx_ (X_.n "OutOfRange" (by decide)) tk hr (pu_z (nm 1)))))
      pss_nil')
      (pss_cons' (ps_if' (teq_ hu (nm 0) ((pu_int).br))
      (pss_one' (ps_ret' (newx_ (X_.n "NoTurn" (by decide)) tk hr (pu_z (nm 1)))))
      pss_nil')
      (pss_cons' (ps_if' (teq_ hu (nm 0) ((pu_int).br))
      (pss_one' (ps_ret' (newx_ (X_.n "BadKind" (by decide)) tk hr (pu_z (nm 1)))))
      pss_nil')
      (pss_cons' (ps_if' (teq_ hu (nm 0) ((pu_int).br))
      (pss_one' (ps_ret' (newx_ (X_.n "BadWorth" (by decide)) tk hr (pu_z (nm 1)))))
      pss_nil')
      (pss_cons' (ps_if' (teq_ hu (nm 0) ((pu_int).br))
      (pss_one' (ps_ret' (newx_ (X_.n "BadRule" (by decide)) tk hr (pu_z (nm 1)))))
      pss_nil')
      (pss_cons' (ps_if' (teq_ hu (nm 0) ((pu_int).br))
      (pss_one' (ps_ret' (newx_ (X_.n "WrongSize" (by decide)) tk hr (pu_z (nm 1)))))
      pss_nil')
      (pss_one' (ps_ret' pu_non))))))))))
end
abbrev s__law_kinds : Stmt := topS 20
theorem sc__law_kinds : FnScope ["e"] ["e"] (defScope s__law_kinds) := ⟨rfl, rfl, rfl, by decide +kernel, rfl, by decide +kernel, by decide +kernel⟩
section
variable {P : Program} {w : World} {K : PySem.W.Frag} {mg : Str → Option Value} {base : Heap}
theorem ok__law_kinds (B : Blt mg) (B2 : Blt2 mg) (D : Df K mg "_law_kinds" s__law_kinds ["e"]) (X_ : Errs P w K mg base)  : Cal P w K mg base "_law_kinds" 1 1 ev__law_kinds := by
  refine calU (N := ["e"]) (ps := ["e"]) (k := 0) (fs := b__law_kinds) D sc__law_kinds fun f cdv A outer s H E gd hr => ?_
  have hu := hu65 hr
  have tk := takes_of (X := cxOf (L2.CX P w) P w K mg base ["e"] "_law_kinds" (defScope s__law_kinds) f cdv A outer s H E) (E := E) rfl rfl rfl rfl
  have hp := passes_of (X := cxOf (L2.CX P w) P w K mg base ["e"] "_law_kinds" (defScope s__law_kinds) f cdv A outer s H E) rfl
  have nd := (sc__law_kinds).nd
  unfold b__law_kinds
  exact pss_one' (ps_ret' (pu_lst (ac (isx_ X_.v_BadLine B.isinstance (nm 0)) (ac (isx_ X_.v_BadPlace B.isinstance (nm 0)) (ac (isx_ X_.v_BadPrice B.isinstance (nm 0)) (ac (isx_ X_.v_WrongOrder B.isinstance (nm 0)) (ac (isx_ X_.v_NoLink B.isinstance (nm 0)) (ac (isx_ X_.v_NoPlace B.isinstance (nm 0)) (ac (isx_ X_.v_NotAnOrder B.isinstance (nm 0)) (ac (isx_ X_.v_NoPair B.isinstance (nm 0)) (ac (isx_ X_.v_NothingToUndo B.isinstance (nm 0)) (ac (isx_ X_.v_OutOfRange B.isinstance (nm 0)) (ac (isx_ X_.v_NoTurn B.isinstance (nm 0)) (ac (isx_ X_.v_BadKind B.isinstance (nm 0)) (ac (isx_ X_.v_BadWorth B.isinstance (nm 0)) (ac (isx_ X_.v_BadRule B.isinstance (nm 0)) (ac (isx_ X_.v_WrongSize B.isinstance (nm 0)) pa_nil')))))))))))))))))
end
abbrev s_law : Stmt := topS 21
theorem sc_law : FnScope ["script", "number", "k", "e", "base", "j"] ["script"] (defScope s_law) := ⟨rfl, rfl, rfl, by decide +kernel, rfl, by decide +kernel, by decide +kernel⟩
section
variable {P : Program} {w : World} {K : PySem.W.Frag} {mg : Str → Option Value} {base : Heap}
end
section
variable {P : Program} {w : World} {K : PySem.W.Frag} {mg : Str → Option Value} {base : Heap}
theorem fn_law {f : Addr} {fd : FuncData} (F : Fun K "law" "law" s_law f fd) (B : Blt mg) (B2 : Blt2 mg) (X_ : Errs P w K mg base) (c__law_first : Cal P w K mg base "_law_first" 3 2 ev__law_first) (c__law_second : Cal P w K mg base "_law_second" 3 2 ev__law_second) (c__law_kinds : Cal P w K mg base "_law_kinds" 1 1 ev__law_kinds) : FnG P w K mg base (L2.CX P w) 4 f fd ["script"] (spU K mg 1 ev_law) := by
  refine fnU (N := ["script", "number", "k", "e", "base", "j"]) (ps := ["script"]) (k := 3) (fs := b_law) F sc_law fun cdv A outer s H E gd hr => ?_
  have hu := hu65 hr
  have tk := takes_of (X := cxOf (L2.CX P w) P w K mg base ["script", "number", "k", "e", "base", "j"] "law" (defScope s_law) f cdv A outer s H E) (E := E) rfl rfl rfl rfl
  have hp := passes_of (X := cxOf (L2.CX P w) P w K mg base ["script", "number", "k", "e", "base", "j"] "law" (defScope s_law) f cdv A outer s H E) rfl
  have nd := (sc_law).nd
  unfold b_law
  exact pss_cons' (asg pu_int (tn 1 nd))
      (pss_cons' (ps_if' (tgt_ ((len_ B (ac (nm 0) pa_nil')).br) ((pu_int).br))
      (pss_one' (asg (sub_ ((mod_ ((int_ B (ac ((ix_ (nm 0) ((pu_int).br)).br) pa_nil')).br) ((pow_ ((pu_int).br) ((pu_int).br)).br)).br) ((pow_ ((pu_int).br) ((pu_int).br)).br)) (tn 1 nd)))
      pss_nil')
      (pss_cons' (for_ hp rfl (r1_ B ((pu_int).br)) (tn 2 nd)
      (pss_cons' (asg (call_ c__law_first gd hr tk (ac (nm 2) (ac ((add_ (nm 1) (nm 2)).br) pa_nil'))) (tn 3 nd))
      (pss_cons' (ps_if' (tge_ (nm 2) ((pu_int).br))
      (pss_one' (asg (call_ c__law_second gd hr tk (ac (nm 2) (ac ((add_ (nm 1) (nm 2)).br) pa_nil'))) (tn 3 nd)))
      pss_nil')
      (pss_cons' (ps_if' (pt_w (pw_or' (pt_not' (tv_ (isx_ X_.v_OverpassesError B.isinstance (nm 3)))) (pw_or1' (pt_not' (tv_ (isxV_ X_.ve B.isinstance (nm 3)))))))
      (pss_one' (ps_ret' pu_bl))
      pss_nil')
      (pss_cons' (ps_if' (pt_w (pw_or' (pt_not' (tv_ (isi_int B ((atx_ (nm 3)).br)))) (pw_or' (tv_ (isi_bool B ((atx_ (nm 3)).br))) (pw_or1' (tne_ hu ((atx_ (nm 3)).br) ((add_ (nm 1) (nm 2)).br))))))
      (pss_one' (ps_ret' pu_bl))
      pss_nil')
      (pss_one' (ps_if' (tne_ hu ((call_ c__law_kinds gd hr tk (ac (nm 3) pa_nil')).br) ((pu_lc (own' := [("j", 5)]) (vs := [5]) rfl nd rfl (blkOk_by (show blkC ["script", "number", "k", "e", "base", "j"] (defScope s_law) _ _ = true from by decide +kernel)) (fun _ => rfl) (pi_e (r1_ B ((pu_int).br))) (fun _ _ _ _ _ => tl 5 nd) (fun _ _ _ _ _ => pts_no) (fun _ _ _ _ _ => eq_ hu (nm 5) (nm 2))).br))
      (pss_one' (ps_ret' pu_bl))
      pss_nil')))))))
      (pss_cons' (asg (newx_ (X_.n "OverpassesError" (by decide)) tk hr (pu_z (nm 1))) (tn 4 nd))
      (pss_one' (ps_ret' (pu_and (eq_ hu ((atx_ (nm 4)).br) (nm 1)) (pu_one (eq_ hu ((call_ c__law_kinds gd hr tk (ac (nm 4) pa_nil')).br) ((pu_lc (own' := [("j", 5)]) (vs := [5]) rfl nd rfl (blkOk_by (show blkC ["script", "number", "k", "e", "base", "j"] (defScope s_law) _ _ = true from by decide +kernel)) (fun _ => rfl) (pi_e (r1_ B ((pu_int).br))) (fun _ _ _ _ _ => tl 5 nd) (fun _ _ _ _ _ => pts_no) (fun _ _ _ _ _ => pu_bl)).br)))))))))
end
end Z
end
/-! F_k08 -/
section
set_option Elab.async false
set_option linter.all false
set_option maxRecDepth 100000
set_option maxHeartbeats 4000000
namespace Z
open PySem L2 U
theorem all_mk {l : PySem.W.OpenLaw} {w : World} {K : PySem.W.Frag} {h : Heap} {mg : Str → Option Value} {fa f1 f2 f3 f4 : Addr} (X : K.In h) (G : h.Ns mainGlobals mg) (hfa : mg "law" = some (.ref fa))
    {od1 an1 od2 an2 od3 an3 od4 an4 : Option Addr} {sl1 sl2 sl3 sl4 : Array (Option Value)} {oc1 kV1 dc1 pm1 cd1 ct1 oc2 kV2 dc2 pm2 cd2 ct2 oc3 kV3 dc3 pm3 cd3 ct3 oc4 kV4 dc4 pm4 cd4 ct4 : Value}
    {fI : Addr} {ocI dcI pmI cdI ctI kVI : Value} {odI anI : Option Addr} {slI : Array (Option Value)} {kOverpassesError NOverpassesError : Addr} {nmOverpassesError qOverpassesError : Str} {bsOverpassesError bmOverpassesError subOverpassesError : List Value} {snOverpassesError : List Str} {abOverpassesError : Bool} {colOverpassesError : Option Bool} {ddOverpassesError : Option Addr} {m0OverpassesError m1OverpassesError m2OverpassesError m3OverpassesError m5OverpassesError : Option Value} {kBadLine NBadLine : Addr} {nmBadLine qBadLine : Str} {bsBadLine bmBadLine subBadLine : List Value} {snBadLine : List Str} {abBadLine : Bool} {colBadLine : Option Bool} {ddBadLine : Option Addr} {m0BadLine m1BadLine m2BadLine m3BadLine m5BadLine : Option Value} {kBadPlace NBadPlace : Addr} {nmBadPlace qBadPlace : Str} {bsBadPlace bmBadPlace subBadPlace : List Value} {snBadPlace : List Str} {abBadPlace : Bool} {colBadPlace : Option Bool} {ddBadPlace : Option Addr} {m0BadPlace m1BadPlace m2BadPlace m3BadPlace m5BadPlace : Option Value} {kBadPrice NBadPrice : Addr} {nmBadPrice qBadPrice : Str} {bsBadPrice bmBadPrice subBadPrice : List Value} {snBadPrice : List Str} {abBadPrice : Bool} {colBadPrice : Option Bool} {ddBadPrice : Option Addr} {m0BadPrice m1BadPrice m2BadPrice m3BadPrice m5BadPrice : Option Value} {kWrongOrder NWrongOrder : Addr} {nmWrongOrder qWrongOrder : Str} {bsWrongOrder bmWrongOrder subWrongOrder : List Value} {snWrongOrder : List Str} {abWrongOrder : Bool} {colWrongOrder : Option Bool} {ddWrongOrder : Option Addr} {m0WrongOrder m1WrongOrder m2WrongOrder m3WrongOrder m5WrongOrder : Option Value} {kNoLink NNoLink : Addr} {nmNoLink qNoLink : Str} {bsNoLink bmNoLink subNoLink : List Value} {snNoLink : List Str} {abNoLink : Bool} {colNoLink : Option Bool} {ddNoLink : Option Addr} {m0NoLink m1NoLink m2NoLink m3NoLink m5NoLink : Option Value} {kNoPlace NNoPlace : Addr} {nmNoPlace qNoPlace : Str} {bsNoPlace bmNoPlace subNoPlace : List Value} {snNoPlace : List Str} {abNoPlace : Bool} {colNoPlace : Option Bool} {ddNoPlace : Option Addr} {m0NoPlace m1NoPlace m2NoPlace m3NoPlace m5NoPlace : Option Value} {kNotAnOrder NNotAnOrder : Addr} {nmNotAnOrder qNotAnOrder : Str} {bsNotAnOrder bmNotAnOrder subNotAnOrder : List Value} {snNotAnOrder : List Str} {abNotAnOrder : Bool} {colNotAnOrder : Option Bool} {ddNotAnOrder : Option Addr} {m0NotAnOrder m1NotAnOrder m2NotAnOrder m3NotAnOrder m5NotAnOrder : Option Value} {kNoPair NNoPair : Addr} {nmNoPair qNoPair : Str} {bsNoPair bmNoPair subNoPair : List Value} {snNoPair : List Str} {abNoPair : Bool} {colNoPair : Option Bool} {ddNoPair : Option Addr} {m0NoPair m1NoPair m2NoPair m3NoPair m5NoPair : Option Value} {kNothingToUndo NNothingToUndo : Addr} {nmNothingToUndo qNothingToUndo : Str} {bsNothingToUndo bmNothingToUndo subNothingToUndo : List Value} {snNothingToUndo : List Str} {abNothingToUndo : Bool} {colNothingToUndo : Option Bool} {ddNothingToUndo : Option Addr} {m0NothingToUndo m1NothingToUndo m2NothingToUndo m3NothingToUndo m5NothingToUndo : Option Value} {kOutOfRange NOutOfRange : Addr} {nmOutOfRange qOutOfRange : Str} {bsOutOfRange bmOutOfRange subOutOfRange : List Value} {snOutOfRange : List Str} {abOutOfRange : Bool} {colOutOfRange : Option Bool} {ddOutOfRange : Option Addr} {m0OutOfRange m1OutOfRange m2OutOfRange m3OutOfRange m5OutOfRange : Option Value} {kNoTurn NNoTurn : Addr} {nmNoTurn qNoTurn : Str} {bsNoTurn bmNoTurn subNoTurn : List Value} {snNoTurn : List Str} {abNoTurn : Bool} {colNoTurn : Option Bool} {ddNoTurn : Option Addr} {m0NoTurn m1NoTurn m2NoTurn m3NoTurn m5NoTurn : Option Value} {kBadKind NBadKind : Addr} {nmBadKind qBadKind : Str} {bsBadKind bmBadKind subBadKind : List Value} {snBadKind : List Str} {abBadKind : Bool} {colBadKind : Option Bool} {ddBadKind : Option Addr} {m0BadKind m1BadKind m2BadKind m3BadKind m5BadKind : Option Value} {kBadWorth NBadWorth : Addr} {nmBadWorth qBadWorth : Str} {bsBadWorth bmBadWorth subBadWorth : List Value} {snBadWorth : List Str} {abBadWorth : Bool} {colBadWorth : Option Bool} {ddBadWorth : Option Addr} {m0BadWorth m1BadWorth m2BadWorth m3BadWorth m5BadWorth : Option Value} {kBadRule NBadRule : Addr} {nmBadRule qBadRule : Str} {bsBadRule bmBadRule subBadRule : List Value} {snBadRule : List Str} {abBadRule : Bool} {colBadRule : Option Bool} {ddBadRule : Option Addr} {m0BadRule m1BadRule m2BadRule m3BadRule m5BadRule : Option Value} {kWrongSize NWrongSize : Addr} {nmWrongSize qWrongSize : Str} {bsWrongSize bmWrongSize subWrongSize : List Value} {snWrongSize : List Str} {abWrongSize : Bool} {colWrongSize : Option Bool} {ddWrongSize : Option Addr} {m0WrongSize m1WrongSize m2WrongSize m3WrongSize m5WrongSize : Option Value}
    (a1 : PySem.W.nsIn K mainGlobals "_law_first" = some (some (.ref f1))) (l1 : K.lookup f1 = some ⟨oc1, od1, .func (PySem.W.fnOf "_law_first" "_law_first" (defArgs s__law_first) (defBody s__law_first) (defScope s__law_first) .none kV1 dc1 pm1 an1 cd1 ct1), sl1⟩) (c1 : PySem.W.codeIn K cd1 "_law_first" = true) (k1 : PySem.W.keepIn K (.ref f1) = true)
    (a2 : PySem.W.nsIn K mainGlobals "_law_second" = some (some (.ref f2))) (l2 : K.lookup f2 = some ⟨oc2, od2, .func (PySem.W.fnOf "_law_second" "_law_second" (defArgs s__law_second) (defBody s__law_second) (defScope s__law_second) .none kV2 dc2 pm2 an2 cd2 ct2), sl2⟩) (c2 : PySem.W.codeIn K cd2 "_law_second" = true) (k2 : PySem.W.keepIn K (.ref f2) = true)
    (a3 : PySem.W.nsIn K mainGlobals "_law_kinds" = some (some (.ref f3))) (l3 : K.lookup f3 = some ⟨oc3, od3, .func (PySem.W.fnOf "_law_kinds" "_law_kinds" (defArgs s__law_kinds) (defBody s__law_kinds) (defScope s__law_kinds) .none kV3 dc3 pm3 an3 cd3 ct3), sl3⟩) (c3 : PySem.W.codeIn K cd3 "_law_kinds" = true) (k3 : PySem.W.keepIn K (.ref f3) = true)
    (a4 : PySem.W.nsIn K mainGlobals "law" = some (some (.ref f4))) (l4 : K.lookup f4 = some ⟨oc4, od4, .func (PySem.W.fnOf "law" "law" (defArgs s_law) (defBody s_law) (defScope s_law) .none kV4 dc4 pm4 an4 cd4 ct4), sl4⟩) (c4 : PySem.W.codeIn K cd4 "law" = true) (k4 : PySem.W.keepIn K (.ref f4) = true)
    (z_len : PySem.W.nsIn K mainGlobals "len" = some none)
    (z_range : PySem.W.nsIn K mainGlobals "range" = some none)
    (z_abs : PySem.W.nsIn K mainGlobals "abs" = some none)
    (z_int : PySem.W.nsIn K mainGlobals "int" = some none)
    (z_min : PySem.W.nsIn K mainGlobals "min" = some none)
    (z_max : PySem.W.nsIn K mainGlobals "max" = some none)
    (z_list : PySem.W.nsIn K mainGlobals "list" = some none)
    (z_isinstance : PySem.W.nsIn K mainGlobals "isinstance" = some none)
    (z_bool : PySem.W.nsIn K mainGlobals "bool" = some none)
    (z_tuple : PySem.W.nsIn K mainGlobals "tuple" = some none)
    (z_sorted : PySem.W.nsIn K mainGlobals "sorted" = some none)
    (z_all : PySem.W.nsIn K mainGlobals "all" = some none)
    (z_any : PySem.W.nsIn K mainGlobals "any" = some none)
    (z_repr : PySem.W.nsIn K mainGlobals "repr" = some none)
    (z_dict : PySem.W.nsIn K mainGlobals "dict" = some none)
    (ca_OverpassesError : PySem.W.nsIn K mainGlobals "OverpassesError" = some (some (.ref kOverpassesError)))
    (cl_OverpassesError : K.lookup kOverpassesError = some (excClassObj nmOverpassesError qOverpassesError kOverpassesError NOverpassesError bsOverpassesError bmOverpassesError true snOverpassesError subOverpassesError abOverpassesError colOverpassesError ddOverpassesError m0OverpassesError m1OverpassesError m2OverpassesError m3OverpassesError m5OverpassesError "ValueError.__new__"))
    (rv_OverpassesError : PySem.HandSPX.refsVE bmOverpassesError = true)
    (sa_OverpassesError : PySem.W.findIn K (.ref kOverpassesError) "__setattr__" = some (some (.builtin "object.__setattr__")))
    (ga_OverpassesError : PySem.W.findIn K (.ref kOverpassesError) "__getattribute__" = some (some (.builtin "BaseException.__getattribute__")))
    (gg_OverpassesError : PySem.W.findIn K (.ref kOverpassesError) "__getattr__" = some none)
    (nb_OverpassesError : PySem.W.findIn K (.ref kOverpassesError) "at" = some none)
    (ii_OverpassesError : PySem.W.findIn K (.ref kOverpassesError) "__init__" = some (some (.ref fI)))
    (kc_OverpassesError : PySem.W.keepIn K (.ref kOverpassesError) = true)
    (ec_OverpassesError : PySem.W.subIn K (.ref kOverpassesError) (.type "BaseException") = some true)
    (tc_OverpassesError : PySem.W.typeIn K (.ref kOverpassesError) = some (.type "type"))
    (hc_OverpassesError : PySem.W.hasDictIn K kOverpassesError = true)
    (cc_OverpassesError : PySem.W.findIn K (.ref kOverpassesError) "__class__" = some (some (.builtin "object.__class__")))
    (mo_OverpassesError : PySem.W.mroIn K kOverpassesError (.type "object") = some true)
    (ca_BadLine : PySem.W.nsIn K mainGlobals "BadLine" = some (some (.ref kBadLine)))
    (cl_BadLine : K.lookup kBadLine = some (excClassObj nmBadLine qBadLine kBadLine NBadLine bsBadLine bmBadLine true snBadLine subBadLine abBadLine colBadLine ddBadLine m0BadLine m1BadLine m2BadLine m3BadLine m5BadLine "ValueError.__new__"))
    (rv_BadLine : PySem.HandSPX.refsVE bmBadLine = true)
    (sa_BadLine : PySem.W.findIn K (.ref kBadLine) "__setattr__" = some (some (.builtin "object.__setattr__")))
    (ga_BadLine : PySem.W.findIn K (.ref kBadLine) "__getattribute__" = some (some (.builtin "BaseException.__getattribute__")))
    (gg_BadLine : PySem.W.findIn K (.ref kBadLine) "__getattr__" = some none)
    (nb_BadLine : PySem.W.findIn K (.ref kBadLine) "at" = some none)
    (ii_BadLine : PySem.W.findIn K (.ref kBadLine) "__init__" = some (some (.ref fI)))
    (kc_BadLine : PySem.W.keepIn K (.ref kBadLine) = true)
    (ec_BadLine : PySem.W.subIn K (.ref kBadLine) (.type "BaseException") = some true)
    (tc_BadLine : PySem.W.typeIn K (.ref kBadLine) = some (.type "type"))
    (hc_BadLine : PySem.W.hasDictIn K kBadLine = true)
    (cc_BadLine : PySem.W.findIn K (.ref kBadLine) "__class__" = some (some (.builtin "object.__class__")))
    (mo_BadLine : PySem.W.mroIn K kBadLine (.type "object") = some true)
    (ca_BadPlace : PySem.W.nsIn K mainGlobals "BadPlace" = some (some (.ref kBadPlace)))
    (cl_BadPlace : K.lookup kBadPlace = some (excClassObj nmBadPlace qBadPlace kBadPlace NBadPlace bsBadPlace bmBadPlace true snBadPlace subBadPlace abBadPlace colBadPlace ddBadPlace m0BadPlace m1BadPlace m2BadPlace m3BadPlace m5BadPlace "ValueError.__new__"))
    (rv_BadPlace : PySem.HandSPX.refsVE bmBadPlace = true)
    (sa_BadPlace : PySem.W.findIn K (.ref kBadPlace) "__setattr__" = some (some (.builtin "object.__setattr__")))
    (ga_BadPlace : PySem.W.findIn K (.ref kBadPlace) "__getattribute__" = some (some (.builtin "BaseException.__getattribute__")))
    (gg_BadPlace : PySem.W.findIn K (.ref kBadPlace) "__getattr__" = some none)
    (nb_BadPlace : PySem.W.findIn K (.ref kBadPlace) "at" = some none)
    (ii_BadPlace : PySem.W.findIn K (.ref kBadPlace) "__init__" = some (some (.ref fI)))
    (kc_BadPlace : PySem.W.keepIn K (.ref kBadPlace) = true)
    (ec_BadPlace : PySem.W.subIn K (.ref kBadPlace) (.type "BaseException") = some true)
    (tc_BadPlace : PySem.W.typeIn K (.ref kBadPlace) = some (.type "type"))
    (hc_BadPlace : PySem.W.hasDictIn K kBadPlace = true)
    (cc_BadPlace : PySem.W.findIn K (.ref kBadPlace) "__class__" = some (some (.builtin "object.__class__")))
    (mo_BadPlace : PySem.W.mroIn K kBadPlace (.type "object") = some true)
    (ca_BadPrice : PySem.W.nsIn K mainGlobals "BadPrice" = some (some (.ref kBadPrice)))
    (cl_BadPrice : K.lookup kBadPrice = some (excClassObj nmBadPrice qBadPrice kBadPrice NBadPrice bsBadPrice bmBadPrice true snBadPrice subBadPrice abBadPrice colBadPrice ddBadPrice m0BadPrice m1BadPrice m2BadPrice m3BadPrice m5BadPrice "ValueError.__new__"))
    (rv_BadPrice : PySem.HandSPX.refsVE bmBadPrice = true)
    (sa_BadPrice : PySem.W.findIn K (.ref kBadPrice) "__setattr__" = some (some (.builtin "object.__setattr__")))
    (ga_BadPrice : PySem.W.findIn K (.ref kBadPrice) "__getattribute__" = some (some (.builtin "BaseException.__getattribute__")))
    (gg_BadPrice : PySem.W.findIn K (.ref kBadPrice) "__getattr__" = some none)
    (nb_BadPrice : PySem.W.findIn K (.ref kBadPrice) "at" = some none)
    (ii_BadPrice : PySem.W.findIn K (.ref kBadPrice) "__init__" = some (some (.ref fI)))
    (kc_BadPrice : PySem.W.keepIn K (.ref kBadPrice) = true)
    (ec_BadPrice : PySem.W.subIn K (.ref kBadPrice) (.type "BaseException") = some true)
    (tc_BadPrice : PySem.W.typeIn K (.ref kBadPrice) = some (.type "type"))
    (hc_BadPrice : PySem.W.hasDictIn K kBadPrice = true)
    (cc_BadPrice : PySem.W.findIn K (.ref kBadPrice) "__class__" = some (some (.builtin "object.__class__")))
    (mo_BadPrice : PySem.W.mroIn K kBadPrice (.type "object") = some true)
    (ca_WrongOrder : PySem.W.nsIn K mainGlobals "WrongOrder" = some (some (.ref kWrongOrder)))
    (cl_WrongOrder : K.lookup kWrongOrder = some (excClassObj nmWrongOrder qWrongOrder kWrongOrder NWrongOrder bsWrongOrder bmWrongOrder true snWrongOrder subWrongOrder abWrongOrder colWrongOrder ddWrongOrder m0WrongOrder m1WrongOrder m2WrongOrder m3WrongOrder m5WrongOrder "ValueError.__new__"))
    (rv_WrongOrder : PySem.HandSPX.refsVE bmWrongOrder = true)
    (sa_WrongOrder : PySem.W.findIn K (.ref kWrongOrder) "__setattr__" = some (some (.builtin "object.__setattr__")))
    (ga_WrongOrder : PySem.W.findIn K (.ref kWrongOrder) "__getattribute__" = some (some (.builtin "BaseException.__getattribute__")))
    (gg_WrongOrder : PySem.W.findIn K (.ref kWrongOrder) "__getattr__" = some none)
    (nb_WrongOrder : PySem.W.findIn K (.ref kWrongOrder) "at" = some none)
    (ii_WrongOrder : PySem.W.findIn K (.ref kWrongOrder) "__init__" = some (some (.ref fI)))
    (kc_WrongOrder : PySem.W.keepIn K (.ref kWrongOrder) = true)
    (ec_WrongOrder : PySem.W.subIn K (.ref kWrongOrder) (.type "BaseException") = some true)
    (tc_WrongOrder : PySem.W.typeIn K (.ref kWrongOrder) = some (.type "type"))
    (hc_WrongOrder : PySem.W.hasDictIn K kWrongOrder = true)
    (cc_WrongOrder : PySem.W.findIn K (.ref kWrongOrder) "__class__" = some (some (.builtin "object.__class__")))
    (mo_WrongOrder : PySem.W.mroIn K kWrongOrder (.type "object") = some true)
    (ca_NoLink : PySem.W.nsIn K mainGlobals "NoLink" = some (some (.ref kNoLink)))
    (cl_NoLink : K.lookup kNoLink = some (excClassObj nmNoLink qNoLink kNoLink NNoLink bsNoLink bmNoLink true snNoLink subNoLink abNoLink colNoLink ddNoLink m0NoLink m1NoLink m2NoLink m3NoLink m5NoLink "ValueError.__new__"))
    (rv_NoLink : PySem.HandSPX.refsVE bmNoLink = true)
    (sa_NoLink : PySem.W.findIn K (.ref kNoLink) "__setattr__" = some (some (.builtin "object.__setattr__")))
    (ga_NoLink : PySem.W.findIn K (.ref kNoLink) "__getattribute__" = some (some (.builtin "BaseException.__getattribute__")))
    (gg_NoLink : PySem.W.findIn K (.ref kNoLink) "__getattr__" = some none)
    (nb_NoLink : PySem.W.findIn K (.ref kNoLink) "at" = some none)
    (ii_NoLink : PySem.W.findIn K (.ref kNoLink) "__init__" = some (some (.ref fI)))
    (kc_NoLink : PySem.W.keepIn K (.ref kNoLink) = true)
    (ec_NoLink : PySem.W.subIn K (.ref kNoLink) (.type "BaseException") = some true)
    (tc_NoLink : PySem.W.typeIn K (.ref kNoLink) = some (.type "type"))
    (hc_NoLink : PySem.W.hasDictIn K kNoLink = true)
    (cc_NoLink : PySem.W.findIn K (.ref kNoLink) "__class__" = some (some (.builtin "object.__class__")))
    (mo_NoLink : PySem.W.mroIn K kNoLink (.type "object") = some true)
    (ca_NoPlace : PySem.W.nsIn K mainGlobals "NoPlace" = some (some (.ref kNoPlace)))
    (cl_NoPlace : K.lookup kNoPlace = some (excClassObj nmNoPlace qNoPlace kNoPlace NNoPlace bsNoPlace bmNoPlace true snNoPlace subNoPlace abNoPlace colNoPlace ddNoPlace m0NoPlace m1NoPlace m2NoPlace m3NoPlace m5NoPlace "ValueError.__new__"))
    (rv_NoPlace : PySem.HandSPX.refsVE bmNoPlace = true)
    (sa_NoPlace : PySem.W.findIn K (.ref kNoPlace) "__setattr__" = some (some (.builtin "object.__setattr__")))
    (ga_NoPlace : PySem.W.findIn K (.ref kNoPlace) "__getattribute__" = some (some (.builtin "BaseException.__getattribute__")))
    (gg_NoPlace : PySem.W.findIn K (.ref kNoPlace) "__getattr__" = some none)
    (nb_NoPlace : PySem.W.findIn K (.ref kNoPlace) "at" = some none)
    (ii_NoPlace : PySem.W.findIn K (.ref kNoPlace) "__init__" = some (some (.ref fI)))
    (kc_NoPlace : PySem.W.keepIn K (.ref kNoPlace) = true)
    (ec_NoPlace : PySem.W.subIn K (.ref kNoPlace) (.type "BaseException") = some true)
    (tc_NoPlace : PySem.W.typeIn K (.ref kNoPlace) = some (.type "type"))
    (hc_NoPlace : PySem.W.hasDictIn K kNoPlace = true)
    (cc_NoPlace : PySem.W.findIn K (.ref kNoPlace) "__class__" = some (some (.builtin "object.__class__")))
    (mo_NoPlace : PySem.W.mroIn K kNoPlace (.type "object") = some true)
    (ca_NotAnOrder : PySem.W.nsIn K mainGlobals "NotAnOrder" = some (some (.ref kNotAnOrder)))
    (cl_NotAnOrder : K.lookup kNotAnOrder = some (excClassObj nmNotAnOrder qNotAnOrder kNotAnOrder NNotAnOrder bsNotAnOrder bmNotAnOrder true snNotAnOrder subNotAnOrder abNotAnOrder colNotAnOrder ddNotAnOrder m0NotAnOrder m1NotAnOrder m2NotAnOrder m3NotAnOrder m5NotAnOrder "ValueError.__new__"))
    (rv_NotAnOrder : PySem.HandSPX.refsVE bmNotAnOrder = true)
    (sa_NotAnOrder : PySem.W.findIn K (.ref kNotAnOrder) "__setattr__" = some (some (.builtin "object.__setattr__")))
    (ga_NotAnOrder : PySem.W.findIn K (.ref kNotAnOrder) "__getattribute__" = some (some (.builtin "BaseException.__getattribute__")))
    (gg_NotAnOrder : PySem.W.findIn K (.ref kNotAnOrder) "__getattr__" = some none)
    (nb_NotAnOrder : PySem.W.findIn K (.ref kNotAnOrder) "at" = some none)
    (ii_NotAnOrder : PySem.W.findIn K (.ref kNotAnOrder) "__init__" = some (some (.ref fI)))
    (kc_NotAnOrder : PySem.W.keepIn K (.ref kNotAnOrder) = true)
    (ec_NotAnOrder : PySem.W.subIn K (.ref kNotAnOrder) (.type "BaseException") = some true)
    (tc_NotAnOrder : PySem.W.typeIn K (.ref kNotAnOrder) = some (.type "type"))
    (hc_NotAnOrder : PySem.W.hasDictIn K kNotAnOrder = true)
    (cc_NotAnOrder : PySem.W.findIn K (.ref kNotAnOrder) "__class__" = some (some (.builtin "object.__class__")))
    (mo_NotAnOrder : PySem.W.mroIn K kNotAnOrder (.type "object") = some true)
    (ca_NoPair : PySem.W.nsIn K mainGlobals "NoPair" = some (some (.ref kNoPair)))
    (cl_NoPair : K.lookup kNoPair = some (excClassObj nmNoPair qNoPair kNoPair NNoPair bsNoPair bmNoPair true snNoPair subNoPair abNoPair colNoPair ddNoPair m0NoPair m1NoPair m2NoPair m3NoPair m5NoPair "ValueError.__new__"))
    (rv_NoPair : PySem.HandSPX.refsVE bmNoPair = true)
    (sa_NoPair : PySem.W.findIn K (.ref kNoPair) "__setattr__" = some (some (.builtin "object.__setattr__")))
    (ga_NoPair : PySem.W.findIn K (.ref kNoPair) "__getattribute__" = some (some (.builtin "BaseException.__getattribute__")))
    (gg_NoPair : PySem.W.findIn K (.ref kNoPair) "__getattr__" = some none)
    (nb_NoPair : PySem.W.findIn K (.ref kNoPair) "at" = some none)
    (ii_NoPair : PySem.W.findIn K (.ref kNoPair) "__init__" = some (some (.ref fI)))
    (kc_NoPair : PySem.W.keepIn K (.ref kNoPair) = true)
    (ec_NoPair : PySem.W.subIn K (.ref kNoPair) (.type "BaseException") = some true)
    (tc_NoPair : PySem.W.typeIn K (.ref kNoPair) = some (.type "type"))
    (hc_NoPair : PySem.W.hasDictIn K kNoPair = true)
    (cc_NoPair : PySem.W.findIn K (.ref kNoPair) "__class__" = some (some (.builtin "object.__class__")))
    (mo_NoPair : PySem.W.mroIn K kNoPair (.type "object") = some true)
    (ca_NothingToUndo : PySem.W.nsIn K mainGlobals "NothingToUndo" = some (some (.ref kNothingToUndo)))
    (cl_NothingToUndo : K.lookup kNothingToUndo = some (excClassObj nmNothingToUndo qNothingToUndo kNothingToUndo NNothingToUndo bsNothingToUndo bmNothingToUndo true snNothingToUndo subNothingToUndo abNothingToUndo colNothingToUndo ddNothingToUndo m0NothingToUndo m1NothingToUndo m2NothingToUndo m3NothingToUndo m5NothingToUndo "ValueError.__new__"))
    (rv_NothingToUndo : PySem.HandSPX.refsVE bmNothingToUndo = true)
    (sa_NothingToUndo : PySem.W.findIn K (.ref kNothingToUndo) "__setattr__" = some (some (.builtin "object.__setattr__")))
    (ga_NothingToUndo : PySem.W.findIn K (.ref kNothingToUndo) "__getattribute__" = some (some (.builtin "BaseException.__getattribute__")))
    (gg_NothingToUndo : PySem.W.findIn K (.ref kNothingToUndo) "__getattr__" = some none)
    (nb_NothingToUndo : PySem.W.findIn K (.ref kNothingToUndo) "at" = some none)
    (ii_NothingToUndo : PySem.W.findIn K (.ref kNothingToUndo) "__init__" = some (some (.ref fI)))
    (kc_NothingToUndo : PySem.W.keepIn K (.ref kNothingToUndo) = true)
    (ec_NothingToUndo : PySem.W.subIn K (.ref kNothingToUndo) (.type "BaseException") = some true)
    (tc_NothingToUndo : PySem.W.typeIn K (.ref kNothingToUndo) = some (.type "type"))
    (hc_NothingToUndo : PySem.W.hasDictIn K kNothingToUndo = true)
    (cc_NothingToUndo : PySem.W.findIn K (.ref kNothingToUndo) "__class__" = some (some (.builtin "object.__class__")))
    (mo_NothingToUndo : PySem.W.mroIn K kNothingToUndo (.type "object") = some true)
    (ca_OutOfRange : PySem.W.nsIn K mainGlobals "OutOfRange" = some (some (.ref kOutOfRange)))
    (cl_OutOfRange : K.lookup kOutOfRange = some (excClassObj nmOutOfRange qOutOfRange kOutOfRange NOutOfRange bsOutOfRange bmOutOfRange true snOutOfRange subOutOfRange abOutOfRange colOutOfRange ddOutOfRange m0OutOfRange m1OutOfRange m2OutOfRange m3OutOfRange m5OutOfRange "ValueError.__new__"))
    (rv_OutOfRange : PySem.HandSPX.refsVE bmOutOfRange = true)
    (sa_OutOfRange : PySem.W.findIn K (.ref kOutOfRange) "__setattr__" = some (some (.builtin "object.__setattr__")))
    (ga_OutOfRange : PySem.W.findIn K (.ref kOutOfRange) "__getattribute__" = some (some (.builtin "BaseException.__getattribute__")))
    (gg_OutOfRange : PySem.W.findIn K (.ref kOutOfRange) "__getattr__" = some none)
    (nb_OutOfRange : PySem.W.findIn K (.ref kOutOfRange) "at" = some none)
    (ii_OutOfRange : PySem.W.findIn K (.ref kOutOfRange) "__init__" = some (some (.ref fI)))
    (kc_OutOfRange : PySem.W.keepIn K (.ref kOutOfRange) = true)
    (ec_OutOfRange : PySem.W.subIn K (.ref kOutOfRange) (.type "BaseException") = some true)
    (tc_OutOfRange : PySem.W.typeIn K (.ref kOutOfRange) = some (.type "type"))
    (hc_OutOfRange : PySem.W.hasDictIn K kOutOfRange = true)
    (cc_OutOfRange : PySem.W.findIn K (.ref kOutOfRange) "__class__" = some (some (.builtin "object.__class__")))
    (mo_OutOfRange : PySem.W.mroIn K kOutOfRange (.type "object") = some true)
    (ca_NoTurn : PySem.W.nsIn K mainGlobals "NoTurn" = some (some (.ref kNoTurn)))
    (cl_NoTurn : K.lookup kNoTurn = some (excClassObj nmNoTurn qNoTurn kNoTurn NNoTurn bsNoTurn bmNoTurn true snNoTurn subNoTurn abNoTurn colNoTurn ddNoTurn m0NoTurn m1NoTurn m2NoTurn m3NoTurn m5NoTurn "ValueError.__new__"))
    (rv_NoTurn : PySem.HandSPX.refsVE bmNoTurn = true)
    (sa_NoTurn : PySem.W.findIn K (.ref kNoTurn) "__setattr__" = some (some (.builtin "object.__setattr__")))
    (ga_NoTurn : PySem.W.findIn K (.ref kNoTurn) "__getattribute__" = some (some (.builtin "BaseException.__getattribute__")))
    (gg_NoTurn : PySem.W.findIn K (.ref kNoTurn) "__getattr__" = some none)
    (nb_NoTurn : PySem.W.findIn K (.ref kNoTurn) "at" = some none)
    (ii_NoTurn : PySem.W.findIn K (.ref kNoTurn) "__init__" = some (some (.ref fI)))
    (kc_NoTurn : PySem.W.keepIn K (.ref kNoTurn) = true)
    (ec_NoTurn : PySem.W.subIn K (.ref kNoTurn) (.type "BaseException") = some true)
    (tc_NoTurn : PySem.W.typeIn K (.ref kNoTurn) = some (.type "type"))
    (hc_NoTurn : PySem.W.hasDictIn K kNoTurn = true)
    (cc_NoTurn : PySem.W.findIn K (.ref kNoTurn) "__class__" = some (some (.builtin "object.__class__")))
    (mo_NoTurn : PySem.W.mroIn K kNoTurn (.type "object") = some true)
    (ca_BadKind : PySem.W.nsIn K mainGlobals "BadKind" = some (some (.ref kBadKind)))
    (cl_BadKind : K.lookup kBadKind = some (excClassObj nmBadKind qBadKind kBadKind NBadKind bsBadKind bmBadKind true snBadKind subBadKind abBadKind colBadKind ddBadKind m0BadKind m1BadKind m2BadKind m3BadKind m5BadKind "ValueError.__new__"))
    (rv_BadKind : PySem.HandSPX.refsVE bmBadKind = true)
    (sa_BadKind : PySem.W.findIn K (.ref kBadKind) "__setattr__" = some (some (.builtin "object.__setattr__")))
    (ga_BadKind : PySem.W.findIn K (.ref kBadKind) "__getattribute__" = some (some (.builtin "BaseException.__getattribute__")))
    (gg_BadKind : PySem.W.findIn K (.ref kBadKind) "__getattr__" = some none)
    (nb_BadKind : PySem.W.findIn K (.ref kBadKind) "at" = some none)
    (ii_BadKind : PySem.W.findIn K (.ref kBadKind) "__init__" = some (some (.ref fI)))
    (kc_BadKind : PySem.W.keepIn K (.ref kBadKind) = true)
    (ec_BadKind : PySem.W.subIn K (.ref kBadKind) (.type "BaseException") = some true)
    (tc_BadKind : PySem.W.typeIn K (.ref kBadKind) = some (.type "type"))
    (hc_BadKind : PySem.W.hasDictIn K kBadKind = true)
    (cc_BadKind : PySem.W.findIn K (.ref kBadKind) "__class__" = some (some (.builtin "object.__class__")))
    (mo_BadKind : PySem.W.mroIn K kBadKind (.type "object") = some true)
    (ca_BadWorth : PySem.W.nsIn K mainGlobals "BadWorth" = some (some (.ref kBadWorth)))
    (cl_BadWorth : K.lookup kBadWorth = some (excClassObj nmBadWorth qBadWorth kBadWorth NBadWorth bsBadWorth bmBadWorth true snBadWorth subBadWorth abBadWorth colBadWorth ddBadWorth m0BadWorth m1BadWorth m2BadWorth m3BadWorth m5BadWorth "ValueError.__new__"))
    (rv_BadWorth : PySem.HandSPX.refsVE bmBadWorth = true)
    (sa_BadWorth : PySem.W.findIn K (.ref kBadWorth) "__setattr__" = some (some (.builtin "object.__setattr__")))
    (ga_BadWorth : PySem.W.findIn K (.ref kBadWorth) "__getattribute__" = some (some (.builtin "BaseException.__getattribute__")))
    (gg_BadWorth : PySem.W.findIn K (.ref kBadWorth) "__getattr__" = some none)
    (nb_BadWorth : PySem.W.findIn K (.ref kBadWorth) "at" = some none)
    (ii_BadWorth : PySem.W.findIn K (.ref kBadWorth) "__init__" = some (some (.ref fI)))
    (kc_BadWorth : PySem.W.keepIn K (.ref kBadWorth) = true)
    (ec_BadWorth : PySem.W.subIn K (.ref kBadWorth) (.type "BaseException") = some true)
    (tc_BadWorth : PySem.W.typeIn K (.ref kBadWorth) = some (.type "type"))
    (hc_BadWorth : PySem.W.hasDictIn K kBadWorth = true)
    (cc_BadWorth : PySem.W.findIn K (.ref kBadWorth) "__class__" = some (some (.builtin "object.__class__")))
    (mo_BadWorth : PySem.W.mroIn K kBadWorth (.type "object") = some true)
    (ca_BadRule : PySem.W.nsIn K mainGlobals "BadRule" = some (some (.ref kBadRule)))
    (cl_BadRule : K.lookup kBadRule = some (excClassObj nmBadRule qBadRule kBadRule NBadRule bsBadRule bmBadRule true snBadRule subBadRule abBadRule colBadRule ddBadRule m0BadRule m1BadRule m2BadRule m3BadRule m5BadRule "ValueError.__new__"))
    (rv_BadRule : PySem.HandSPX.refsVE bmBadRule = true)
    (sa_BadRule : PySem.W.findIn K (.ref kBadRule) "__setattr__" = some (some (.builtin "object.__setattr__")))
    (ga_BadRule : PySem.W.findIn K (.ref kBadRule) "__getattribute__" = some (some (.builtin "BaseException.__getattribute__")))
    (gg_BadRule : PySem.W.findIn K (.ref kBadRule) "__getattr__" = some none)
    (nb_BadRule : PySem.W.findIn K (.ref kBadRule) "at" = some none)
    (ii_BadRule : PySem.W.findIn K (.ref kBadRule) "__init__" = some (some (.ref fI)))
    (kc_BadRule : PySem.W.keepIn K (.ref kBadRule) = true)
    (ec_BadRule : PySem.W.subIn K (.ref kBadRule) (.type "BaseException") = some true)
    (tc_BadRule : PySem.W.typeIn K (.ref kBadRule) = some (.type "type"))
    (hc_BadRule : PySem.W.hasDictIn K kBadRule = true)
    (cc_BadRule : PySem.W.findIn K (.ref kBadRule) "__class__" = some (some (.builtin "object.__class__")))
    (mo_BadRule : PySem.W.mroIn K kBadRule (.type "object") = some true)
    (ca_WrongSize : PySem.W.nsIn K mainGlobals "WrongSize" = some (some (.ref kWrongSize)))
    (cl_WrongSize : K.lookup kWrongSize = some (excClassObj nmWrongSize qWrongSize kWrongSize NWrongSize bsWrongSize bmWrongSize true snWrongSize subWrongSize abWrongSize colWrongSize ddWrongSize m0WrongSize m1WrongSize m2WrongSize m3WrongSize m5WrongSize "ValueError.__new__"))
    (rv_WrongSize : PySem.HandSPX.refsVE bmWrongSize = true)
    (sa_WrongSize : PySem.W.findIn K (.ref kWrongSize) "__setattr__" = some (some (.builtin "object.__setattr__")))
    (ga_WrongSize : PySem.W.findIn K (.ref kWrongSize) "__getattribute__" = some (some (.builtin "BaseException.__getattribute__")))
    (gg_WrongSize : PySem.W.findIn K (.ref kWrongSize) "__getattr__" = some none)
    (nb_WrongSize : PySem.W.findIn K (.ref kWrongSize) "at" = some none)
    (ii_WrongSize : PySem.W.findIn K (.ref kWrongSize) "__init__" = some (some (.ref fI)))
    (kc_WrongSize : PySem.W.keepIn K (.ref kWrongSize) = true)
    (ec_WrongSize : PySem.W.subIn K (.ref kWrongSize) (.type "BaseException") = some true)
    (tc_WrongSize : PySem.W.typeIn K (.ref kWrongSize) = some (.type "type"))
    (hc_WrongSize : PySem.W.hasDictIn K kWrongSize = true)
    (cc_WrongSize : PySem.W.findIn K (.ref kWrongSize) "__class__" = some (some (.builtin "object.__class__")))
    (mo_WrongSize : PySem.W.mroIn K kWrongSize (.type "object") = some true)
    (ti_ : PySem.W.typeIn K (.ref fI) = some (.type "function"))
    (li_ : K.lookup fI = some ⟨ocI, odI, .func (PySem.W.fnOf "__init__" "OverpassesError.__init__" (defArgs s_init) (defBody s_init) (defScope s_init) .none kVI dcI pmI anI cdI ctI), slI⟩)
    (ci_ : PySem.W.codeIn K cdI "OverpassesError.__init__" = true)
    (ki_ : PySem.W.keepIn K (.ref fI) = true)
    (vi_ : PySem.W.findCls K (.type "ValueError") (.type "type") "__init__" = some (.val (.builtin "ValueError.__init__")))
    (zv_ : PySem.W.nsIn K mainGlobals "ValueError" = some none)
    (hn_ : PySem.W.specialIn K (.builtin "object.__class__") "__get__" = some (some (.builtin "getset_descriptor.__get__")))
    (ht_ : PySem.W.takesIn K (.builtin "object.__class__") = some true)
    (xv_OverpassesError_BadLine : PySem.W.kitOne K (.ref kOverpassesError) (.ref kBadLine) = some (below "BadLine" "OverpassesError"))
    (xv_BadLine_BadLine : PySem.W.kitOne K (.ref kBadLine) (.ref kBadLine) = some (below "BadLine" "BadLine"))
    (xv_BadPlace_BadLine : PySem.W.kitOne K (.ref kBadPlace) (.ref kBadLine) = some (below "BadLine" "BadPlace"))
    (xv_BadPrice_BadLine : PySem.W.kitOne K (.ref kBadPrice) (.ref kBadLine) = some (below "BadLine" "BadPrice"))
    (xv_WrongOrder_BadLine : PySem.W.kitOne K (.ref kWrongOrder) (.ref kBadLine) = some (below "BadLine" "WrongOrder"))
    (xv_NoLink_BadLine : PySem.W.kitOne K (.ref kNoLink) (.ref kBadLine) = some (below "BadLine" "NoLink"))
    (xv_NoPlace_BadLine : PySem.W.kitOne K (.ref kNoPlace) (.ref kBadLine) = some (below "BadLine" "NoPlace"))
    (xv_NotAnOrder_BadLine : PySem.W.kitOne K (.ref kNotAnOrder) (.ref kBadLine) = some (below "BadLine" "NotAnOrder"))
    (xv_NoPair_BadLine : PySem.W.kitOne K (.ref kNoPair) (.ref kBadLine) = some (below "BadLine" "NoPair"))
    (xv_NothingToUndo_BadLine : PySem.W.kitOne K (.ref kNothingToUndo) (.ref kBadLine) = some (below "BadLine" "NothingToUndo"))
    (xv_OutOfRange_BadLine : PySem.W.kitOne K (.ref kOutOfRange) (.ref kBadLine) = some (below "BadLine" "OutOfRange"))
    (xv_NoTurn_BadLine : PySem.W.kitOne K (.ref kNoTurn) (.ref kBadLine) = some (below "BadLine" "NoTurn"))
    (xv_BadKind_BadLine : PySem.W.kitOne K (.ref kBadKind) (.ref kBadLine) = some (below "BadLine" "BadKind"))
    (xv_BadWorth_BadLine : PySem.W.kitOne K (.ref kBadWorth) (.ref kBadLine) = some (below "BadLine" "BadWorth"))
    (xv_BadRule_BadLine : PySem.W.kitOne K (.ref kBadRule) (.ref kBadLine) = some (below "BadLine" "BadRule"))
    (xv_WrongSize_BadLine : PySem.W.kitOne K (.ref kWrongSize) (.ref kBadLine) = some (below "BadLine" "WrongSize"))
    (xv_OverpassesError_BadPlace : PySem.W.kitOne K (.ref kOverpassesError) (.ref kBadPlace) = some (below "BadPlace" "OverpassesError"))
    (xv_BadLine_BadPlace : PySem.W.kitOne K (.ref kBadLine) (.ref kBadPlace) = some (below "BadPlace" "BadLine"))
    (xv_BadPlace_BadPlace : PySem.W.kitOne K (.ref kBadPlace) (.ref kBadPlace) = some (below "BadPlace" "BadPlace"))
    (xv_BadPrice_BadPlace : PySem.W.kitOne K (.ref kBadPrice) (.ref kBadPlace) = some (below "BadPlace" "BadPrice"))
    (xv_WrongOrder_BadPlace : PySem.W.kitOne K (.ref kWrongOrder) (.ref kBadPlace) = some (below "BadPlace" "WrongOrder"))
    (xv_NoLink_BadPlace : PySem.W.kitOne K (.ref kNoLink) (.ref kBadPlace) = some (below "BadPlace" "NoLink"))
    (xv_NoPlace_BadPlace : PySem.W.kitOne K (.ref kNoPlace) (.ref kBadPlace) = some (below "BadPlace" "NoPlace"))
    (xv_NotAnOrder_BadPlace : PySem.W.kitOne K (.ref kNotAnOrder) (.ref kBadPlace) = some (below "BadPlace" "NotAnOrder"))
    (xv_NoPair_BadPlace : PySem.W.kitOne K (.ref kNoPair) (.ref kBadPlace) = some (below "BadPlace" "NoPair"))
    (xv_NothingToUndo_BadPlace : PySem.W.kitOne K (.ref kNothingToUndo) (.ref kBadPlace) = some (below "BadPlace" "NothingToUndo"))
    (xv_OutOfRange_BadPlace : PySem.W.kitOne K (.ref kOutOfRange) (.ref kBadPlace) = some (below "BadPlace" "OutOfRange"))
    (xv_NoTurn_BadPlace : PySem.W.kitOne K (.ref kNoTurn) (.ref kBadPlace) = some (below "BadPlace" "NoTurn"))
    (xv_BadKind_BadPlace : PySem.W.kitOne K (.ref kBadKind) (.ref kBadPlace) = some (below "BadPlace" "BadKind"))
    (xv_BadWorth_BadPlace : PySem.W.kitOne K (.ref kBadWorth) (.ref kBadPlace) = some (below "BadPlace" "BadWorth"))
    (xv_BadRule_BadPlace : PySem.W.kitOne K (.ref kBadRule) (.ref kBadPlace) = some (below "BadPlace" "BadRule"))
    (xv_WrongSize_BadPlace : PySem.W.kitOne K (.ref kWrongSize) (.ref kBadPlace) = some (below "BadPlace" "WrongSize"))
    (xv_OverpassesError_BadPrice : PySem.W.kitOne K (.ref kOverpassesError) (.ref kBadPrice) = some (below "BadPrice" "OverpassesError"))
    (xv_BadLine_BadPrice : PySem.W.kitOne K (.ref kBadLine) (.ref kBadPrice) = some (below "BadPrice" "BadLine"))
    (xv_BadPlace_BadPrice : PySem.W.kitOne K (.ref kBadPlace) (.ref kBadPrice) = some (below "BadPrice" "BadPlace"))
    (xv_BadPrice_BadPrice : PySem.W.kitOne K (.ref kBadPrice) (.ref kBadPrice) = some (below "BadPrice" "BadPrice"))
    (xv_WrongOrder_BadPrice : PySem.W.kitOne K (.ref kWrongOrder) (.ref kBadPrice) = some (below "BadPrice" "WrongOrder"))
    (xv_NoLink_BadPrice : PySem.W.kitOne K (.ref kNoLink) (.ref kBadPrice) = some (below "BadPrice" "NoLink"))
    (xv_NoPlace_BadPrice : PySem.W.kitOne K (.ref kNoPlace) (.ref kBadPrice) = some (below "BadPrice" "NoPlace"))
    (xv_NotAnOrder_BadPrice : PySem.W.kitOne K (.ref kNotAnOrder) (.ref kBadPrice) = some (below "BadPrice" "NotAnOrder"))
    (xv_NoPair_BadPrice : PySem.W.kitOne K (.ref kNoPair) (.ref kBadPrice) = some (below "BadPrice" "NoPair"))
    (xv_NothingToUndo_BadPrice : PySem.W.kitOne K (.ref kNothingToUndo) (.ref kBadPrice) = some (below "BadPrice" "NothingToUndo"))
    (xv_OutOfRange_BadPrice : PySem.W.kitOne K (.ref kOutOfRange) (.ref kBadPrice) = some (below "BadPrice" "OutOfRange"))
    (xv_NoTurn_BadPrice : PySem.W.kitOne K (.ref kNoTurn) (.ref kBadPrice) = some (below "BadPrice" "NoTurn"))
    (xv_BadKind_BadPrice : PySem.W.kitOne K (.ref kBadKind) (.ref kBadPrice) = some (below "BadPrice" "BadKind"))
    (xv_BadWorth_BadPrice : PySem.W.kitOne K (.ref kBadWorth) (.ref kBadPrice) = some (below "BadPrice" "BadWorth"))
    (xv_BadRule_BadPrice : PySem.W.kitOne K (.ref kBadRule) (.ref kBadPrice) = some (below "BadPrice" "BadRule"))
    (xv_WrongSize_BadPrice : PySem.W.kitOne K (.ref kWrongSize) (.ref kBadPrice) = some (below "BadPrice" "WrongSize"))
    (xv_OverpassesError_WrongOrder : PySem.W.kitOne K (.ref kOverpassesError) (.ref kWrongOrder) = some (below "WrongOrder" "OverpassesError"))
    (xv_BadLine_WrongOrder : PySem.W.kitOne K (.ref kBadLine) (.ref kWrongOrder) = some (below "WrongOrder" "BadLine"))
    (xv_BadPlace_WrongOrder : PySem.W.kitOne K (.ref kBadPlace) (.ref kWrongOrder) = some (below "WrongOrder" "BadPlace"))
    (xv_BadPrice_WrongOrder : PySem.W.kitOne K (.ref kBadPrice) (.ref kWrongOrder) = some (below "WrongOrder" "BadPrice"))
    (xv_WrongOrder_WrongOrder : PySem.W.kitOne K (.ref kWrongOrder) (.ref kWrongOrder) = some (below "WrongOrder" "WrongOrder"))
    (xv_NoLink_WrongOrder : PySem.W.kitOne K (.ref kNoLink) (.ref kWrongOrder) = some (below "WrongOrder" "NoLink"))
    (xv_NoPlace_WrongOrder : PySem.W.kitOne K (.ref kNoPlace) (.ref kWrongOrder) = some (below "WrongOrder" "NoPlace"))
    (xv_NotAnOrder_WrongOrder : PySem.W.kitOne K (.ref kNotAnOrder) (.ref kWrongOrder) = some (below "WrongOrder" "NotAnOrder"))
    (xv_NoPair_WrongOrder : PySem.W.kitOne K (.ref kNoPair) (.ref kWrongOrder) = some (below "WrongOrder" "NoPair"))
    (xv_NothingToUndo_WrongOrder : PySem.W.kitOne K (.ref kNothingToUndo) (.ref kWrongOrder) = some (below "WrongOrder" "NothingToUndo"))
    (xv_OutOfRange_WrongOrder : PySem.W.kitOne K (.ref kOutOfRange) (.ref kWrongOrder) = some (below "WrongOrder" "OutOfRange"))
    (xv_NoTurn_WrongOrder : PySem.W.kitOne K (.ref kNoTurn) (.ref kWrongOrder) = some (below "WrongOrder" "NoTurn"))
    (xv_BadKind_WrongOrder : PySem.W.kitOne K (.ref kBadKind) (.ref kWrongOrder) = some (below "WrongOrder" "BadKind"))
    (xv_BadWorth_WrongOrder : PySem.W.kitOne K (.ref kBadWorth) (.ref kWrongOrder) = some (below "WrongOrder" "BadWorth"))
    (xv_BadRule_WrongOrder : PySem.W.kitOne K (.ref kBadRule) (.ref kWrongOrder) = some (below "WrongOrder" "BadRule"))
    (xv_WrongSize_WrongOrder : PySem.W.kitOne K (.ref kWrongSize) (.ref kWrongOrder) = some (below "WrongOrder" "WrongSize"))
    (xv_OverpassesError_NoLink : PySem.W.kitOne K (.ref kOverpassesError) (.ref kNoLink) = some (below "NoLink" "OverpassesError"))
    (xv_BadLine_NoLink : PySem.W.kitOne K (.ref kBadLine) (.ref kNoLink) = some (below "NoLink" "BadLine"))
    (xv_BadPlace_NoLink : PySem.W.kitOne K (.ref kBadPlace) (.ref kNoLink) = some (below "NoLink" "BadPlace"))
    (xv_BadPrice_NoLink : PySem.W.kitOne K (.ref kBadPrice) (.ref kNoLink) = some (below "NoLink" "BadPrice"))
    (xv_WrongOrder_NoLink : PySem.W.kitOne K (.ref kWrongOrder) (.ref kNoLink) = some (below "NoLink" "WrongOrder"))
    (xv_NoLink_NoLink : PySem.W.kitOne K (.ref kNoLink) (.ref kNoLink) = some (below "NoLink" "NoLink"))
    (xv_NoPlace_NoLink : PySem.W.kitOne K (.ref kNoPlace) (.ref kNoLink) = some (below "NoLink" "NoPlace"))
    (xv_NotAnOrder_NoLink : PySem.W.kitOne K (.ref kNotAnOrder) (.ref kNoLink) = some (below "NoLink" "NotAnOrder"))
    (xv_NoPair_NoLink : PySem.W.kitOne K (.ref kNoPair) (.ref kNoLink) = some (below "NoLink" "NoPair"))
    (xv_NothingToUndo_NoLink : PySem.W.kitOne K (.ref kNothingToUndo) (.ref kNoLink) = some (below "NoLink" "NothingToUndo"))
    (xv_OutOfRange_NoLink : PySem.W.kitOne K (.ref kOutOfRange) (.ref kNoLink) = some (below "NoLink" "OutOfRange"))
    (xv_NoTurn_NoLink : PySem.W.kitOne K (.ref kNoTurn) (.ref kNoLink) = some (below "NoLink" "NoTurn"))
    (xv_BadKind_NoLink : PySem.W.kitOne K (.ref kBadKind) (.ref kNoLink) = some (below "NoLink" "BadKind"))
    (xv_BadWorth_NoLink : PySem.W.kitOne K (.ref kBadWorth) (.ref kNoLink) = some (below "NoLink" "BadWorth"))
    (xv_BadRule_NoLink : PySem.W.kitOne K (.ref kBadRule) (.ref kNoLink) = some (below "NoLink" "BadRule"))
    (xv_WrongSize_NoLink : PySem.W.kitOne K (.ref kWrongSize) (.ref kNoLink) = some (below "NoLink" "WrongSize"))
    (xv_OverpassesError_NoPlace : PySem.W.kitOne K (.ref kOverpassesError) (.ref kNoPlace) = some (below "NoPlace" "OverpassesError"))
    (xv_BadLine_NoPlace : PySem.W.kitOne K (.ref kBadLine) (.ref kNoPlace) = some (below "NoPlace" "BadLine"))
    (xv_BadPlace_NoPlace : PySem.W.kitOne K (.ref kBadPlace) (.ref kNoPlace) = some (below "NoPlace" "BadPlace"))
    (xv_BadPrice_NoPlace : PySem.W.kitOne K (.ref kBadPrice) (.ref kNoPlace) = some (below "NoPlace" "BadPrice"))
    (xv_WrongOrder_NoPlace : PySem.W.kitOne K (.ref kWrongOrder) (.ref kNoPlace) = some (below "NoPlace" "WrongOrder"))
    (xv_NoLink_NoPlace : PySem.W.kitOne K (.ref kNoLink) (.ref kNoPlace) = some (below "NoPlace" "NoLink"))
    (xv_NoPlace_NoPlace : PySem.W.kitOne K (.ref kNoPlace) (.ref kNoPlace) = some (below "NoPlace" "NoPlace"))
    (xv_NotAnOrder_NoPlace : PySem.W.kitOne K (.ref kNotAnOrder) (.ref kNoPlace) = some (below "NoPlace" "NotAnOrder"))
    (xv_NoPair_NoPlace : PySem.W.kitOne K (.ref kNoPair) (.ref kNoPlace) = some (below "NoPlace" "NoPair"))
    (xv_NothingToUndo_NoPlace : PySem.W.kitOne K (.ref kNothingToUndo) (.ref kNoPlace) = some (below "NoPlace" "NothingToUndo"))
    (xv_OutOfRange_NoPlace : PySem.W.kitOne K (.ref kOutOfRange) (.ref kNoPlace) = some (below "NoPlace" "OutOfRange"))
    (xv_NoTurn_NoPlace : PySem.W.kitOne K (.ref kNoTurn) (.ref kNoPlace) = some (below "NoPlace" "NoTurn"))
    (xv_BadKind_NoPlace : PySem.W.kitOne K (.ref kBadKind) (.ref kNoPlace) = some (below "NoPlace" "BadKind"))
    (xv_BadWorth_NoPlace : PySem.W.kitOne K (.ref kBadWorth) (.ref kNoPlace) = some (below "NoPlace" "BadWorth"))
    (xv_BadRule_NoPlace : PySem.W.kitOne K (.ref kBadRule) (.ref kNoPlace) = some (below "NoPlace" "BadRule"))
    (xv_WrongSize_NoPlace : PySem.W.kitOne K (.ref kWrongSize) (.ref kNoPlace) = some (below "NoPlace" "WrongSize"))
    (xv_OverpassesError_NotAnOrder : PySem.W.kitOne K (.ref kOverpassesError) (.ref kNotAnOrder) = some (below "NotAnOrder" "OverpassesError"))
    (xv_BadLine_NotAnOrder : PySem.W.kitOne K (.ref kBadLine) (.ref kNotAnOrder) = some (below "NotAnOrder" "BadLine"))
    (xv_BadPlace_NotAnOrder : PySem.W.kitOne K (.ref kBadPlace) (.ref kNotAnOrder) = some (below "NotAnOrder" "BadPlace"))
    (xv_BadPrice_NotAnOrder : PySem.W.kitOne K (.ref kBadPrice) (.ref kNotAnOrder) = some (below "NotAnOrder" "BadPrice"))
    (xv_WrongOrder_NotAnOrder : PySem.W.kitOne K (.ref kWrongOrder) (.ref kNotAnOrder) = some (below "NotAnOrder" "WrongOrder"))
    (xv_NoLink_NotAnOrder : PySem.W.kitOne K (.ref kNoLink) (.ref kNotAnOrder) = some (below "NotAnOrder" "NoLink"))
    (xv_NoPlace_NotAnOrder : PySem.W.kitOne K (.ref kNoPlace) (.ref kNotAnOrder) = some (below "NotAnOrder" "NoPlace"))
    (xv_NotAnOrder_NotAnOrder : PySem.W.kitOne K (.ref kNotAnOrder) (.ref kNotAnOrder) = some (below "NotAnOrder" "NotAnOrder"))
    (xv_NoPair_NotAnOrder : PySem.W.kitOne K (.ref kNoPair) (.ref kNotAnOrder) = some (below "NotAnOrder" "NoPair"))
    (xv_NothingToUndo_NotAnOrder : PySem.W.kitOne K (.ref kNothingToUndo) (.ref kNotAnOrder) = some (below "NotAnOrder" "NothingToUndo"))
    (xv_OutOfRange_NotAnOrder : PySem.W.kitOne K (.ref kOutOfRange) (.ref kNotAnOrder) = some (below "NotAnOrder" "OutOfRange"))
    (xv_NoTurn_NotAnOrder : PySem.W.kitOne K (.ref kNoTurn) (.ref kNotAnOrder) = some (below "NotAnOrder" "NoTurn"))
    (xv_BadKind_NotAnOrder : PySem.W.kitOne K (.ref kBadKind) (.ref kNotAnOrder) = some (below "NotAnOrder" "BadKind"))
    (xv_BadWorth_NotAnOrder : PySem.W.kitOne K (.ref kBadWorth) (.ref kNotAnOrder) = some (below "NotAnOrder" "BadWorth"))
    (xv_BadRule_NotAnOrder : PySem.W.kitOne K (.ref kBadRule) (.ref kNotAnOrder) = some (below "NotAnOrder" "BadRule"))
    (xv_WrongSize_NotAnOrder : PySem.W.kitOne K (.ref kWrongSize) (.ref kNotAnOrder) = some (below "NotAnOrder" "WrongSize"))
    (xv_OverpassesError_NoPair : PySem.W.kitOne K (.ref kOverpassesError) (.ref kNoPair) = some (below "NoPair" "OverpassesError"))
    (xv_BadLine_NoPair : PySem.W.kitOne K (.ref kBadLine) (.ref kNoPair) = some (below "NoPair" "BadLine"))
    (xv_BadPlace_NoPair : PySem.W.kitOne K (.ref kBadPlace) (.ref kNoPair) = some (below "NoPair" "BadPlace"))
    (xv_BadPrice_NoPair : PySem.W.kitOne K (.ref kBadPrice) (.ref kNoPair) = some (below "NoPair" "BadPrice"))
    (xv_WrongOrder_NoPair : PySem.W.kitOne K (.ref kWrongOrder) (.ref kNoPair) = some (below "NoPair" "WrongOrder"))
    (xv_NoLink_NoPair : PySem.W.kitOne K (.ref kNoLink) (.ref kNoPair) = some (below "NoPair" "NoLink"))
    (xv_NoPlace_NoPair : PySem.W.kitOne K (.ref kNoPlace) (.ref kNoPair) = some (below "NoPair" "NoPlace"))
    (xv_NotAnOrder_NoPair : PySem.W.kitOne K (.ref kNotAnOrder) (.ref kNoPair) = some (below "NoPair" "NotAnOrder"))
    (xv_NoPair_NoPair : PySem.W.kitOne K (.ref kNoPair) (.ref kNoPair) = some (below "NoPair" "NoPair"))
    (xv_NothingToUndo_NoPair : PySem.W.kitOne K (.ref kNothingToUndo) (.ref kNoPair) = some (below "NoPair" "NothingToUndo"))
    (xv_OutOfRange_NoPair : PySem.W.kitOne K (.ref kOutOfRange) (.ref kNoPair) = some (below "NoPair" "OutOfRange"))
    (xv_NoTurn_NoPair : PySem.W.kitOne K (.ref kNoTurn) (.ref kNoPair) = some (below "NoPair" "NoTurn"))
    (xv_BadKind_NoPair : PySem.W.kitOne K (.ref kBadKind) (.ref kNoPair) = some (below "NoPair" "BadKind"))
    (xv_BadWorth_NoPair : PySem.W.kitOne K (.ref kBadWorth) (.ref kNoPair) = some (below "NoPair" "BadWorth"))
    (xv_BadRule_NoPair : PySem.W.kitOne K (.ref kBadRule) (.ref kNoPair) = some (below "NoPair" "BadRule"))
    (xv_WrongSize_NoPair : PySem.W.kitOne K (.ref kWrongSize) (.ref kNoPair) = some (below "NoPair" "WrongSize"))
    (xv_OverpassesError_NothingToUndo : PySem.W.kitOne K (.ref kOverpassesError) (.ref kNothingToUndo) = some (below "NothingToUndo" "OverpassesError"))
    (xv_BadLine_NothingToUndo : PySem.W.kitOne K (.ref kBadLine) (.ref kNothingToUndo) = some (below "NothingToUndo" "BadLine"))
    (xv_BadPlace_NothingToUndo : PySem.W.kitOne K (.ref kBadPlace) (.ref kNothingToUndo) = some (below "NothingToUndo" "BadPlace"))
    (xv_BadPrice_NothingToUndo : PySem.W.kitOne K (.ref kBadPrice) (.ref kNothingToUndo) = some (below "NothingToUndo" "BadPrice"))
    (xv_WrongOrder_NothingToUndo : PySem.W.kitOne K (.ref kWrongOrder) (.ref kNothingToUndo) = some (below "NothingToUndo" "WrongOrder"))
    (xv_NoLink_NothingToUndo : PySem.W.kitOne K (.ref kNoLink) (.ref kNothingToUndo) = some (below "NothingToUndo" "NoLink"))
    (xv_NoPlace_NothingToUndo : PySem.W.kitOne K (.ref kNoPlace) (.ref kNothingToUndo) = some (below "NothingToUndo" "NoPlace"))
    (xv_NotAnOrder_NothingToUndo : PySem.W.kitOne K (.ref kNotAnOrder) (.ref kNothingToUndo) = some (below "NothingToUndo" "NotAnOrder"))
    (xv_NoPair_NothingToUndo : PySem.W.kitOne K (.ref kNoPair) (.ref kNothingToUndo) = some (below "NothingToUndo" "NoPair"))
    (xv_NothingToUndo_NothingToUndo : PySem.W.kitOne K (.ref kNothingToUndo) (.ref kNothingToUndo) = some (below "NothingToUndo" "NothingToUndo"))
    (xv_OutOfRange_NothingToUndo : PySem.W.kitOne K (.ref kOutOfRange) (.ref kNothingToUndo) = some (below "NothingToUndo" "OutOfRange"))
    (xv_NoTurn_NothingToUndo : PySem.W.kitOne K (.ref kNoTurn) (.ref kNothingToUndo) = some (below "NothingToUndo" "NoTurn"))
    (xv_BadKind_NothingToUndo : PySem.W.kitOne K (.ref kBadKind) (.ref kNothingToUndo) = some (below "NothingToUndo" "BadKind"))
    (xv_BadWorth_NothingToUndo : PySem.W.kitOne K (.ref kBadWorth) (.ref kNothingToUndo) = some (below "NothingToUndo" "BadWorth"))
    (xv_BadRule_NothingToUndo : PySem.W.kitOne K (.ref kBadRule) (.ref kNothingToUndo) = some (below "NothingToUndo" "BadRule"))
    (xv_WrongSize_NothingToUndo : PySem.W.kitOne K (.ref kWrongSize) (.ref kNothingToUndo) = some (below "NothingToUndo" "WrongSize"))
    (xv_OverpassesError_OutOfRange : PySem.W.kitOne K (.ref kOverpassesError) (.ref kOutOfRange) = some (below "OutOfRange" "OverpassesError"))
    (xv_BadLine_OutOfRange : PySem.W.kitOne K (.ref kBadLine) (.ref kOutOfRange) = some (below "OutOfRange" "BadLine"))
    (xv_BadPlace_OutOfRange : PySem.W.kitOne K (.ref kBadPlace) (.ref kOutOfRange) = some (below "OutOfRange" "BadPlace"))
    (xv_BadPrice_OutOfRange : PySem.W.kitOne K (.ref kBadPrice) (.ref kOutOfRange) = some (below "OutOfRange" "BadPrice"))
    (xv_WrongOrder_OutOfRange : PySem.W.kitOne K (.ref kWrongOrder) (.ref kOutOfRange) = some (below "OutOfRange" "WrongOrder"))
    (xv_NoLink_OutOfRange : PySem.W.kitOne K (.ref kNoLink) (.ref kOutOfRange) = some (below "OutOfRange" "NoLink"))
    (xv_NoPlace_OutOfRange : PySem.W.kitOne K (.ref kNoPlace) (.ref kOutOfRange) = some (below "OutOfRange" "NoPlace"))
    (xv_NotAnOrder_OutOfRange : PySem.W.kitOne K (.ref kNotAnOrder) (.ref kOutOfRange) = some (below "OutOfRange" "NotAnOrder"))
    (xv_NoPair_OutOfRange : PySem.W.kitOne K (.ref kNoPair) (.ref kOutOfRange) = some (below "OutOfRange" "NoPair"))
    (xv_NothingToUndo_OutOfRange : PySem.W.kitOne K (.ref kNothingToUndo) (.ref kOutOfRange) = some (below "OutOfRange" "NothingToUndo"))
    (xv_OutOfRange_OutOfRange : PySem.W.kitOne K (.ref kOutOfRange) (.ref kOutOfRange) = some (below "OutOfRange" "OutOfRange"))
    (xv_NoTurn_OutOfRange : PySem.W.kitOne K (.ref kNoTurn) (.ref kOutOfRange) = some (below "OutOfRange" "NoTurn"))
    (xv_BadKind_OutOfRange : PySem.W.kitOne K (.ref kBadKind) (.ref kOutOfRange) = some (below "OutOfRange" "BadKind"))
    (xv_BadWorth_OutOfRange : PySem.W.kitOne K (.ref kBadWorth) (.ref kOutOfRange) = some (below "OutOfRange" "BadWorth"))
    (xv_BadRule_OutOfRange : PySem.W.kitOne K (.ref kBadRule) (.ref kOutOfRange) = some (below "OutOfRange" "BadRule"))
    (xv_WrongSize_OutOfRange : PySem.W.kitOne K (.ref kWrongSize) (.ref kOutOfRange) = some (below "OutOfRange" "WrongSize"))
    (xv_OverpassesError_NoTurn : PySem.W.kitOne K (.ref kOverpassesError) (.ref kNoTurn) = some (below "NoTurn" "OverpassesError"))
    (xv_BadLine_NoTurn : PySem.W.kitOne K (.ref kBadLine) (.ref kNoTurn) = some (below "NoTurn" "BadLine"))
    (xv_BadPlace_NoTurn : PySem.W.kitOne K (.ref kBadPlace) (.ref kNoTurn) = some (below "NoTurn" "BadPlace"))
    (xv_BadPrice_NoTurn : PySem.W.kitOne K (.ref kBadPrice) (.ref kNoTurn) = some (below "NoTurn" "BadPrice"))
    (xv_WrongOrder_NoTurn : PySem.W.kitOne K (.ref kWrongOrder) (.ref kNoTurn) = some (below "NoTurn" "WrongOrder"))
    (xv_NoLink_NoTurn : PySem.W.kitOne K (.ref kNoLink) (.ref kNoTurn) = some (below "NoTurn" "NoLink"))
    (xv_NoPlace_NoTurn : PySem.W.kitOne K (.ref kNoPlace) (.ref kNoTurn) = some (below "NoTurn" "NoPlace"))
    (xv_NotAnOrder_NoTurn : PySem.W.kitOne K (.ref kNotAnOrder) (.ref kNoTurn) = some (below "NoTurn" "NotAnOrder"))
    (xv_NoPair_NoTurn : PySem.W.kitOne K (.ref kNoPair) (.ref kNoTurn) = some (below "NoTurn" "NoPair"))
    (xv_NothingToUndo_NoTurn : PySem.W.kitOne K (.ref kNothingToUndo) (.ref kNoTurn) = some (below "NoTurn" "NothingToUndo"))
    (xv_OutOfRange_NoTurn : PySem.W.kitOne K (.ref kOutOfRange) (.ref kNoTurn) = some (below "NoTurn" "OutOfRange"))
    (xv_NoTurn_NoTurn : PySem.W.kitOne K (.ref kNoTurn) (.ref kNoTurn) = some (below "NoTurn" "NoTurn"))
    (xv_BadKind_NoTurn : PySem.W.kitOne K (.ref kBadKind) (.ref kNoTurn) = some (below "NoTurn" "BadKind"))
    (xv_BadWorth_NoTurn : PySem.W.kitOne K (.ref kBadWorth) (.ref kNoTurn) = some (below "NoTurn" "BadWorth"))
    (xv_BadRule_NoTurn : PySem.W.kitOne K (.ref kBadRule) (.ref kNoTurn) = some (below "NoTurn" "BadRule"))
    (xv_WrongSize_NoTurn : PySem.W.kitOne K (.ref kWrongSize) (.ref kNoTurn) = some (below "NoTurn" "WrongSize"))
    (xv_OverpassesError_BadKind : PySem.W.kitOne K (.ref kOverpassesError) (.ref kBadKind) = some (below "BadKind" "OverpassesError"))
    (xv_BadLine_BadKind : PySem.W.kitOne K (.ref kBadLine) (.ref kBadKind) = some (below "BadKind" "BadLine"))
    (xv_BadPlace_BadKind : PySem.W.kitOne K (.ref kBadPlace) (.ref kBadKind) = some (below "BadKind" "BadPlace"))
    (xv_BadPrice_BadKind : PySem.W.kitOne K (.ref kBadPrice) (.ref kBadKind) = some (below "BadKind" "BadPrice"))
    (xv_WrongOrder_BadKind : PySem.W.kitOne K (.ref kWrongOrder) (.ref kBadKind) = some (below "BadKind" "WrongOrder"))
    (xv_NoLink_BadKind : PySem.W.kitOne K (.ref kNoLink) (.ref kBadKind) = some (below "BadKind" "NoLink"))
    (xv_NoPlace_BadKind : PySem.W.kitOne K (.ref kNoPlace) (.ref kBadKind) = some (below "BadKind" "NoPlace"))
    (xv_NotAnOrder_BadKind : PySem.W.kitOne K (.ref kNotAnOrder) (.ref kBadKind) = some (below "BadKind" "NotAnOrder"))
    (xv_NoPair_BadKind : PySem.W.kitOne K (.ref kNoPair) (.ref kBadKind) = some (below "BadKind" "NoPair"))
    (xv_NothingToUndo_BadKind : PySem.W.kitOne K (.ref kNothingToUndo) (.ref kBadKind) = some (below "BadKind" "NothingToUndo"))
    (xv_OutOfRange_BadKind : PySem.W.kitOne K (.ref kOutOfRange) (.ref kBadKind) = some (below "BadKind" "OutOfRange"))
    (xv_NoTurn_BadKind : PySem.W.kitOne K (.ref kNoTurn) (.ref kBadKind) = some (below "BadKind" "NoTurn"))
    (xv_BadKind_BadKind : PySem.W.kitOne K (.ref kBadKind) (.ref kBadKind) = some (below "BadKind" "BadKind"))
    (xv_BadWorth_BadKind : PySem.W.kitOne K (.ref kBadWorth) (.ref kBadKind) = some (below "BadKind" "BadWorth"))
    (xv_BadRule_BadKind : PySem.W.kitOne K (.ref kBadRule) (.ref kBadKind) = some (below "BadKind" "BadRule"))
    (xv_WrongSize_BadKind : PySem.W.kitOne K (.ref kWrongSize) (.ref kBadKind) = some (below "BadKind" "WrongSize"))
    (xv_OverpassesError_BadWorth : PySem.W.kitOne K (.ref kOverpassesError) (.ref kBadWorth) = some (below "BadWorth" "OverpassesError"))
    (xv_BadLine_BadWorth : PySem.W.kitOne K (.ref kBadLine) (.ref kBadWorth) = some (below "BadWorth" "BadLine"))
    (xv_BadPlace_BadWorth : PySem.W.kitOne K (.ref kBadPlace) (.ref kBadWorth) = some (below "BadWorth" "BadPlace"))
    (xv_BadPrice_BadWorth : PySem.W.kitOne K (.ref kBadPrice) (.ref kBadWorth) = some (below "BadWorth" "BadPrice"))
    (xv_WrongOrder_BadWorth : PySem.W.kitOne K (.ref kWrongOrder) (.ref kBadWorth) = some (below "BadWorth" "WrongOrder"))
    (xv_NoLink_BadWorth : PySem.W.kitOne K (.ref kNoLink) (.ref kBadWorth) = some (below "BadWorth" "NoLink"))
    (xv_NoPlace_BadWorth : PySem.W.kitOne K (.ref kNoPlace) (.ref kBadWorth) = some (below "BadWorth" "NoPlace"))
    (xv_NotAnOrder_BadWorth : PySem.W.kitOne K (.ref kNotAnOrder) (.ref kBadWorth) = some (below "BadWorth" "NotAnOrder"))
    (xv_NoPair_BadWorth : PySem.W.kitOne K (.ref kNoPair) (.ref kBadWorth) = some (below "BadWorth" "NoPair"))
    (xv_NothingToUndo_BadWorth : PySem.W.kitOne K (.ref kNothingToUndo) (.ref kBadWorth) = some (below "BadWorth" "NothingToUndo"))
    (xv_OutOfRange_BadWorth : PySem.W.kitOne K (.ref kOutOfRange) (.ref kBadWorth) = some (below "BadWorth" "OutOfRange"))
    (xv_NoTurn_BadWorth : PySem.W.kitOne K (.ref kNoTurn) (.ref kBadWorth) = some (below "BadWorth" "NoTurn"))
    (xv_BadKind_BadWorth : PySem.W.kitOne K (.ref kBadKind) (.ref kBadWorth) = some (below "BadWorth" "BadKind"))
    (xv_BadWorth_BadWorth : PySem.W.kitOne K (.ref kBadWorth) (.ref kBadWorth) = some (below "BadWorth" "BadWorth"))
    (xv_BadRule_BadWorth : PySem.W.kitOne K (.ref kBadRule) (.ref kBadWorth) = some (below "BadWorth" "BadRule"))
    (xv_WrongSize_BadWorth : PySem.W.kitOne K (.ref kWrongSize) (.ref kBadWorth) = some (below "BadWorth" "WrongSize"))
    (xv_OverpassesError_BadRule : PySem.W.kitOne K (.ref kOverpassesError) (.ref kBadRule) = some (below "BadRule" "OverpassesError"))
    (xv_BadLine_BadRule : PySem.W.kitOne K (.ref kBadLine) (.ref kBadRule) = some (below "BadRule" "BadLine"))
    (xv_BadPlace_BadRule : PySem.W.kitOne K (.ref kBadPlace) (.ref kBadRule) = some (below "BadRule" "BadPlace"))
    (xv_BadPrice_BadRule : PySem.W.kitOne K (.ref kBadPrice) (.ref kBadRule) = some (below "BadRule" "BadPrice"))
    (xv_WrongOrder_BadRule : PySem.W.kitOne K (.ref kWrongOrder) (.ref kBadRule) = some (below "BadRule" "WrongOrder"))
    (xv_NoLink_BadRule : PySem.W.kitOne K (.ref kNoLink) (.ref kBadRule) = some (below "BadRule" "NoLink"))
    (xv_NoPlace_BadRule : PySem.W.kitOne K (.ref kNoPlace) (.ref kBadRule) = some (below "BadRule" "NoPlace"))
    (xv_NotAnOrder_BadRule : PySem.W.kitOne K (.ref kNotAnOrder) (.ref kBadRule) = some (below "BadRule" "NotAnOrder"))
    (xv_NoPair_BadRule : PySem.W.kitOne K (.ref kNoPair) (.ref kBadRule) = some (below "BadRule" "NoPair"))
    (xv_NothingToUndo_BadRule : PySem.W.kitOne K (.ref kNothingToUndo) (.ref kBadRule) = some (below "BadRule" "NothingToUndo"))
    (xv_OutOfRange_BadRule : PySem.W.kitOne K (.ref kOutOfRange) (.ref kBadRule) = some (below "BadRule" "OutOfRange"))
    (xv_NoTurn_BadRule : PySem.W.kitOne K (.ref kNoTurn) (.ref kBadRule) = some (below "BadRule" "NoTurn"))
    (xv_BadKind_BadRule : PySem.W.kitOne K (.ref kBadKind) (.ref kBadRule) = some (below "BadRule" "BadKind"))
    (xv_BadWorth_BadRule : PySem.W.kitOne K (.ref kBadWorth) (.ref kBadRule) = some (below "BadRule" "BadWorth"))
    (xv_BadRule_BadRule : PySem.W.kitOne K (.ref kBadRule) (.ref kBadRule) = some (below "BadRule" "BadRule"))
    (xv_WrongSize_BadRule : PySem.W.kitOne K (.ref kWrongSize) (.ref kBadRule) = some (below "BadRule" "WrongSize"))
    (xv_OverpassesError_WrongSize : PySem.W.kitOne K (.ref kOverpassesError) (.ref kWrongSize) = some (below "WrongSize" "OverpassesError"))
    (xv_BadLine_WrongSize : PySem.W.kitOne K (.ref kBadLine) (.ref kWrongSize) = some (below "WrongSize" "BadLine"))
    (xv_BadPlace_WrongSize : PySem.W.kitOne K (.ref kBadPlace) (.ref kWrongSize) = some (below "WrongSize" "BadPlace"))
    (xv_BadPrice_WrongSize : PySem.W.kitOne K (.ref kBadPrice) (.ref kWrongSize) = some (below "WrongSize" "BadPrice"))
    (xv_WrongOrder_WrongSize : PySem.W.kitOne K (.ref kWrongOrder) (.ref kWrongSize) = some (below "WrongSize" "WrongOrder"))
    (xv_NoLink_WrongSize : PySem.W.kitOne K (.ref kNoLink) (.ref kWrongSize) = some (below "WrongSize" "NoLink"))
    (xv_NoPlace_WrongSize : PySem.W.kitOne K (.ref kNoPlace) (.ref kWrongSize) = some (below "WrongSize" "NoPlace"))
    (xv_NotAnOrder_WrongSize : PySem.W.kitOne K (.ref kNotAnOrder) (.ref kWrongSize) = some (below "WrongSize" "NotAnOrder"))
    (xv_NoPair_WrongSize : PySem.W.kitOne K (.ref kNoPair) (.ref kWrongSize) = some (below "WrongSize" "NoPair"))
    (xv_NothingToUndo_WrongSize : PySem.W.kitOne K (.ref kNothingToUndo) (.ref kWrongSize) = some (below "WrongSize" "NothingToUndo"))
    (xv_OutOfRange_WrongSize : PySem.W.kitOne K (.ref kOutOfRange) (.ref kWrongSize) = some (below "WrongSize" "OutOfRange"))
    (xv_NoTurn_WrongSize : PySem.W.kitOne K (.ref kNoTurn) (.ref kWrongSize) = some (below "WrongSize" "NoTurn"))
    (xv_BadKind_WrongSize : PySem.W.kitOne K (.ref kBadKind) (.ref kWrongSize) = some (below "WrongSize" "BadKind"))
    (xv_BadWorth_WrongSize : PySem.W.kitOne K (.ref kBadWorth) (.ref kWrongSize) = some (below "WrongSize" "BadWorth"))
    (xv_BadRule_WrongSize : PySem.W.kitOne K (.ref kBadRule) (.ref kWrongSize) = some (below "WrongSize" "BadRule"))
    (xv_WrongSize_WrongSize : PySem.W.kitOne K (.ref kWrongSize) (.ref kWrongSize) = some (below "WrongSize" "WrongSize"))
    (xv_OverpassesError_OverpassesError : PySem.W.kitOne K (.ref kOverpassesError) (.ref kOverpassesError) = some (below "OverpassesError" "OverpassesError"))
    (xv_BadLine_OverpassesError : PySem.W.kitOne K (.ref kBadLine) (.ref kOverpassesError) = some (below "OverpassesError" "BadLine"))
    (xv_BadPlace_OverpassesError : PySem.W.kitOne K (.ref kBadPlace) (.ref kOverpassesError) = some (below "OverpassesError" "BadPlace"))
    (xv_BadPrice_OverpassesError : PySem.W.kitOne K (.ref kBadPrice) (.ref kOverpassesError) = some (below "OverpassesError" "BadPrice"))
    (xv_WrongOrder_OverpassesError : PySem.W.kitOne K (.ref kWrongOrder) (.ref kOverpassesError) = some (below "OverpassesError" "WrongOrder"))
    (xv_NoLink_OverpassesError : PySem.W.kitOne K (.ref kNoLink) (.ref kOverpassesError) = some (below "OverpassesError" "NoLink"))
    (xv_NoPlace_OverpassesError : PySem.W.kitOne K (.ref kNoPlace) (.ref kOverpassesError) = some (below "OverpassesError" "NoPlace"))
    (xv_NotAnOrder_OverpassesError : PySem.W.kitOne K (.ref kNotAnOrder) (.ref kOverpassesError) = some (below "OverpassesError" "NotAnOrder"))
    (xv_NoPair_OverpassesError : PySem.W.kitOne K (.ref kNoPair) (.ref kOverpassesError) = some (below "OverpassesError" "NoPair"))
    (xv_NothingToUndo_OverpassesError : PySem.W.kitOne K (.ref kNothingToUndo) (.ref kOverpassesError) = some (below "OverpassesError" "NothingToUndo"))
    (xv_OutOfRange_OverpassesError : PySem.W.kitOne K (.ref kOutOfRange) (.ref kOverpassesError) = some (below "OverpassesError" "OutOfRange"))
    (xv_NoTurn_OverpassesError : PySem.W.kitOne K (.ref kNoTurn) (.ref kOverpassesError) = some (below "OverpassesError" "NoTurn"))
    (xv_BadKind_OverpassesError : PySem.W.kitOne K (.ref kBadKind) (.ref kOverpassesError) = some (below "OverpassesError" "BadKind"))
    (xv_BadWorth_OverpassesError : PySem.W.kitOne K (.ref kBadWorth) (.ref kOverpassesError) = some (below "OverpassesError" "BadWorth"))
    (xv_BadRule_OverpassesError : PySem.W.kitOne K (.ref kBadRule) (.ref kOverpassesError) = some (below "OverpassesError" "BadRule"))
    (xv_WrongSize_OverpassesError : PySem.W.kitOne K (.ref kWrongSize) (.ref kOverpassesError) = some (below "OverpassesError" "WrongSize"))
    (xe_OverpassesError : PySem.W.kitOne K (.ref kOverpassesError) (.type "ValueError") = some true)
    (xe_BadLine : PySem.W.kitOne K (.ref kBadLine) (.type "ValueError") = some true)
    (xe_BadPlace : PySem.W.kitOne K (.ref kBadPlace) (.type "ValueError") = some true)
    (xe_BadPrice : PySem.W.kitOne K (.ref kBadPrice) (.type "ValueError") = some true)
    (xe_WrongOrder : PySem.W.kitOne K (.ref kWrongOrder) (.type "ValueError") = some true)
    (xe_NoLink : PySem.W.kitOne K (.ref kNoLink) (.type "ValueError") = some true)
    (xe_NoPlace : PySem.W.kitOne K (.ref kNoPlace) (.type "ValueError") = some true)
    (xe_NotAnOrder : PySem.W.kitOne K (.ref kNotAnOrder) (.type "ValueError") = some true)
    (xe_NoPair : PySem.W.kitOne K (.ref kNoPair) (.type "ValueError") = some true)
    (xe_NothingToUndo : PySem.W.kitOne K (.ref kNothingToUndo) (.type "ValueError") = some true)
    (xe_OutOfRange : PySem.W.kitOne K (.ref kOutOfRange) (.type "ValueError") = some true)
    (xe_NoTurn : PySem.W.kitOne K (.ref kNoTurn) (.type "ValueError") = some true)
    (xe_BadKind : PySem.W.kitOne K (.ref kBadKind) (.type "ValueError") = some true)
    (xe_BadWorth : PySem.W.kitOne K (.ref kBadWorth) (.type "ValueError") = some true)
    (xe_BadRule : PySem.W.kitOne K (.ref kBadRule) (.type "ValueError") = some true)
    (xe_WrongSize : PySem.W.kitOne K (.ref kWrongSize) (.type "ValueError") = some true)
    : ∃ fd : FuncData, (∀ (s : Shared) (v : Value), BindsTo s fd ⟨[v], []⟩ [("script", v)]) ∧ ∀ base : Heap, K.In base → base.Ns mainGlobals mg → FnG l.prog w K mg base (L2.CX l.prog w) 4 fa fd ["script"] (spL K) := by
  have e := hfa.symm.trans (PySem.W.mg_of X G a4)
  cases e
  have B : Blt mg := ⟨PySem.W.mg_none_of X G z_len, PySem.W.mg_none_of X G z_range, PySem.W.mg_none_of X G z_abs, PySem.W.mg_none_of X G z_int, PySem.W.mg_none_of X G z_min, PySem.W.mg_none_of X G z_max, PySem.W.mg_none_of X G z_list, PySem.W.mg_none_of X G z_isinstance, PySem.W.mg_none_of X G z_bool, PySem.W.mg_none_of X G z_tuple⟩
  have B2 : Blt2 mg := ⟨PySem.W.mg_none_of X G z_sorted, PySem.W.mg_none_of X G z_all, PySem.W.mg_none_of X G z_any, PySem.W.mg_none_of X G z_repr, PySem.W.mg_none_of X G z_dict⟩
  have F1 := fun_mk (st := s__law_first) l1 c1 k1
  have D1 : Df K mg "_law_first" s__law_first ["k", "n"] := ⟨_, _, F1, PySem.W.mg_of X G a1, F1.binds (ps := ["k", "n"]) fun _ _ _ _ _ _ us hl => match us, hl with | [_, _], _ => rfl⟩
  have F2 := fun_mk (st := s__law_second) l2 c2 k2
  have D2 : Df K mg "_law_second" s__law_second ["k", "n"] := ⟨_, _, F2, PySem.W.mg_of X G a2, F2.binds (ps := ["k", "n"]) fun _ _ _ _ _ _ us hl => match us, hl with | [_, _], _ => rfl⟩
  have F3 := fun_mk (st := s__law_kinds) l3 c3 k3
  have D3 : Df K mg "_law_kinds" s__law_kinds ["e"] := ⟨_, _, F3, PySem.W.mg_of X G a3, F3.binds (ps := ["e"]) fun _ _ _ _ _ _ us hl => match us, hl with | [_], _ => rfl⟩
  have F4 := fun_mk (st := s_law) l4 c4 k4
  have FI := fun_mk (st := s_init) li_ ci_ ki_
  have OX_OverpassesError : OexC K kOverpassesError := ⟨⟨_, _, _, _, _, _, _, _, _, _, _, _, _, _, _, cl_OverpassesError, rv_OverpassesError⟩, sa_OverpassesError, ec_OverpassesError, tc_OverpassesError, kc_OverpassesError⟩
  have OX_BadLine : OexC K kBadLine := ⟨⟨_, _, _, _, _, _, _, _, _, _, _, _, _, _, _, cl_BadLine, rv_BadLine⟩, sa_BadLine, ec_BadLine, tc_BadLine, kc_BadLine⟩
  have OX_BadPlace : OexC K kBadPlace := ⟨⟨_, _, _, _, _, _, _, _, _, _, _, _, _, _, _, cl_BadPlace, rv_BadPlace⟩, sa_BadPlace, ec_BadPlace, tc_BadPlace, kc_BadPlace⟩
  have OX_BadPrice : OexC K kBadPrice := ⟨⟨_, _, _, _, _, _, _, _, _, _, _, _, _, _, _, cl_BadPrice, rv_BadPrice⟩, sa_BadPrice, ec_BadPrice, tc_BadPrice, kc_BadPrice⟩
  have OX_WrongOrder : OexC K kWrongOrder := ⟨⟨_, _, _, _, _, _, _, _, _, _, _, _, _, _, _, cl_WrongOrder, rv_WrongOrder⟩, sa_WrongOrder, ec_WrongOrder, tc_WrongOrder, kc_WrongOrder⟩
  have OX_NoLink : OexC K kNoLink := ⟨⟨_, _, _, _, _, _, _, _, _, _, _, _, _, _, _, cl_NoLink, rv_NoLink⟩, sa_NoLink, ec_NoLink, tc_NoLink, kc_NoLink⟩
  have OX_NoPlace : OexC K kNoPlace := ⟨⟨_, _, _, _, _, _, _, _, _, _, _, _, _, _, _, cl_NoPlace, rv_NoPlace⟩, sa_NoPlace, ec_NoPlace, tc_NoPlace, kc_NoPlace⟩
  have OX_NotAnOrder : OexC K kNotAnOrder := ⟨⟨_, _, _, _, _, _, _, _, _, _, _, _, _, _, _, cl_NotAnOrder, rv_NotAnOrder⟩, sa_NotAnOrder, ec_NotAnOrder, tc_NotAnOrder, kc_NotAnOrder⟩
  have OX_NoPair : OexC K kNoPair := ⟨⟨_, _, _, _, _, _, _, _, _, _, _, _, _, _, _, cl_NoPair, rv_NoPair⟩, sa_NoPair, ec_NoPair, tc_NoPair, kc_NoPair⟩
  have OX_NothingToUndo : OexC K kNothingToUndo := ⟨⟨_, _, _, _, _, _, _, _, _, _, _, _, _, _, _, cl_NothingToUndo, rv_NothingToUndo⟩, sa_NothingToUndo, ec_NothingToUndo, tc_NothingToUndo, kc_NothingToUndo⟩
  have OX_OutOfRange : OexC K kOutOfRange := ⟨⟨_, _, _, _, _, _, _, _, _, _, _, _, _, _, _, cl_OutOfRange, rv_OutOfRange⟩, sa_OutOfRange, ec_OutOfRange, tc_OutOfRange, kc_OutOfRange⟩
  have OX_NoTurn : OexC K kNoTurn := ⟨⟨_, _, _, _, _, _, _, _, _, _, _, _, _, _, _, cl_NoTurn, rv_NoTurn⟩, sa_NoTurn, ec_NoTurn, tc_NoTurn, kc_NoTurn⟩
  have OX_BadKind : OexC K kBadKind := ⟨⟨_, _, _, _, _, _, _, _, _, _, _, _, _, _, _, cl_BadKind, rv_BadKind⟩, sa_BadKind, ec_BadKind, tc_BadKind, kc_BadKind⟩
  have OX_BadWorth : OexC K kBadWorth := ⟨⟨_, _, _, _, _, _, _, _, _, _, _, _, _, _, _, cl_BadWorth, rv_BadWorth⟩, sa_BadWorth, ec_BadWorth, tc_BadWorth, kc_BadWorth⟩
  have OX_BadRule : OexC K kBadRule := ⟨⟨_, _, _, _, _, _, _, _, _, _, _, _, _, _, _, cl_BadRule, rv_BadRule⟩, sa_BadRule, ec_BadRule, tc_BadRule, kc_BadRule⟩
  have OX_WrongSize : OexC K kWrongSize := ⟨⟨_, _, _, _, _, _, _, _, _, _, _, _, _, _, _, cl_WrongSize, rv_WrongSize⟩, sa_WrongSize, ec_WrongSize, tc_WrongSize, kc_WrongSize⟩
  have KC_OverpassesError : KC K mg "OverpassesError" kOverpassesError fI := ⟨PySem.W.mg_of X G ca_OverpassesError, OX_OverpassesError, ⟨ga_OverpassesError, gg_OverpassesError, ec_OverpassesError, hc_OverpassesError⟩, nb_OverpassesError, ii_OverpassesError, ti_⟩
  have EC_OverpassesError : ExcC K kOverpassesError := ⟨ga_OverpassesError, gg_OverpassesError, ec_OverpassesError, hc_OverpassesError, cc_OverpassesError, hn_, ht_, mo_OverpassesError⟩
  have KC_BadLine : KC K mg "BadLine" kBadLine fI := ⟨PySem.W.mg_of X G ca_BadLine, OX_BadLine, ⟨ga_BadLine, gg_BadLine, ec_BadLine, hc_BadLine⟩, nb_BadLine, ii_BadLine, ti_⟩
  have EC_BadLine : ExcC K kBadLine := ⟨ga_BadLine, gg_BadLine, ec_BadLine, hc_BadLine, cc_BadLine, hn_, ht_, mo_BadLine⟩
  have KC_BadPlace : KC K mg "BadPlace" kBadPlace fI := ⟨PySem.W.mg_of X G ca_BadPlace, OX_BadPlace, ⟨ga_BadPlace, gg_BadPlace, ec_BadPlace, hc_BadPlace⟩, nb_BadPlace, ii_BadPlace, ti_⟩
  have EC_BadPlace : ExcC K kBadPlace := ⟨ga_BadPlace, gg_BadPlace, ec_BadPlace, hc_BadPlace, cc_BadPlace, hn_, ht_, mo_BadPlace⟩
  have KC_BadPrice : KC K mg "BadPrice" kBadPrice fI := ⟨PySem.W.mg_of X G ca_BadPrice, OX_BadPrice, ⟨ga_BadPrice, gg_BadPrice, ec_BadPrice, hc_BadPrice⟩, nb_BadPrice, ii_BadPrice, ti_⟩
  have EC_BadPrice : ExcC K kBadPrice := ⟨ga_BadPrice, gg_BadPrice, ec_BadPrice, hc_BadPrice, cc_BadPrice, hn_, ht_, mo_BadPrice⟩
  have KC_WrongOrder : KC K mg "WrongOrder" kWrongOrder fI := ⟨PySem.W.mg_of X G ca_WrongOrder, OX_WrongOrder, ⟨ga_WrongOrder, gg_WrongOrder, ec_WrongOrder, hc_WrongOrder⟩, nb_WrongOrder, ii_WrongOrder, ti_⟩
  have EC_WrongOrder : ExcC K kWrongOrder := ⟨ga_WrongOrder, gg_WrongOrder, ec_WrongOrder, hc_WrongOrder, cc_WrongOrder, hn_, ht_, mo_WrongOrder⟩
  have KC_NoLink : KC K mg "NoLink" kNoLink fI := ⟨PySem.W.mg_of X G ca_NoLink, OX_NoLink, ⟨ga_NoLink, gg_NoLink, ec_NoLink, hc_NoLink⟩, nb_NoLink, ii_NoLink, ti_⟩
  have EC_NoLink : ExcC K kNoLink := ⟨ga_NoLink, gg_NoLink, ec_NoLink, hc_NoLink, cc_NoLink, hn_, ht_, mo_NoLink⟩
  have KC_NoPlace : KC K mg "NoPlace" kNoPlace fI := ⟨PySem.W.mg_of X G ca_NoPlace, OX_NoPlace, ⟨ga_NoPlace, gg_NoPlace, ec_NoPlace, hc_NoPlace⟩, nb_NoPlace, ii_NoPlace, ti_⟩
  have EC_NoPlace : ExcC K kNoPlace := ⟨ga_NoPlace, gg_NoPlace, ec_NoPlace, hc_NoPlace, cc_NoPlace, hn_, ht_, mo_NoPlace⟩
  have KC_NotAnOrder : KC K mg "NotAnOrder" kNotAnOrder fI := ⟨PySem.W.mg_of X G ca_NotAnOrder, OX_NotAnOrder, ⟨ga_NotAnOrder, gg_NotAnOrder, ec_NotAnOrder, hc_NotAnOrder⟩, nb_NotAnOrder, ii_NotAnOrder, ti_⟩
  have EC_NotAnOrder : ExcC K kNotAnOrder := ⟨ga_NotAnOrder, gg_NotAnOrder, ec_NotAnOrder, hc_NotAnOrder, cc_NotAnOrder, hn_, ht_, mo_NotAnOrder⟩
  have KC_NoPair : KC K mg "NoPair" kNoPair fI := ⟨PySem.W.mg_of X G ca_NoPair, OX_NoPair, ⟨ga_NoPair, gg_NoPair, ec_NoPair, hc_NoPair⟩, nb_NoPair, ii_NoPair, ti_⟩
  have EC_NoPair : ExcC K kNoPair := ⟨ga_NoPair, gg_NoPair, ec_NoPair, hc_NoPair, cc_NoPair, hn_, ht_, mo_NoPair⟩
  have KC_NothingToUndo : KC K mg "NothingToUndo" kNothingToUndo fI := ⟨PySem.W.mg_of X G ca_NothingToUndo, OX_NothingToUndo, ⟨ga_NothingToUndo, gg_NothingToUndo, ec_NothingToUndo, hc_NothingToUndo⟩, nb_NothingToUndo, ii_NothingToUndo, ti_⟩
  have EC_NothingToUndo : ExcC K kNothingToUndo := ⟨ga_NothingToUndo, gg_NothingToUndo, ec_NothingToUndo, hc_NothingToUndo, cc_NothingToUndo, hn_, ht_, mo_NothingToUndo⟩
  have KC_OutOfRange : KC K mg "OutOfRange" kOutOfRange fI := ⟨PySem.W.mg_of X G ca_OutOfRange, OX_OutOfRange, ⟨ga_OutOfRange, gg_OutOfRange, ec_OutOfRange, hc_OutOfRange⟩, nb_OutOfRange, ii_OutOfRange, ti_⟩
  have EC_OutOfRange : ExcC K kOutOfRange := ⟨ga_OutOfRange, gg_OutOfRange, ec_OutOfRange, hc_OutOfRange, cc_OutOfRange, hn_, ht_, mo_OutOfRange⟩
  have KC_NoTurn : KC K mg "NoTurn" kNoTurn fI := ⟨PySem.W.mg_of X G ca_NoTurn, OX_NoTurn, ⟨ga_NoTurn, gg_NoTurn, ec_NoTurn, hc_NoTurn⟩, nb_NoTurn, ii_NoTurn, ti_⟩
  have EC_NoTurn : ExcC K kNoTurn := ⟨ga_NoTurn, gg_NoTurn, ec_NoTurn, hc_NoTurn, cc_NoTurn, hn_, ht_, mo_NoTurn⟩
  have KC_BadKind : KC K mg "BadKind" kBadKind fI := ⟨PySem.W.mg_of X G ca_BadKind, OX_BadKind, ⟨ga_BadKind, gg_BadKind, ec_BadKind, hc_BadKind⟩, nb_BadKind, ii_BadKind, ti_⟩
  have EC_BadKind : ExcC K kBadKind := ⟨ga_BadKind, gg_BadKind, ec_BadKind, hc_BadKind, cc_BadKind, hn_, ht_, mo_BadKind⟩
  have KC_BadWorth : KC K mg "BadWorth" kBadWorth fI := ⟨PySem.W.mg_of X G ca_BadWorth, OX_BadWorth, ⟨ga_BadWorth, gg_BadWorth, ec_BadWorth, hc_BadWorth⟩, nb_BadWorth, ii_BadWorth, ti_⟩
  have EC_BadWorth : ExcC K kBadWorth := ⟨ga_BadWorth, gg_BadWorth, ec_BadWorth, hc_BadWorth, cc_BadWorth, hn_, ht_, mo_BadWorth⟩
  have KC_BadRule : KC K mg "BadRule" kBadRule fI := ⟨PySem.W.mg_of X G ca_BadRule, OX_BadRule, ⟨ga_BadRule, gg_BadRule, ec_BadRule, hc_BadRule⟩, nb_BadRule, ii_BadRule, ti_⟩
  have EC_BadRule : ExcC K kBadRule := ⟨ga_BadRule, gg_BadRule, ec_BadRule, hc_BadRule, cc_BadRule, hn_, ht_, mo_BadRule⟩
  have KC_WrongSize : KC K mg "WrongSize" kWrongSize fI := ⟨PySem.W.mg_of X G ca_WrongSize, OX_WrongSize, ⟨ga_WrongSize, gg_WrongSize, ec_WrongSize, hc_WrongSize⟩, nb_WrongSize, ii_WrongSize, ti_⟩
  have EC_WrongSize : ExcC K kWrongSize := ⟨ga_WrongSize, gg_WrongSize, ec_WrongSize, hc_WrongSize, cc_WrongSize, hn_, ht_, mo_WrongSize⟩
  have X_ : ∀ base : Heap, Errs l.prog w K mg base := fun base => by
    have ki : KI l.prog w K mg base fI := ⟨_, ok_init FI (PySem.W.mg_none_of X G zv_) vi_, FI.binds (ps := ["self", "at"]) fun _ _ _ _ _ _ us hl => match us, hl with | [_, _], _ => rfl⟩
    have XC_OverpassesError : XC K kOverpassesError := ⟨⟨ga_OverpassesError, gg_OverpassesError, ec_OverpassesError, hc_OverpassesError⟩, EC_OverpassesError, nb_OverpassesError⟩
    have XC_BadLine : XC K kBadLine := ⟨⟨ga_BadLine, gg_BadLine, ec_BadLine, hc_BadLine⟩, EC_BadLine, nb_BadLine⟩
    have XC_BadPlace : XC K kBadPlace := ⟨⟨ga_BadPlace, gg_BadPlace, ec_BadPlace, hc_BadPlace⟩, EC_BadPlace, nb_BadPlace⟩
    have XC_BadPrice : XC K kBadPrice := ⟨⟨ga_BadPrice, gg_BadPrice, ec_BadPrice, hc_BadPrice⟩, EC_BadPrice, nb_BadPrice⟩
    have XC_WrongOrder : XC K kWrongOrder := ⟨⟨ga_WrongOrder, gg_WrongOrder, ec_WrongOrder, hc_WrongOrder⟩, EC_WrongOrder, nb_WrongOrder⟩
    have XC_NoLink : XC K kNoLink := ⟨⟨ga_NoLink, gg_NoLink, ec_NoLink, hc_NoLink⟩, EC_NoLink, nb_NoLink⟩
    have XC_NoPlace : XC K kNoPlace := ⟨⟨ga_NoPlace, gg_NoPlace, ec_NoPlace, hc_NoPlace⟩, EC_NoPlace, nb_NoPlace⟩
    have XC_NotAnOrder : XC K kNotAnOrder := ⟨⟨ga_NotAnOrder, gg_NotAnOrder, ec_NotAnOrder, hc_NotAnOrder⟩, EC_NotAnOrder, nb_NotAnOrder⟩
    have XC_NoPair : XC K kNoPair := ⟨⟨ga_NoPair, gg_NoPair, ec_NoPair, hc_NoPair⟩, EC_NoPair, nb_NoPair⟩
    have XC_NothingToUndo : XC K kNothingToUndo := ⟨⟨ga_NothingToUndo, gg_NothingToUndo, ec_NothingToUndo, hc_NothingToUndo⟩, EC_NothingToUndo, nb_NothingToUndo⟩
    have XC_OutOfRange : XC K kOutOfRange := ⟨⟨ga_OutOfRange, gg_OutOfRange, ec_OutOfRange, hc_OutOfRange⟩, EC_OutOfRange, nb_OutOfRange⟩
    have XC_NoTurn : XC K kNoTurn := ⟨⟨ga_NoTurn, gg_NoTurn, ec_NoTurn, hc_NoTurn⟩, EC_NoTurn, nb_NoTurn⟩
    have XC_BadKind : XC K kBadKind := ⟨⟨ga_BadKind, gg_BadKind, ec_BadKind, hc_BadKind⟩, EC_BadKind, nb_BadKind⟩
    have XC_BadWorth : XC K kBadWorth := ⟨⟨ga_BadWorth, gg_BadWorth, ec_BadWorth, hc_BadWorth⟩, EC_BadWorth, nb_BadWorth⟩
    have XC_BadRule : XC K kBadRule := ⟨⟨ga_BadRule, gg_BadRule, ec_BadRule, hc_BadRule⟩, EC_BadRule, nb_BadRule⟩
    have XC_WrongSize : XC K kWrongSize := ⟨⟨ga_WrongSize, gg_WrongSize, ec_WrongSize, hc_WrongSize⟩, EC_WrongSize, nb_WrongSize⟩
    refine ⟨fun c hc => (by simp only [KSL, List.mem_cons, List.not_mem_nil, or_false] at hc; rcases hc with rfl | rfl | rfl | rfl | rfl | rfl | rfl | rfl | rfl | rfl | rfl | rfl | rfl | rfl | rfl | rfl <;> first | (exact ⟨_, _, KC_OverpassesError, EC_OverpassesError⟩) | (exact ⟨_, _, KC_BadLine, EC_BadLine⟩) | (exact ⟨_, _, KC_BadPlace, EC_BadPlace⟩) | (exact ⟨_, _, KC_BadPrice, EC_BadPrice⟩) | (exact ⟨_, _, KC_WrongOrder, EC_WrongOrder⟩) | (exact ⟨_, _, KC_NoLink, EC_NoLink⟩) | (exact ⟨_, _, KC_NoPlace, EC_NoPlace⟩) | (exact ⟨_, _, KC_NotAnOrder, EC_NotAnOrder⟩) | (exact ⟨_, _, KC_NoPair, EC_NoPair⟩) | (exact ⟨_, _, KC_NothingToUndo, EC_NothingToUndo⟩) | (exact ⟨_, _, KC_OutOfRange, EC_OutOfRange⟩) | (exact ⟨_, _, KC_NoTurn, EC_NoTurn⟩) | (exact ⟨_, _, KC_BadKind, EC_BadKind⟩) | (exact ⟨_, _, KC_BadWorth, EC_BadWorth⟩) | (exact ⟨_, _, KC_BadRule, EC_BadRule⟩) | (exact ⟨_, _, KC_WrongSize, EC_WrongSize⟩)), fun c hc => (by simp only [KSL, List.mem_cons, List.not_mem_nil, or_false] at hc; rcases hc with rfl | rfl | rfl | rfl | rfl | rfl | rfl | rfl | rfl | rfl | rfl | rfl | rfl | rfl | rfl | rfl <;> first | (exact ⟨_, _, KC_OverpassesError, EC_OverpassesError, ki⟩) | (exact ⟨_, _, KC_BadLine, EC_BadLine, ki⟩) | (exact ⟨_, _, KC_BadPlace, EC_BadPlace, ki⟩) | (exact ⟨_, _, KC_BadPrice, EC_BadPrice, ki⟩) | (exact ⟨_, _, KC_WrongOrder, EC_WrongOrder, ki⟩) | (exact ⟨_, _, KC_NoLink, EC_NoLink, ki⟩) | (exact ⟨_, _, KC_NoPlace, EC_NoPlace, ki⟩) | (exact ⟨_, _, KC_NotAnOrder, EC_NotAnOrder, ki⟩) | (exact ⟨_, _, KC_NoPair, EC_NoPair, ki⟩) | (exact ⟨_, _, KC_NothingToUndo, EC_NothingToUndo, ki⟩) | (exact ⟨_, _, KC_OutOfRange, EC_OutOfRange, ki⟩) | (exact ⟨_, _, KC_NoTurn, EC_NoTurn, ki⟩) | (exact ⟨_, _, KC_BadKind, EC_BadKind, ki⟩) | (exact ⟨_, _, KC_BadWorth, EC_BadWorth, ki⟩) | (exact ⟨_, _, KC_BadRule, EC_BadRule, ki⟩) | (exact ⟨_, _, KC_WrongSize, EC_WrongSize, ki⟩)), fun c hc => (by simp only [KSL, List.mem_cons, List.not_mem_nil, or_false] at hc; rcases hc with rfl | rfl | rfl | rfl | rfl | rfl | rfl | rfl | rfl | rfl | rfl | rfl | rfl | rfl | rfl | rfl <;> first | (exact ⟨_, _, KC_OverpassesError, XC_OverpassesError, ca_OverpassesError, ki⟩) | (exact ⟨_, _, KC_BadLine, XC_BadLine, ca_BadLine, ki⟩) | (exact ⟨_, _, KC_BadPlace, XC_BadPlace, ca_BadPlace, ki⟩) | (exact ⟨_, _, KC_BadPrice, XC_BadPrice, ca_BadPrice, ki⟩) | (exact ⟨_, _, KC_WrongOrder, XC_WrongOrder, ca_WrongOrder, ki⟩) | (exact ⟨_, _, KC_NoLink, XC_NoLink, ca_NoLink, ki⟩) | (exact ⟨_, _, KC_NoPlace, XC_NoPlace, ca_NoPlace, ki⟩) | (exact ⟨_, _, KC_NotAnOrder, XC_NotAnOrder, ca_NotAnOrder, ki⟩) | (exact ⟨_, _, KC_NoPair, XC_NoPair, ca_NoPair, ki⟩) | (exact ⟨_, _, KC_NothingToUndo, XC_NothingToUndo, ca_NothingToUndo, ki⟩) | (exact ⟨_, _, KC_OutOfRange, XC_OutOfRange, ca_OutOfRange, ki⟩) | (exact ⟨_, _, KC_NoTurn, XC_NoTurn, ca_NoTurn, ki⟩) | (exact ⟨_, _, KC_BadKind, XC_BadKind, ca_BadKind, ki⟩) | (exact ⟨_, _, KC_BadWorth, XC_BadWorth, ca_BadWorth, ki⟩) | (exact ⟨_, _, KC_BadRule, XC_BadRule, ca_BadRule, ki⟩) | (exact ⟨_, _, KC_WrongSize, XC_WrongSize, ca_WrongSize, ki⟩)), ⟨_, PySem.W.mg_of X G ca_BadLine, fun c hc C hm => (by simp only [KSL, List.mem_cons, List.not_mem_nil, or_false] at hc; rcases hc with rfl | rfl | rfl | rfl | rfl | rfl | rfl | rfl | rfl | rfl | rfl | rfl | rfl | rfl | rfl | rfl <;> first | (have e := ca_OverpassesError.symm.trans hm; cases e; exact xv_OverpassesError_BadLine) | (have e := ca_BadLine.symm.trans hm; cases e; exact xv_BadLine_BadLine) | (have e := ca_BadPlace.symm.trans hm; cases e; exact xv_BadPlace_BadLine) | (have e := ca_BadPrice.symm.trans hm; cases e; exact xv_BadPrice_BadLine) | (have e := ca_WrongOrder.symm.trans hm; cases e; exact xv_WrongOrder_BadLine) | (have e := ca_NoLink.symm.trans hm; cases e; exact xv_NoLink_BadLine) | (have e := ca_NoPlace.symm.trans hm; cases e; exact xv_NoPlace_BadLine) | (have e := ca_NotAnOrder.symm.trans hm; cases e; exact xv_NotAnOrder_BadLine) | (have e := ca_NoPair.symm.trans hm; cases e; exact xv_NoPair_BadLine) | (have e := ca_NothingToUndo.symm.trans hm; cases e; exact xv_NothingToUndo_BadLine) | (have e := ca_OutOfRange.symm.trans hm; cases e; exact xv_OutOfRange_BadLine) | (have e := ca_NoTurn.symm.trans hm; cases e; exact xv_NoTurn_BadLine) | (have e := ca_BadKind.symm.trans hm; cases e; exact xv_BadKind_BadLine) | (have e := ca_BadWorth.symm.trans hm; cases e; exact xv_BadWorth_BadLine) | (have e := ca_BadRule.symm.trans hm; cases e; exact xv_BadRule_BadLine) | (have e := ca_WrongSize.symm.trans hm; cases e; exact xv_WrongSize_BadLine))⟩, ⟨_, PySem.W.mg_of X G ca_BadPlace, fun c hc C hm => (by simp only [KSL, List.mem_cons, List.not_mem_nil, or_false] at hc; rcases hc with rfl | rfl | rfl | rfl | rfl | rfl | rfl | rfl | rfl | rfl | rfl | rfl | rfl | rfl | rfl | rfl <;> first | (have e := ca_OverpassesError.symm.trans hm; cases e; exact xv_OverpassesError_BadPlace) | (have e := ca_BadLine.symm.trans hm; cases e; exact xv_BadLine_BadPlace) | (have e := ca_BadPlace.symm.trans hm; cases e; exact xv_BadPlace_BadPlace) | (have e := ca_BadPrice.symm.trans hm; cases e; exact xv_BadPrice_BadPlace) | (have e := ca_WrongOrder.symm.trans hm; cases e; exact xv_WrongOrder_BadPlace) | (have e := ca_NoLink.symm.trans hm; cases e; exact xv_NoLink_BadPlace) | (have e := ca_NoPlace.symm.trans hm; cases e; exact xv_NoPlace_BadPlace) | (have e := ca_NotAnOrder.symm.trans hm; cases e; exact xv_NotAnOrder_BadPlace) | (have e := ca_NoPair.symm.trans hm; cases e; exact xv_NoPair_BadPlace) | (have e := ca_NothingToUndo.symm.trans hm; cases e; exact xv_NothingToUndo_BadPlace) | (have e := ca_OutOfRange.symm.trans hm; cases e; exact xv_OutOfRange_BadPlace) | (have e := ca_NoTurn.symm.trans hm; cases e; exact xv_NoTurn_BadPlace) | (have e := ca_BadKind.symm.trans hm; cases e; exact xv_BadKind_BadPlace) | (have e := ca_BadWorth.symm.trans hm; cases e; exact xv_BadWorth_BadPlace) | (have e := ca_BadRule.symm.trans hm; cases e; exact xv_BadRule_BadPlace) | (have e := ca_WrongSize.symm.trans hm; cases e; exact xv_WrongSize_BadPlace))⟩, ⟨_, PySem.W.mg_of X G ca_BadPrice, fun c hc C hm => (by simp only [KSL, List.mem_cons, List.not_mem_nil, or_false] at hc; rcases hc with rfl | rfl | rfl | rfl | rfl | rfl | rfl | rfl | rfl | rfl | rfl | rfl | rfl | rfl | rfl | rfl <;> first | (have e := ca_OverpassesError.symm.trans hm; cases e; exact xv_OverpassesError_BadPrice) | (have e := ca_BadLine.symm.trans hm; cases e; exact xv_BadLine_BadPrice) | (have e := ca_BadPlace.symm.trans hm; cases e; exact xv_BadPlace_BadPrice) | (have e := ca_BadPrice.symm.trans hm; cases e; exact xv_BadPrice_BadPrice) | (have e := ca_WrongOrder.symm.trans hm; cases e; exact xv_WrongOrder_BadPrice) | (have e := ca_NoLink.symm.trans hm; cases e; exact xv_NoLink_BadPrice) | (have e := ca_NoPlace.symm.trans hm; cases e; exact xv_NoPlace_BadPrice) | (have e := ca_NotAnOrder.symm.trans hm; cases e; exact xv_NotAnOrder_BadPrice) | (have e := ca_NoPair.symm.trans hm; cases e; exact xv_NoPair_BadPrice) | (have e := ca_NothingToUndo.symm.trans hm; cases e; exact xv_NothingToUndo_BadPrice) | (have e := ca_OutOfRange.symm.trans hm; cases e; exact xv_OutOfRange_BadPrice) | (have e := ca_NoTurn.symm.trans hm; cases e; exact xv_NoTurn_BadPrice) | (have e := ca_BadKind.symm.trans hm; cases e; exact xv_BadKind_BadPrice) | (have e := ca_BadWorth.symm.trans hm; cases e; exact xv_BadWorth_BadPrice) | (have e := ca_BadRule.symm.trans hm; cases e; exact xv_BadRule_BadPrice) | (have e := ca_WrongSize.symm.trans hm; cases e; exact xv_WrongSize_BadPrice))⟩, ⟨_, PySem.W.mg_of X G ca_WrongOrder, fun c hc C hm => (by simp only [KSL, List.mem_cons, List.not_mem_nil, or_false] at hc; rcases hc with rfl | rfl | rfl | rfl | rfl | rfl | rfl | rfl | rfl | rfl | rfl | rfl | rfl | rfl | rfl | rfl <;> first | (have e := ca_OverpassesError.symm.trans hm; cases e; exact xv_OverpassesError_WrongOrder) | (have e := ca_BadLine.symm.trans hm; cases e; exact xv_BadLine_WrongOrder) | (have e := ca_BadPlace.symm.trans hm; cases e; exact xv_BadPlace_WrongOrder) | (have e := ca_BadPrice.symm.trans hm; cases e; exact xv_BadPrice_WrongOrder) | (have e := ca_WrongOrder.symm.trans hm; cases e; exact xv_WrongOrder_WrongOrder) | (have e := ca_NoLink.symm.trans hm; cases e; exact xv_NoLink_WrongOrder) | (have e := ca_NoPlace.symm.trans hm; cases e; exact xv_NoPlace_WrongOrder) | (have e := ca_NotAnOrder.symm.trans hm; cases e; exact xv_NotAnOrder_WrongOrder) | (have e := ca_NoPair.symm.trans hm; cases e; exact xv_NoPair_WrongOrder) | (have e := ca_NothingToUndo.symm.trans hm; cases e; exact xv_NothingToUndo_WrongOrder) | (have e := ca_OutOfRange.symm.trans hm; cases e; exact xv_OutOfRange_WrongOrder) | (have e := ca_NoTurn.symm.trans hm; cases e; exact xv_NoTurn_WrongOrder) | (have e := ca_BadKind.symm.trans hm; cases e; exact xv_BadKind_WrongOrder) | (have e := ca_BadWorth.symm.trans hm; cases e; exact xv_BadWorth_WrongOrder) | (have e := ca_BadRule.symm.trans hm; cases e; exact xv_BadRule_WrongOrder) | (have e := ca_WrongSize.symm.trans hm; cases e; exact xv_WrongSize_WrongOrder))⟩, ⟨_, PySem.W.mg_of X G ca_NoLink, fun c hc C hm => (by simp only [KSL, List.mem_cons, List.not_mem_nil, or_false] at hc; rcases hc with rfl | rfl | rfl | rfl | rfl | rfl | rfl | rfl | rfl | rfl | rfl | rfl | rfl | rfl | rfl | rfl <;> first | (have e := ca_OverpassesError.symm.trans hm; cases e; exact xv_OverpassesError_NoLink) | (have e := ca_BadLine.symm.trans hm; cases e; exact xv_BadLine_NoLink) | (have e := ca_BadPlace.symm.trans hm; cases e; exact xv_BadPlace_NoLink) | (have e := ca_BadPrice.symm.trans hm; cases e; exact xv_BadPrice_NoLink) | (have e := ca_WrongOrder.symm.trans hm; cases e; exact xv_WrongOrder_NoLink) | (have e := ca_NoLink.symm.trans hm; cases e; exact xv_NoLink_NoLink) | (have e := ca_NoPlace.symm.trans hm; cases e; exact xv_NoPlace_NoLink) | (have e := ca_NotAnOrder.symm.trans hm; cases e; exact xv_NotAnOrder_NoLink) | (have e := ca_NoPair.symm.trans hm; cases e; exact xv_NoPair_NoLink) | (have e := ca_NothingToUndo.symm.trans hm; cases e; exact xv_NothingToUndo_NoLink) | (have e := ca_OutOfRange.symm.trans hm; cases e; exact xv_OutOfRange_NoLink) | (have e := ca_NoTurn.symm.trans hm; cases e; exact xv_NoTurn_NoLink) | (have e := ca_BadKind.symm.trans hm; cases e; exact xv_BadKind_NoLink) | (have e := ca_BadWorth.symm.trans hm; cases e; exact xv_BadWorth_NoLink) | (have e := ca_BadRule.symm.trans hm; cases e; exact xv_BadRule_NoLink) | (have e := ca_WrongSize.symm.trans hm; cases e; exact xv_WrongSize_NoLink))⟩, ⟨_, PySem.W.mg_of X G ca_NoPlace, fun c hc C hm => (by simp only [KSL, List.mem_cons, List.not_mem_nil, or_false] at hc; rcases hc with rfl | rfl | rfl | rfl | rfl | rfl | rfl | rfl | rfl | rfl | rfl | rfl | rfl | rfl | rfl | rfl <;> first | (have e := ca_OverpassesError.symm.trans hm; cases e; exact xv_OverpassesError_NoPlace) | (have e := ca_BadLine.symm.trans hm; cases e; exact xv_BadLine_NoPlace) | (have e := ca_BadPlace.symm.trans hm; cases e; exact xv_BadPlace_NoPlace) | (have e := ca_BadPrice.symm.trans hm; cases e; exact xv_BadPrice_NoPlace) | (have e := ca_WrongOrder.symm.trans hm; cases e; exact xv_WrongOrder_NoPlace) | (have e := ca_NoLink.symm.trans hm; cases e; exact xv_NoLink_NoPlace) | (have e := ca_NoPlace.symm.trans hm; cases e; exact xv_NoPlace_NoPlace) | (have e := ca_NotAnOrder.symm.trans hm; cases e; exact xv_NotAnOrder_NoPlace) | (have e := ca_NoPair.symm.trans hm; cases e; exact xv_NoPair_NoPlace) | (have e := ca_NothingToUndo.symm.trans hm; cases e; exact xv_NothingToUndo_NoPlace) | (have e := ca_OutOfRange.symm.trans hm; cases e; exact xv_OutOfRange_NoPlace) | (have e := ca_NoTurn.symm.trans hm; cases e; exact xv_NoTurn_NoPlace) | (have e := ca_BadKind.symm.trans hm; cases e; exact xv_BadKind_NoPlace) | (have e := ca_BadWorth.symm.trans hm; cases e; exact xv_BadWorth_NoPlace) | (have e := ca_BadRule.symm.trans hm; cases e; exact xv_BadRule_NoPlace) | (have e := ca_WrongSize.symm.trans hm; cases e; exact xv_WrongSize_NoPlace))⟩, ⟨_, PySem.W.mg_of X G ca_NotAnOrder, fun c hc C hm => (by simp only [KSL, List.mem_cons, List.not_mem_nil, or_false] at hc; rcases hc with rfl | rfl | rfl | rfl | rfl | rfl | rfl | rfl | rfl | rfl | rfl | rfl | rfl | rfl | rfl | rfl <;> first | (have e := ca_OverpassesError.symm.trans hm; cases e; exact xv_OverpassesError_NotAnOrder) | (have e := ca_BadLine.symm.trans hm; cases e; exact xv_BadLine_NotAnOrder) | (have e := ca_BadPlace.symm.trans hm; cases e; exact xv_BadPlace_NotAnOrder) | (have e := ca_BadPrice.symm.trans hm; cases e; exact xv_BadPrice_NotAnOrder) | (have e := ca_WrongOrder.symm.trans hm; cases e; exact xv_WrongOrder_NotAnOrder) | (have e := ca_NoLink.symm.trans hm; cases e; exact xv_NoLink_NotAnOrder) | (have e := ca_NoPlace.symm.trans hm; cases e; exact xv_NoPlace_NotAnOrder) | (have e := ca_NotAnOrder.symm.trans hm; cases e; exact xv_NotAnOrder_NotAnOrder) | (have e := ca_NoPair.symm.trans hm; cases e; exact xv_NoPair_NotAnOrder) | (have e := ca_NothingToUndo.symm.trans hm; cases e; exact xv_NothingToUndo_NotAnOrder) | (have e := ca_OutOfRange.symm.trans hm; cases e; exact xv_OutOfRange_NotAnOrder) | (have e := ca_NoTurn.symm.trans hm; cases e; exact xv_NoTurn_NotAnOrder) | (have e := ca_BadKind.symm.trans hm; cases e; exact xv_BadKind_NotAnOrder) | (have e := ca_BadWorth.symm.trans hm; cases e; exact xv_BadWorth_NotAnOrder) | (have e := ca_BadRule.symm.trans hm; cases e; exact xv_BadRule_NotAnOrder) | (have e := ca_WrongSize.symm.trans hm; cases e; exact xv_WrongSize_NotAnOrder))⟩, ⟨_, PySem.W.mg_of X G ca_NoPair, fun c hc C hm => (by simp only [KSL, List.mem_cons, List.not_mem_nil, or_false] at hc; rcases hc with rfl | rfl | rfl | rfl | rfl | rfl | rfl | rfl | rfl | rfl | rfl | rfl | rfl | rfl | rfl | rfl <;> first | (have e := ca_OverpassesError.symm.trans hm; cases e; exact xv_OverpassesError_NoPair) | (have e := ca_BadLine.symm.trans hm; cases e; exact xv_BadLine_NoPair) | (have e := ca_BadPlace.symm.trans hm; cases e; exact xv_BadPlace_NoPair) | (have e := ca_BadPrice.symm.trans hm; cases e; exact xv_BadPrice_NoPair) | (have e := ca_WrongOrder.symm.trans hm; cases e; exact xv_WrongOrder_NoPair) | (have e := ca_NoLink.symm.trans hm; cases e; exact xv_NoLink_NoPair) | (have e := ca_NoPlace.symm.trans hm; cases e; exact xv_NoPlace_NoPair) | (have e := ca_NotAnOrder.symm.trans hm; cases e; exact xv_NotAnOrder_NoPair) | (have e := ca_NoPair.symm.trans hm; cases e; exact xv_NoPair_NoPair) | (have e := ca_NothingToUndo.symm.trans hm; cases e; exact xv_NothingToUndo_NoPair) | (have e := ca_OutOfRange.symm.trans hm; cases e; exact xv_OutOfRange_NoPair) | (have e := ca_NoTurn.symm.trans hm; cases e; exact xv_NoTurn_NoPair) | (have e := ca_BadKind.symm.trans hm; cases e; exact xv_BadKind_NoPair) | (have e := ca_BadWorth.symm.trans hm; cases e; exact xv_BadWorth_NoPair) | (have e := ca_BadRule.symm.trans hm; cases e; exact xv_BadRule_NoPair) | (have e := ca_WrongSize.symm.trans hm; cases e; exact xv_WrongSize_NoPair))⟩, ⟨_, PySem.W.mg_of X G ca_NothingToUndo, fun c hc C hm => (by simp only [KSL, List.mem_cons, List.not_mem_nil, or_false] at hc; rcases hc with rfl | rfl | rfl | rfl | rfl | rfl | rfl | rfl | rfl | rfl | rfl | rfl | rfl | rfl | rfl | rfl <;> first | (have e := ca_OverpassesError.symm.trans hm; cases e; exact xv_OverpassesError_NothingToUndo) | (have e := ca_BadLine.symm.trans hm; cases e; exact xv_BadLine_NothingToUndo) | (have e := ca_BadPlace.symm.trans hm; cases e; exact xv_BadPlace_NothingToUndo) | (have e := ca_BadPrice.symm.trans hm; cases e; exact xv_BadPrice_NothingToUndo) | (have e := ca_WrongOrder.symm.trans hm; cases e; exact xv_WrongOrder_NothingToUndo) | (have e := ca_NoLink.symm.trans hm; cases e; exact xv_NoLink_NothingToUndo) | (have e := ca_NoPlace.symm.trans hm; cases e; exact xv_NoPlace_NothingToUndo) | (have e := ca_NotAnOrder.symm.trans hm; cases e; exact xv_NotAnOrder_NothingToUndo) | (have e := ca_NoPair.symm.trans hm; cases e; exact xv_NoPair_NothingToUndo) | (have e := ca_NothingToUndo.symm.trans hm; cases e; exact xv_NothingToUndo_NothingToUndo) | (have e := ca_OutOfRange.symm.trans hm; cases e; exact xv_OutOfRange_NothingToUndo) | (have e := ca_NoTurn.symm.trans hm; cases e; exact xv_NoTurn_NothingToUndo) | (have e := ca_BadKind.symm.trans hm; cases e; exact xv_BadKind_NothingToUndo) | (have e := ca_BadWorth.symm.trans hm; cases e; exact xv_BadWorth_NothingToUndo) | (have e := ca_BadRule.symm.trans hm; cases e; exact xv_BadRule_NothingToUndo) | (have e := ca_WrongSize.symm.trans hm; cases e; exact xv_WrongSize_NothingToUndo))⟩, ⟨_, PySem.W.mg_of X G ca_OutOfRange, fun c hc C hm => (by simp only [KSL, List.mem_cons, List.not_mem_nil, or_false] at hc; rcases hc with rfl | rfl | rfl | rfl | rfl | rfl | rfl | rfl | rfl | rfl | rfl | rfl | rfl | rfl | rfl | rfl <;> first | (have e := ca_OverpassesError.symm.trans hm; cases e; exact xv_OverpassesError_OutOfRange) | (have e := ca_BadLine.symm.trans hm; cases e; exact xv_BadLine_OutOfRange) | (have e := ca_BadPlace.symm.trans hm; cases e; exact xv_BadPlace_OutOfRange) | (have e := ca_BadPrice.symm.trans hm; cases e; exact xv_BadPrice_OutOfRange) | (have e := ca_WrongOrder.symm.trans hm; cases e; exact xv_WrongOrder_OutOfRange) | (have e := ca_NoLink.symm.trans hm; cases e; exact xv_NoLink_OutOfRange) | (have e := ca_NoPlace.symm.trans hm; cases e; exact xv_NoPlace_OutOfRange) | (have e := ca_NotAnOrder.symm.trans hm; cases e; exact xv_NotAnOrder_OutOfRange) | (have e := ca_NoPair.symm.trans hm; cases e; exact xv_NoPair_OutOfRange) | (have e := ca_NothingToUndo.symm.trans hm; cases e; exact xv_NothingToUndo_OutOfRange) | (have e := ca_OutOfRange.symm.trans hm; cases e; exact xv_OutOfRange_OutOfRange) | (have e := ca_NoTurn.symm.trans hm; cases e; exact xv_NoTurn_OutOfRange) | (have e := ca_BadKind.symm.trans hm; cases e; exact xv_BadKind_OutOfRange) | (have e := ca_BadWorth.symm.trans hm; cases e; exact xv_BadWorth_OutOfRange) | (have e := ca_BadRule.symm.trans hm; cases e; exact xv_BadRule_OutOfRange) | (have e := ca_WrongSize.symm.trans hm; cases e; exact xv_WrongSize_OutOfRange))⟩, ⟨_, PySem.W.mg_of X G ca_NoTurn, fun c hc C hm => (by simp only [KSL, List.mem_cons, List.not_mem_nil, or_false] at hc; rcases hc with rfl | rfl | rfl | rfl | rfl | rfl | rfl | rfl | rfl | rfl | rfl | rfl | rfl | rfl | rfl | rfl <;> first | (have e := ca_OverpassesError.symm.trans hm; cases e; exact xv_OverpassesError_NoTurn) | (have e := ca_BadLine.symm.trans hm; cases e; exact xv_BadLine_NoTurn) | (have e := ca_BadPlace.symm.trans hm; cases e; exact xv_BadPlace_NoTurn) | (have e := ca_BadPrice.symm.trans hm; cases e; exact xv_BadPrice_NoTurn) | (have e := ca_WrongOrder.symm.trans hm; cases e; exact xv_WrongOrder_NoTurn) | (have e := ca_NoLink.symm.trans hm; cases e; exact xv_NoLink_NoTurn) | (have e := ca_NoPlace.symm.trans hm; cases e; exact xv_NoPlace_NoTurn) | (have e := ca_NotAnOrder.symm.trans hm; cases e; exact xv_NotAnOrder_NoTurn) | (have e := ca_NoPair.symm.trans hm; cases e; exact xv_NoPair_NoTurn) | (have e := ca_NothingToUndo.symm.trans hm; cases e; exact xv_NothingToUndo_NoTurn) | (have e := ca_OutOfRange.symm.trans hm; cases e; exact xv_OutOfRange_NoTurn) | (have e := ca_NoTurn.symm.trans hm; cases e; exact xv_NoTurn_NoTurn) | (have e := ca_BadKind.symm.trans hm; cases e; exact xv_BadKind_NoTurn) | (have e := ca_BadWorth.symm.trans hm; cases e; exact xv_BadWorth_NoTurn) | (have e := ca_BadRule.symm.trans hm; cases e; exact xv_BadRule_NoTurn) | (have e := ca_WrongSize.symm.trans hm; cases e; exact xv_WrongSize_NoTurn))⟩, ⟨_, PySem.W.mg_of X G ca_BadKind, fun c hc C hm => (by simp only [KSL, List.mem_cons, List.not_mem_nil, or_false] at hc; rcases hc with rfl | rfl | rfl | rfl | rfl | rfl | rfl | rfl | rfl | rfl | rfl | rfl | rfl | rfl | rfl | rfl <;> first | (have e := ca_OverpassesError.symm.trans hm; cases e; exact xv_OverpassesError_BadKind) | (have e := ca_BadLine.symm.trans hm; cases e; exact xv_BadLine_BadKind) | (have e := ca_BadPlace.symm.trans hm; cases e; exact xv_BadPlace_BadKind) | (have e := ca_BadPrice.symm.trans hm; cases e; exact xv_BadPrice_BadKind) | (have e := ca_WrongOrder.symm.trans hm; cases e; exact xv_WrongOrder_BadKind) | (have e := ca_NoLink.symm.trans hm; cases e; exact xv_NoLink_BadKind) | (have e := ca_NoPlace.symm.trans hm; cases e; exact xv_NoPlace_BadKind) | (have e := ca_NotAnOrder.symm.trans hm; cases e; exact xv_NotAnOrder_BadKind) | (have e := ca_NoPair.symm.trans hm; cases e; exact xv_NoPair_BadKind) | (have e := ca_NothingToUndo.symm.trans hm; cases e; exact xv_NothingToUndo_BadKind) | (have e := ca_OutOfRange.symm.trans hm; cases e; exact xv_OutOfRange_BadKind) | (have e := ca_NoTurn.symm.trans hm; cases e; exact xv_NoTurn_BadKind) | (have e := ca_BadKind.symm.trans hm; cases e; exact xv_BadKind_BadKind) | (have e := ca_BadWorth.symm.trans hm; cases e; exact xv_BadWorth_BadKind) | (have e := ca_BadRule.symm.trans hm; cases e; exact xv_BadRule_BadKind) | (have e := ca_WrongSize.symm.trans hm; cases e; exact xv_WrongSize_BadKind))⟩, ⟨_, PySem.W.mg_of X G ca_BadWorth, fun c hc C hm => (by simp only [KSL, List.mem_cons, List.not_mem_nil, or_false] at hc; rcases hc with rfl | rfl | rfl | rfl | rfl | rfl | rfl | rfl | rfl | rfl | rfl | rfl | rfl | rfl | rfl | rfl <;> first | (have e := ca_OverpassesError.symm.trans hm; cases e; exact xv_OverpassesError_BadWorth) | (have e := ca_BadLine.symm.trans hm; cases e; exact xv_BadLine_BadWorth) | (have e := ca_BadPlace.symm.trans hm; cases e; exact xv_BadPlace_BadWorth) | (have e := ca_BadPrice.symm.trans hm; cases e; exact xv_BadPrice_BadWorth) | (have e := ca_WrongOrder.symm.trans hm; cases e; exact xv_WrongOrder_BadWorth) | (have e := ca_NoLink.symm.trans hm; cases e; exact xv_NoLink_BadWorth) | (have e := ca_NoPlace.symm.trans hm; cases e; exact xv_NoPlace_BadWorth) | (have e := ca_NotAnOrder.symm.trans hm; cases e; exact xv_NotAnOrder_BadWorth) | (have e := ca_NoPair.symm.trans hm; cases e; exact xv_NoPair_BadWorth) | (have e := ca_NothingToUndo.symm.trans hm; cases e; exact xv_NothingToUndo_BadWorth) | (have e := ca_OutOfRange.symm.trans hm; cases e; exact xv_OutOfRange_BadWorth) | (have e := ca_NoTurn.symm.trans hm; cases e; exact xv_NoTurn_BadWorth) | (have e := ca_BadKind.symm.trans hm; cases e; exact xv_BadKind_BadWorth) | (have e := ca_BadWorth.symm.trans hm; cases e; exact xv_BadWorth_BadWorth) | (have e := ca_BadRule.symm.trans hm; cases e; exact xv_BadRule_BadWorth) | (have e := ca_WrongSize.symm.trans hm; cases e; exact xv_WrongSize_BadWorth))⟩, ⟨_, PySem.W.mg_of X G ca_BadRule, fun c hc C hm => (by simp only [KSL, List.mem_cons, List.not_mem_nil, or_false] at hc; rcases hc with rfl | rfl | rfl | rfl | rfl | rfl | rfl | rfl | rfl | rfl | rfl | rfl | rfl | rfl | rfl | rfl <;> first | (have e := ca_OverpassesError.symm.trans hm; cases e; exact xv_OverpassesError_BadRule) | (have e := ca_BadLine.symm.trans hm; cases e; exact xv_BadLine_BadRule) | (have e := ca_BadPlace.symm.trans hm; cases e; exact xv_BadPlace_BadRule) | (have e := ca_BadPrice.symm.trans hm; cases e; exact xv_BadPrice_BadRule) | (have e := ca_WrongOrder.symm.trans hm; cases e; exact xv_WrongOrder_BadRule) | (have e := ca_NoLink.symm.trans hm; cases e; exact xv_NoLink_BadRule) | (have e := ca_NoPlace.symm.trans hm; cases e; exact xv_NoPlace_BadRule) | (have e := ca_NotAnOrder.symm.trans hm; cases e; exact xv_NotAnOrder_BadRule) | (have e := ca_NoPair.symm.trans hm; cases e; exact xv_NoPair_BadRule) | (have e := ca_NothingToUndo.symm.trans hm; cases e; exact xv_NothingToUndo_BadRule) | (have e := ca_OutOfRange.symm.trans hm; cases e; exact xv_OutOfRange_BadRule) | (have e := ca_NoTurn.symm.trans hm; cases e; exact xv_NoTurn_BadRule) | (have e := ca_BadKind.symm.trans hm; cases e; exact xv_BadKind_BadRule) | (have e := ca_BadWorth.symm.trans hm; cases e; exact xv_BadWorth_BadRule) | (have e := ca_BadRule.symm.trans hm; cases e; exact xv_BadRule_BadRule) | (have e := ca_WrongSize.symm.trans hm; cases e; exact xv_WrongSize_BadRule))⟩, ⟨_, PySem.W.mg_of X G ca_WrongSize, fun c hc C hm => (by simp only [KSL, List.mem_cons, List.not_mem_nil, or_false] at hc; rcases hc with rfl | rfl | rfl | rfl | rfl | rfl | rfl | rfl | rfl | rfl | rfl | rfl | rfl | rfl | rfl | rfl <;> first | (have e := ca_OverpassesError.symm.trans hm; cases e; exact xv_OverpassesError_WrongSize) | (have e := ca_BadLine.symm.trans hm; cases e; exact xv_BadLine_WrongSize) | (have e := ca_BadPlace.symm.trans hm; cases e; exact xv_BadPlace_WrongSize) | (have e := ca_BadPrice.symm.trans hm; cases e; exact xv_BadPrice_WrongSize) | (have e := ca_WrongOrder.symm.trans hm; cases e; exact xv_WrongOrder_WrongSize) | (have e := ca_NoLink.symm.trans hm; cases e; exact xv_NoLink_WrongSize) | (have e := ca_NoPlace.symm.trans hm; cases e; exact xv_NoPlace_WrongSize) | (have e := ca_NotAnOrder.symm.trans hm; cases e; exact xv_NotAnOrder_WrongSize) | (have e := ca_NoPair.symm.trans hm; cases e; exact xv_NoPair_WrongSize) | (have e := ca_NothingToUndo.symm.trans hm; cases e; exact xv_NothingToUndo_WrongSize) | (have e := ca_OutOfRange.symm.trans hm; cases e; exact xv_OutOfRange_WrongSize) | (have e := ca_NoTurn.symm.trans hm; cases e; exact xv_NoTurn_WrongSize) | (have e := ca_BadKind.symm.trans hm; cases e; exact xv_BadKind_WrongSize) | (have e := ca_BadWorth.symm.trans hm; cases e; exact xv_BadWorth_WrongSize) | (have e := ca_BadRule.symm.trans hm; cases e; exact xv_BadRule_WrongSize) | (have e := ca_WrongSize.symm.trans hm; cases e; exact xv_WrongSize_WrongSize))⟩, ⟨_, PySem.W.mg_of X G ca_OverpassesError, fun c hc C hm => (by simp only [KSL, List.mem_cons, List.not_mem_nil, or_false] at hc; rcases hc with rfl | rfl | rfl | rfl | rfl | rfl | rfl | rfl | rfl | rfl | rfl | rfl | rfl | rfl | rfl | rfl <;> first | (have e := ca_OverpassesError.symm.trans hm; cases e; exact xv_OverpassesError_OverpassesError) | (have e := ca_BadLine.symm.trans hm; cases e; exact xv_BadLine_OverpassesError) | (have e := ca_BadPlace.symm.trans hm; cases e; exact xv_BadPlace_OverpassesError) | (have e := ca_BadPrice.symm.trans hm; cases e; exact xv_BadPrice_OverpassesError) | (have e := ca_WrongOrder.symm.trans hm; cases e; exact xv_WrongOrder_OverpassesError) | (have e := ca_NoLink.symm.trans hm; cases e; exact xv_NoLink_OverpassesError) | (have e := ca_NoPlace.symm.trans hm; cases e; exact xv_NoPlace_OverpassesError) | (have e := ca_NotAnOrder.symm.trans hm; cases e; exact xv_NotAnOrder_OverpassesError) | (have e := ca_NoPair.symm.trans hm; cases e; exact xv_NoPair_OverpassesError) | (have e := ca_NothingToUndo.symm.trans hm; cases e; exact xv_NothingToUndo_OverpassesError) | (have e := ca_OutOfRange.symm.trans hm; cases e; exact xv_OutOfRange_OverpassesError) | (have e := ca_NoTurn.symm.trans hm; cases e; exact xv_NoTurn_OverpassesError) | (have e := ca_BadKind.symm.trans hm; cases e; exact xv_BadKind_OverpassesError) | (have e := ca_BadWorth.symm.trans hm; cases e; exact xv_BadWorth_OverpassesError) | (have e := ca_BadRule.symm.trans hm; cases e; exact xv_BadRule_OverpassesError) | (have e := ca_WrongSize.symm.trans hm; cases e; exact xv_WrongSize_OverpassesError))⟩, ⟨PySem.W.mg_none_of X G zv_, fun c hc C hm => (by simp only [KSL, List.mem_cons, List.not_mem_nil, or_false] at hc; rcases hc with rfl | rfl | rfl | rfl | rfl | rfl | rfl | rfl | rfl | rfl | rfl | rfl | rfl | rfl | rfl | rfl <;> first | (have e := ca_OverpassesError.symm.trans hm; cases e; exact xe_OverpassesError) | (have e := ca_BadLine.symm.trans hm; cases e; exact xe_BadLine) | (have e := ca_BadPlace.symm.trans hm; cases e; exact xe_BadPlace) | (have e := ca_BadPrice.symm.trans hm; cases e; exact xe_BadPrice) | (have e := ca_WrongOrder.symm.trans hm; cases e; exact xe_WrongOrder) | (have e := ca_NoLink.symm.trans hm; cases e; exact xe_NoLink) | (have e := ca_NoPlace.symm.trans hm; cases e; exact xe_NoPlace) | (have e := ca_NotAnOrder.symm.trans hm; cases e; exact xe_NotAnOrder) | (have e := ca_NoPair.symm.trans hm; cases e; exact xe_NoPair) | (have e := ca_NothingToUndo.symm.trans hm; cases e; exact xe_NothingToUndo) | (have e := ca_OutOfRange.symm.trans hm; cases e; exact xe_OutOfRange) | (have e := ca_NoTurn.symm.trans hm; cases e; exact xe_NoTurn) | (have e := ca_BadKind.symm.trans hm; cases e; exact xe_BadKind) | (have e := ca_BadWorth.symm.trans hm; cases e; exact xe_BadWorth) | (have e := ca_BadRule.symm.trans hm; cases e; exact xe_BadRule) | (have e := ca_WrongSize.symm.trans hm; cases e; exact xe_WrongSize))⟩⟩
  refine ⟨PySem.W.fnOf "law" "law" (defArgs s_law) (defBody s_law) (defScope s_law) .none kV4 dc4 pm4 an4 cd4 ct4, fun s v => .of_eq rfl, fun base _ _ => ?_⟩
  have c__law_first := ok__law_first (P := l.prog) (w := w) (base := base) B B2 D1 (X_ base) 
  have c__law_second := ok__law_second (P := l.prog) (w := w) (base := base) B B2 D2 (X_ base) 
  have c__law_kinds := ok__law_kinds (P := l.prog) (w := w) (base := base) B B2 D3 (X_ base) 
  exact (fn_law F4 B B2 (X_ base) c__law_first c__law_second c__law_kinds).less (spL_of law_true)
end Z
open PySem PySem.W PyProof.Rows
set_option maxHeartbeats 0 in
theorem PySem.Challenge.cw_overpasses_k08_errors_are_apart_holds : PySem.Challenge.rw_overpasses_k08_errors_are_apart.Holds := by
  w_on; o_law; k_head; (case hw => w_witness2)
  k_fill
  refine U.walk_ofG (l := PySem.Challenge.rw_overpasses_k08_errors_are_apart) (n := 63) (k := 4) (x := "script") (sp := fun w => U.spL _) rfl (by decide) rfl ⟨rfl, by decide, by decide⟩ (fun w h Y => PySem.W.kIn_of Y) ?F (fun _ _ a ns hl on hS => ⟨a, ns, rfl, on, hS, hl, fun _ => rfl⟩) (fun _ _ _ _ _ h => U.cx_no h)
  case F =>
    intro w mg fa h KX G hmg
    refine' Z.all_mk KX G hmg ?a1 ?l1 ?c1 ?k1 ?a2 ?l2 ?c2 ?k2 ?a3 ?l3 ?c3 ?k3 ?a4 ?l4 ?c4 ?k4 ?z_len ?z_range ?z_abs ?z_int ?z_min ?z_max ?z_list ?z_isinstance ?z_bool ?z_tuple ?z_sorted ?z_all ?z_any ?z_repr ?z_dict ?ca_OverpassesError ?cl_OverpassesError ?rv_OverpassesError ?sa_OverpassesError ?ga_OverpassesError ?gg_OverpassesError ?nb_OverpassesError ?ii_OverpassesError ?kc_OverpassesError ?ec_OverpassesError ?tc_OverpassesError ?hc_OverpassesError ?cc_OverpassesError ?mo_OverpassesError ?ca_BadLine ?cl_BadLine ?rv_BadLine ?sa_BadLine ?ga_BadLine ?gg_BadLine ?nb_BadLine ?ii_BadLine ?kc_BadLine ?ec_BadLine ?tc_BadLine ?hc_BadLine ?cc_BadLine ?mo_BadLine ?ca_BadPlace ?cl_BadPlace ?rv_BadPlace ?sa_BadPlace ?ga_BadPlace ?gg_BadPlace ?nb_BadPlace ?ii_BadPlace ?kc_BadPlace ?ec_BadPlace ?tc_BadPlace ?hc_BadPlace ?cc_BadPlace ?mo_BadPlace ?ca_BadPrice ?cl_BadPrice ?rv_BadPrice ?sa_BadPrice ?ga_BadPrice ?gg_BadPrice ?nb_BadPrice ?ii_BadPrice ?kc_BadPrice ?ec_BadPrice ?tc_BadPrice ?hc_BadPrice ?cc_BadPrice ?mo_BadPrice ?ca_WrongOrder ?cl_WrongOrder ?rv_WrongOrder ?sa_WrongOrder ?ga_WrongOrder ?gg_WrongOrder ?nb_WrongOrder ?ii_WrongOrder ?kc_WrongOrder ?ec_WrongOrder ?tc_WrongOrder ?hc_WrongOrder ?cc_WrongOrder ?mo_WrongOrder ?ca_NoLink ?cl_NoLink ?rv_NoLink ?sa_NoLink ?ga_NoLink ?gg_NoLink ?nb_NoLink ?ii_NoLink ?kc_NoLink ?ec_NoLink ?tc_NoLink ?hc_NoLink ?cc_NoLink ?mo_NoLink ?ca_NoPlace ?cl_NoPlace ?rv_NoPlace ?sa_NoPlace ?ga_NoPlace ?gg_NoPlace ?nb_NoPlace ?ii_NoPlace ?kc_NoPlace ?ec_NoPlace ?tc_NoPlace ?hc_NoPlace ?cc_NoPlace ?mo_NoPlace ?ca_NotAnOrder ?cl_NotAnOrder ?rv_NotAnOrder ?sa_NotAnOrder ?ga_NotAnOrder ?gg_NotAnOrder ?nb_NotAnOrder ?ii_NotAnOrder ?kc_NotAnOrder ?ec_NotAnOrder ?tc_NotAnOrder ?hc_NotAnOrder ?cc_NotAnOrder ?mo_NotAnOrder ?ca_NoPair ?cl_NoPair ?rv_NoPair ?sa_NoPair ?ga_NoPair ?gg_NoPair ?nb_NoPair ?ii_NoPair ?kc_NoPair ?ec_NoPair ?tc_NoPair ?hc_NoPair ?cc_NoPair ?mo_NoPair ?ca_NothingToUndo ?cl_NothingToUndo ?rv_NothingToUndo ?sa_NothingToUndo ?ga_NothingToUndo ?gg_NothingToUndo ?nb_NothingToUndo ?ii_NothingToUndo ?kc_NothingToUndo ?ec_NothingToUndo ?tc_NothingToUndo ?hc_NothingToUndo ?cc_NothingToUndo ?mo_NothingToUndo ?ca_OutOfRange ?cl_OutOfRange ?rv_OutOfRange ?sa_OutOfRange ?ga_OutOfRange ?gg_OutOfRange ?nb_OutOfRange ?ii_OutOfRange ?kc_OutOfRange ?ec_OutOfRange ?tc_OutOfRange ?hc_OutOfRange ?cc_OutOfRange ?mo_OutOfRange ?ca_NoTurn ?cl_NoTurn ?rv_NoTurn ?sa_NoTurn ?ga_NoTurn ?gg_NoTurn ?nb_NoTurn ?ii_NoTurn ?kc_NoTurn ?ec_NoTurn ?tc_NoTurn ?hc_NoTurn ?cc_NoTurn ?mo_NoTurn ?ca_BadKind ?cl_BadKind ?rv_BadKind ?sa_BadKind ?ga_BadKind ?gg_BadKind ?nb_BadKind ?ii_BadKind ?kc_BadKind ?ec_BadKind ?tc_BadKind ?hc_BadKind ?cc_BadKind ?mo_BadKind ?ca_BadWorth ?cl_BadWorth ?rv_BadWorth ?sa_BadWorth ?ga_BadWorth ?gg_BadWorth ?nb_BadWorth ?ii_BadWorth ?kc_BadWorth ?ec_BadWorth ?tc_BadWorth ?hc_BadWorth ?cc_BadWorth ?mo_BadWorth ?ca_BadRule ?cl_BadRule ?rv_BadRule ?sa_BadRule ?ga_BadRule ?gg_BadRule ?nb_BadRule ?ii_BadRule ?kc_BadRule ?ec_BadRule ?tc_BadRule ?hc_BadRule ?cc_BadRule ?mo_BadRule ?ca_WrongSize ?cl_WrongSize ?rv_WrongSize ?sa_WrongSize ?ga_WrongSize ?gg_WrongSize ?nb_WrongSize ?ii_WrongSize ?kc_WrongSize ?ec_WrongSize ?tc_WrongSize ?hc_WrongSize ?cc_WrongSize ?mo_WrongSize ?ti_ ?li_ ?ci_ ?ki_ ?vi_ ?zv_ ?hn_ ?ht_ ?xv_OverpassesError_BadLine ?xv_BadLine_BadLine ?xv_BadPlace_BadLine ?xv_BadPrice_BadLine ?xv_WrongOrder_BadLine ?xv_NoLink_BadLine ?xv_NoPlace_BadLine ?xv_NotAnOrder_BadLine ?xv_NoPair_BadLine ?xv_NothingToUndo_BadLine ?xv_OutOfRange_BadLine ?xv_NoTurn_BadLine ?xv_BadKind_BadLine ?xv_BadWorth_BadLine ?xv_BadRule_BadLine ?xv_WrongSize_BadLine ?xv_OverpassesError_BadPlace ?xv_BadLine_BadPlace ?xv_BadPlace_BadPlace ?xv_BadPrice_BadPlace ?xv_WrongOrder_BadPlace ?xv_NoLink_BadPlace ?xv_NoPlace_BadPlace ?xv_NotAnOrder_BadPlace ?xv_NoPair_BadPlace ?xv_NothingToUndo_BadPlace ?xv_OutOfRange_BadPlace ?xv_NoTurn_BadPlace ?xv_BadKind_BadPlace ?xv_BadWorth_BadPlace ?xv_BadRule_BadPlace ?xv_WrongSize_BadPlace ?xv_OverpassesError_BadPrice ?xv_BadLine_BadPrice ?xv_BadPlace_BadPrice ?xv_BadPrice_BadPrice ?xv_WrongOrder_BadPrice ?xv_NoLink_BadPrice ?xv_NoPlace_BadPrice ?xv_NotAnOrder_BadPrice ?xv_NoPair_BadPrice ?xv_NothingToUndo_BadPrice ?xv_OutOfRange_BadPrice ?xv_NoTurn_BadPrice ?xv_BadKind_BadPrice ?xv_BadWorth_BadPrice ?xv_BadRule_BadPrice ?xv_WrongSize_BadPrice ?xv_OverpassesError_WrongOrder ?xv_BadLine_WrongOrder ?xv_BadPlace_WrongOrder ?xv_BadPrice_WrongOrder ?xv_WrongOrder_WrongOrder ?xv_NoLink_WrongOrder ?xv_NoPlace_WrongOrder ?xv_NotAnOrder_WrongOrder ?xv_NoPair_WrongOrder ?xv_NothingToUndo_WrongOrder ?xv_OutOfRange_WrongOrder ?xv_NoTurn_WrongOrder ?xv_BadKind_WrongOrder ?xv_BadWorth_WrongOrder ?xv_BadRule_WrongOrder ?xv_WrongSize_WrongOrder ?xv_OverpassesError_NoLink ?xv_BadLine_NoLink ?xv_BadPlace_NoLink ?xv_BadPrice_NoLink ?xv_WrongOrder_NoLink ?xv_NoLink_NoLink ?xv_NoPlace_NoLink ?xv_NotAnOrder_NoLink ?xv_NoPair_NoLink ?xv_NothingToUndo_NoLink ?xv_OutOfRange_NoLink ?xv_NoTurn_NoLink ?xv_BadKind_NoLink ?xv_BadWorth_NoLink ?xv_BadRule_NoLink ?xv_WrongSize_NoLink ?xv_OverpassesError_NoPlace ?xv_BadLine_NoPlace ?xv_BadPlace_NoPlace ?xv_BadPrice_NoPlace ?xv_WrongOrder_NoPlace ?xv_NoLink_NoPlace ?xv_NoPlace_NoPlace ?xv_NotAnOrder_NoPlace ?xv_NoPair_NoPlace ?xv_NothingToUndo_NoPlace ?xv_OutOfRange_NoPlace ?xv_NoTurn_NoPlace ?xv_BadKind_NoPlace ?xv_BadWorth_NoPlace ?xv_BadRule_NoPlace ?xv_WrongSize_NoPlace ?xv_OverpassesError_NotAnOrder ?xv_BadLine_NotAnOrder ?xv_BadPlace_NotAnOrder ?xv_BadPrice_NotAnOrder ?xv_WrongOrder_NotAnOrder ?xv_NoLink_NotAnOrder ?xv_NoPlace_NotAnOrder ?xv_NotAnOrder_NotAnOrder ?xv_NoPair_NotAnOrder ?xv_NothingToUndo_NotAnOrder ?xv_OutOfRange_NotAnOrder ?xv_NoTurn_NotAnOrder ?xv_BadKind_NotAnOrder ?xv_BadWorth_NotAnOrder ?xv_BadRule_NotAnOrder ?xv_WrongSize_NotAnOrder ?xv_OverpassesError_NoPair ?xv_BadLine_NoPair ?xv_BadPlace_NoPair ?xv_BadPrice_NoPair ?xv_WrongOrder_NoPair ?xv_NoLink_NoPair ?xv_NoPlace_NoPair ?xv_NotAnOrder_NoPair ?xv_NoPair_NoPair ?xv_NothingToUndo_NoPair ?xv_OutOfRange_NoPair ?xv_NoTurn_NoPair ?xv_BadKind_NoPair ?xv_BadWorth_NoPair ?xv_BadRule_NoPair ?xv_WrongSize_NoPair ?xv_OverpassesError_NothingToUndo ?xv_BadLine_NothingToUndo ?xv_BadPlace_NothingToUndo ?xv_BadPrice_NothingToUndo ?xv_WrongOrder_NothingToUndo ?xv_NoLink_NothingToUndo ?xv_NoPlace_NothingToUndo ?xv_NotAnOrder_NothingToUndo ?xv_NoPair_NothingToUndo ?xv_NothingToUndo_NothingToUndo ?xv_OutOfRange_NothingToUndo ?xv_NoTurn_NothingToUndo ?xv_BadKind_NothingToUndo ?xv_BadWorth_NothingToUndo ?xv_BadRule_NothingToUndo ?xv_WrongSize_NothingToUndo ?xv_OverpassesError_OutOfRange ?xv_BadLine_OutOfRange ?xv_BadPlace_OutOfRange ?xv_BadPrice_OutOfRange ?xv_WrongOrder_OutOfRange ?xv_NoLink_OutOfRange ?xv_NoPlace_OutOfRange ?xv_NotAnOrder_OutOfRange ?xv_NoPair_OutOfRange ?xv_NothingToUndo_OutOfRange ?xv_OutOfRange_OutOfRange ?xv_NoTurn_OutOfRange ?xv_BadKind_OutOfRange ?xv_BadWorth_OutOfRange ?xv_BadRule_OutOfRange ?xv_WrongSize_OutOfRange ?xv_OverpassesError_NoTurn ?xv_BadLine_NoTurn ?xv_BadPlace_NoTurn ?xv_BadPrice_NoTurn ?xv_WrongOrder_NoTurn ?xv_NoLink_NoTurn ?xv_NoPlace_NoTurn ?xv_NotAnOrder_NoTurn ?xv_NoPair_NoTurn ?xv_NothingToUndo_NoTurn ?xv_OutOfRange_NoTurn ?xv_NoTurn_NoTurn ?xv_BadKind_NoTurn ?xv_BadWorth_NoTurn ?xv_BadRule_NoTurn ?xv_WrongSize_NoTurn ?xv_OverpassesError_BadKind ?xv_BadLine_BadKind ?xv_BadPlace_BadKind ?xv_BadPrice_BadKind ?xv_WrongOrder_BadKind ?xv_NoLink_BadKind ?xv_NoPlace_BadKind ?xv_NotAnOrder_BadKind ?xv_NoPair_BadKind ?xv_NothingToUndo_BadKind ?xv_OutOfRange_BadKind ?xv_NoTurn_BadKind ?xv_BadKind_BadKind ?xv_BadWorth_BadKind ?xv_BadRule_BadKind ?xv_WrongSize_BadKind ?xv_OverpassesError_BadWorth ?xv_BadLine_BadWorth ?xv_BadPlace_BadWorth ?xv_BadPrice_BadWorth ?xv_WrongOrder_BadWorth ?xv_NoLink_BadWorth ?xv_NoPlace_BadWorth ?xv_NotAnOrder_BadWorth ?xv_NoPair_BadWorth ?xv_NothingToUndo_BadWorth ?xv_OutOfRange_BadWorth ?xv_NoTurn_BadWorth ?xv_BadKind_BadWorth ?xv_BadWorth_BadWorth ?xv_BadRule_BadWorth ?xv_WrongSize_BadWorth ?xv_OverpassesError_BadRule ?xv_BadLine_BadRule ?xv_BadPlace_BadRule ?xv_BadPrice_BadRule ?xv_WrongOrder_BadRule ?xv_NoLink_BadRule ?xv_NoPlace_BadRule ?xv_NotAnOrder_BadRule ?xv_NoPair_BadRule ?xv_NothingToUndo_BadRule ?xv_OutOfRange_BadRule ?xv_NoTurn_BadRule ?xv_BadKind_BadRule ?xv_BadWorth_BadRule ?xv_BadRule_BadRule ?xv_WrongSize_BadRule ?xv_OverpassesError_WrongSize ?xv_BadLine_WrongSize ?xv_BadPlace_WrongSize ?xv_BadPrice_WrongSize ?xv_WrongOrder_WrongSize ?xv_NoLink_WrongSize ?xv_NoPlace_WrongSize ?xv_NotAnOrder_WrongSize ?xv_NoPair_WrongSize ?xv_NothingToUndo_WrongSize ?xv_OutOfRange_WrongSize ?xv_NoTurn_WrongSize ?xv_BadKind_WrongSize ?xv_BadWorth_WrongSize ?xv_BadRule_WrongSize ?xv_WrongSize_WrongSize ?xv_OverpassesError_OverpassesError ?xv_BadLine_OverpassesError ?xv_BadPlace_OverpassesError ?xv_BadPrice_OverpassesError ?xv_WrongOrder_OverpassesError ?xv_NoLink_OverpassesError ?xv_NoPlace_OverpassesError ?xv_NotAnOrder_OverpassesError ?xv_NoPair_OverpassesError ?xv_NothingToUndo_OverpassesError ?xv_OutOfRange_OverpassesError ?xv_NoTurn_OverpassesError ?xv_BadKind_OverpassesError ?xv_BadWorth_OverpassesError ?xv_BadRule_OverpassesError ?xv_WrongSize_OverpassesError ?xe_OverpassesError ?xe_BadLine ?xe_BadPlace ?xe_BadPrice ?xe_WrongOrder ?xe_NoLink ?xe_NoPlace ?xe_NotAnOrder ?xe_NoPair ?xe_NothingToUndo ?xe_OutOfRange ?xe_NoTurn ?xe_BadKind ?xe_BadWorth ?xe_BadRule ?xe_WrongSize
    (case a1 => k_is)
    (case l1 => k_is)
    (case c1 => k_is)
    (case k1 => k_is)
    (case a2 => k_is)
    (case l2 => k_is)
    (case c2 => k_is)
    (case k2 => k_is)
    (case a3 => k_is)
    (case l3 => k_is)
    (case c3 => k_is)
    (case k3 => k_is)
    (case a4 => k_is)
    (case l4 => k_is)
    (case c4 => k_is)
    (case k4 => k_is)
    (case z_len => k_is)
    (case z_range => k_is)
    (case z_abs => k_is)
    (case z_int => k_is)
    (case z_min => k_is)
    (case z_max => k_is)
    (case z_list => k_is)
    (case z_isinstance => k_is)
    (case z_bool => k_is)
    (case z_tuple => k_is)
    (case z_sorted => k_is)
    (case z_all => k_is)
    (case z_any => k_is)
    (case z_repr => k_is)
    (case z_dict => k_is)
    (case ca_OverpassesError => k_is)
    (case cl_OverpassesError => k_is)
    (case rv_OverpassesError => first | rfl | decide +kernel)
    (case sa_OverpassesError => k_is)
    (case ga_OverpassesError => k_is)
    (case gg_OverpassesError => k_is)
    (case nb_OverpassesError => k_is)
    (case ii_OverpassesError => k_is)
    (case kc_OverpassesError => k_is)
    (case ec_OverpassesError => k_is)
    (case tc_OverpassesError => k_is)
    (case hc_OverpassesError => k_is)
    (case cc_OverpassesError => k_is)
    (case mo_OverpassesError => k_is)
    (case ca_BadLine => k_is)
    (case cl_BadLine => k_is)
    (case rv_BadLine => first | rfl | decide +kernel)
    (case sa_BadLine => k_is)
    (case ga_BadLine => k_is)
    (case gg_BadLine => k_is)
    (case nb_BadLine => k_is)
    (case ii_BadLine => k_is)
    (case kc_BadLine => k_is)
    (case ec_BadLine => k_is)
    (case tc_BadLine => k_is)
    (case hc_BadLine => k_is)
    (case cc_BadLine => k_is)
    (case mo_BadLine => k_is)
    (case ca_BadPlace => k_is)
    (case cl_BadPlace => k_is)
    (case rv_BadPlace => first | rfl | decide +kernel)
    (case sa_BadPlace => k_is)
    (case ga_BadPlace => k_is)
    (case gg_BadPlace => k_is)
    (case nb_BadPlace => k_is)
    (case ii_BadPlace => k_is)
    (case kc_BadPlace => k_is)
    (case ec_BadPlace => k_is)
    (case tc_BadPlace => k_is)
    (case hc_BadPlace => k_is)
    (case cc_BadPlace => k_is)
    (case mo_BadPlace => k_is)
    (case ca_BadPrice => k_is)
    (case cl_BadPrice => k_is)
    (case rv_BadPrice => first | rfl | decide +kernel)
    (case sa_BadPrice => k_is)
    (case ga_BadPrice => k_is)
    (case gg_BadPrice => k_is)
    (case nb_BadPrice => k_is)
    (case ii_BadPrice => k_is)
    (case kc_BadPrice => k_is)
    (case ec_BadPrice => k_is)
    (case tc_BadPrice => k_is)
    (case hc_BadPrice => k_is)
    (case cc_BadPrice => k_is)
    (case mo_BadPrice => k_is)
    (case ca_WrongOrder => k_is)
    (case cl_WrongOrder => k_is)
    (case rv_WrongOrder => first | rfl | decide +kernel)
    (case sa_WrongOrder => k_is)
    (case ga_WrongOrder => k_is)
    (case gg_WrongOrder => k_is)
    (case nb_WrongOrder => k_is)
    (case ii_WrongOrder => k_is)
    (case kc_WrongOrder => k_is)
    (case ec_WrongOrder => k_is)
    (case tc_WrongOrder => k_is)
    (case hc_WrongOrder => k_is)
    (case cc_WrongOrder => k_is)
    (case mo_WrongOrder => k_is)
    (case ca_NoLink => k_is)
    (case cl_NoLink => k_is)
    (case rv_NoLink => first | rfl | decide +kernel)
    (case sa_NoLink => k_is)
    (case ga_NoLink => k_is)
    (case gg_NoLink => k_is)
    (case nb_NoLink => k_is)
    (case ii_NoLink => k_is)
    (case kc_NoLink => k_is)
    (case ec_NoLink => k_is)
    (case tc_NoLink => k_is)
    (case hc_NoLink => k_is)
    (case cc_NoLink => k_is)
    (case mo_NoLink => k_is)
    (case ca_NoPlace => k_is)
    (case cl_NoPlace => k_is)
    (case rv_NoPlace => first | rfl | decide +kernel)
    (case sa_NoPlace => k_is)
    (case ga_NoPlace => k_is)
    (case gg_NoPlace => k_is)
    (case nb_NoPlace => k_is)
    (case ii_NoPlace => k_is)
    (case kc_NoPlace => k_is)
    (case ec_NoPlace => k_is)
    (case tc_NoPlace => k_is)
    (case hc_NoPlace => k_is)
    (case cc_NoPlace => k_is)
    (case mo_NoPlace => k_is)
    (case ca_NotAnOrder => k_is)
    (case cl_NotAnOrder => k_is)
    (case rv_NotAnOrder => first | rfl | decide +kernel)
    (case sa_NotAnOrder => k_is)
    (case ga_NotAnOrder => k_is)
    (case gg_NotAnOrder => k_is)
    (case nb_NotAnOrder => k_is)
    (case ii_NotAnOrder => k_is)
    (case kc_NotAnOrder => k_is)
    (case ec_NotAnOrder => k_is)
    (case tc_NotAnOrder => k_is)
    (case hc_NotAnOrder => k_is)
    (case cc_NotAnOrder => k_is)
    (case mo_NotAnOrder => k_is)
    (case ca_NoPair => k_is)
    (case cl_NoPair => k_is)
    (case rv_NoPair => first | rfl | decide +kernel)
    (case sa_NoPair => k_is)
    (case ga_NoPair => k_is)
    (case gg_NoPair => k_is)
    (case nb_NoPair => k_is)
    (case ii_NoPair => k_is)
    (case kc_NoPair => k_is)
    (case ec_NoPair => k_is)
    (case tc_NoPair => k_is)
    (case hc_NoPair => k_is)
    (case cc_NoPair => k_is)
    (case mo_NoPair => k_is)
    (case ca_NothingToUndo => k_is)
    (case cl_NothingToUndo => k_is)
    (case rv_NothingToUndo => first | rfl | decide +kernel)
    (case sa_NothingToUndo => k_is)
    (case ga_NothingToUndo => k_is)
    (case gg_NothingToUndo => k_is)
    (case nb_NothingToUndo => k_is)
    (case ii_NothingToUndo => k_is)
    (case kc_NothingToUndo => k_is)
    (case ec_NothingToUndo => k_is)
    (case tc_NothingToUndo => k_is)
    (case hc_NothingToUndo => k_is)
    (case cc_NothingToUndo => k_is)
    (case mo_NothingToUndo => k_is)
    (case ca_OutOfRange => k_is)
    (case cl_OutOfRange => k_is)
    (case rv_OutOfRange => first | rfl | decide +kernel)
    (case sa_OutOfRange => k_is)
    (case ga_OutOfRange => k_is)
    (case gg_OutOfRange => k_is)
    (case nb_OutOfRange => k_is)
    (case ii_OutOfRange => k_is)
    (case kc_OutOfRange => k_is)
    (case ec_OutOfRange => k_is)
    (case tc_OutOfRange => k_is)
    (case hc_OutOfRange => k_is)
    (case cc_OutOfRange => k_is)
    (case mo_OutOfRange => k_is)
    (case ca_NoTurn => k_is)
    (case cl_NoTurn => k_is)
    (case rv_NoTurn => first | rfl | decide +kernel)
    (case sa_NoTurn => k_is)
    (case ga_NoTurn => k_is)
    (case gg_NoTurn => k_is)
    (case nb_NoTurn => k_is)
    (case ii_NoTurn => k_is)
    (case kc_NoTurn => k_is)
    (case ec_NoTurn => k_is)
    (case tc_NoTurn => k_is)
    (case hc_NoTurn => k_is)
    (case cc_NoTurn => k_is)
    (case mo_NoTurn => k_is)
    (case ca_BadKind => k_is)
    (case cl_BadKind => k_is)
    (case rv_BadKind => first | rfl | decide +kernel)
    (case sa_BadKind => k_is)
    (case ga_BadKind => k_is)
    (case gg_BadKind => k_is)
    (case nb_BadKind => k_is)
    (case ii_BadKind => k_is)
    (case kc_BadKind => k_is)
    (case ec_BadKind => k_is)
    (case tc_BadKind => k_is)
    (case hc_BadKind => k_is)
    (case cc_BadKind => k_is)
    (case mo_BadKind => k_is)
    (case ca_BadWorth => k_is)
    (case cl_BadWorth => k_is)
    (case rv_BadWorth => first | rfl | decide +kernel)
    (case sa_BadWorth => k_is)
    (case ga_BadWorth => k_is)
    (case gg_BadWorth => k_is)
    (case nb_BadWorth => k_is)
    (case ii_BadWorth => k_is)
    (case kc_BadWorth => k_is)
    (case ec_BadWorth => k_is)
    (case tc_BadWorth => k_is)
    (case hc_BadWorth => k_is)
    (case cc_BadWorth => k_is)
    (case mo_BadWorth => k_is)
    (case ca_BadRule => k_is)
    (case cl_BadRule => k_is)
    (case rv_BadRule => first | rfl | decide +kernel)
    (case sa_BadRule => k_is)
    (case ga_BadRule => k_is)
    (case gg_BadRule => k_is)
    (case nb_BadRule => k_is)
    (case ii_BadRule => k_is)
    (case kc_BadRule => k_is)
    (case ec_BadRule => k_is)
    (case tc_BadRule => k_is)
    (case hc_BadRule => k_is)
    (case cc_BadRule => k_is)
    (case mo_BadRule => k_is)
    (case ca_WrongSize => k_is)
    (case cl_WrongSize => k_is)
    (case rv_WrongSize => first | rfl | decide +kernel)
    (case sa_WrongSize => k_is)
    (case ga_WrongSize => k_is)
    (case gg_WrongSize => k_is)
    (case nb_WrongSize => k_is)
    (case ii_WrongSize => k_is)
    (case kc_WrongSize => k_is)
    (case ec_WrongSize => k_is)
    (case tc_WrongSize => k_is)
    (case hc_WrongSize => k_is)
    (case cc_WrongSize => k_is)
    (case mo_WrongSize => k_is)
    (case ti_ => k_is)
    (case li_ => k_is)
    (case ci_ => k_is)
    (case ki_ => k_is)
    (case vi_ => first | rfl | k_is)
    (case zv_ => k_is)
    (case hn_ => first | rfl | k_is)
    (case ht_ => first | rfl | k_is)
    (case xv_OverpassesError_BadLine => first | rfl | k_is)
    (case xv_BadLine_BadLine => first | rfl | k_is)
    (case xv_BadPlace_BadLine => first | rfl | k_is)
    (case xv_BadPrice_BadLine => first | rfl | k_is)
    (case xv_WrongOrder_BadLine => first | rfl | k_is)
    (case xv_NoLink_BadLine => first | rfl | k_is)
    (case xv_NoPlace_BadLine => first | rfl | k_is)
    (case xv_NotAnOrder_BadLine => first | rfl | k_is)
    (case xv_NoPair_BadLine => first | rfl | k_is)
    (case xv_NothingToUndo_BadLine => first | rfl | k_is)
    (case xv_OutOfRange_BadLine => first | rfl | k_is)
    (case xv_NoTurn_BadLine => first | rfl | k_is)
    (case xv_BadKind_BadLine => first | rfl | k_is)
    (case xv_BadWorth_BadLine => first | rfl | k_is)
    (case xv_BadRule_BadLine => first | rfl | k_is)
    (case xv_WrongSize_BadLine => first | rfl | k_is)
    (case xv_OverpassesError_BadPlace => first | rfl | k_is)
    (case xv_BadLine_BadPlace => first | rfl | k_is)
    (case xv_BadPlace_BadPlace => first | rfl | k_is)
    (case xv_BadPrice_BadPlace => first | rfl | k_is)
    (case xv_WrongOrder_BadPlace => first | rfl | k_is)
    (case xv_NoLink_BadPlace => first | rfl | k_is)
    (case xv_NoPlace_BadPlace => first | rfl | k_is)
    (case xv_NotAnOrder_BadPlace => first | rfl | k_is)
    (case xv_NoPair_BadPlace => first | rfl | k_is)
    (case xv_NothingToUndo_BadPlace => first | rfl | k_is)
    (case xv_OutOfRange_BadPlace => first | rfl | k_is)
    (case xv_NoTurn_BadPlace => first | rfl | k_is)
    (case xv_BadKind_BadPlace => first | rfl | k_is)
    (case xv_BadWorth_BadPlace => first | rfl | k_is)
    (case xv_BadRule_BadPlace => first | rfl | k_is)
    (case xv_WrongSize_BadPlace => first | rfl | k_is)
    (case xv_OverpassesError_BadPrice => first | rfl | k_is)
    (case xv_BadLine_BadPrice => first | rfl | k_is)
    (case xv_BadPlace_BadPrice => first | rfl | k_is)
    (case xv_BadPrice_BadPrice => first | rfl | k_is)
    (case xv_WrongOrder_BadPrice => first | rfl | k_is)
    (case xv_NoLink_BadPrice => first | rfl | k_is)
    (case xv_NoPlace_BadPrice => first | rfl | k_is)
    (case xv_NotAnOrder_BadPrice => first | rfl | k_is)
    (case xv_NoPair_BadPrice => first | rfl | k_is)
    (case xv_NothingToUndo_BadPrice => first | rfl | k_is)
    (case xv_OutOfRange_BadPrice => first | rfl | k_is)
    (case xv_NoTurn_BadPrice => first | rfl | k_is)
    (case xv_BadKind_BadPrice => first | rfl | k_is)
    (case xv_BadWorth_BadPrice => first | rfl | k_is)
    (case xv_BadRule_BadPrice => first | rfl | k_is)
    (case xv_WrongSize_BadPrice => first | rfl | k_is)
    (case xv_OverpassesError_WrongOrder => first | rfl | k_is)
    (case xv_BadLine_WrongOrder => first | rfl | k_is)
    (case xv_BadPlace_WrongOrder => first | rfl | k_is)
    (case xv_BadPrice_WrongOrder => first | rfl | k_is)
    (case xv_WrongOrder_WrongOrder => first | rfl | k_is)
    (case xv_NoLink_WrongOrder => first | rfl | k_is)
    (case xv_NoPlace_WrongOrder => first | rfl | k_is)
    (case xv_NotAnOrder_WrongOrder => first | rfl | k_is)
    (case xv_NoPair_WrongOrder => first | rfl | k_is)
    (case xv_NothingToUndo_WrongOrder => first | rfl | k_is)
    (case xv_OutOfRange_WrongOrder => first | rfl | k_is)
    (case xv_NoTurn_WrongOrder => first | rfl | k_is)
    (case xv_BadKind_WrongOrder => first | rfl | k_is)
    (case xv_BadWorth_WrongOrder => first | rfl | k_is)
    (case xv_BadRule_WrongOrder => first | rfl | k_is)
    (case xv_WrongSize_WrongOrder => first | rfl | k_is)
    (case xv_OverpassesError_NoLink => first | rfl | k_is)
    (case xv_BadLine_NoLink => first | rfl | k_is)
    (case xv_BadPlace_NoLink => first | rfl | k_is)
    (case xv_BadPrice_NoLink => first | rfl | k_is)
    (case xv_WrongOrder_NoLink => first | rfl | k_is)
    (case xv_NoLink_NoLink => first | rfl | k_is)
    (case xv_NoPlace_NoLink => first | rfl | k_is)
    (case xv_NotAnOrder_NoLink => first | rfl | k_is)
    (case xv_NoPair_NoLink => first | rfl | k_is)
    (case xv_NothingToUndo_NoLink => first | rfl | k_is)
    (case xv_OutOfRange_NoLink => first | rfl | k_is)
    (case xv_NoTurn_NoLink => first | rfl | k_is)
    (case xv_BadKind_NoLink => first | rfl | k_is)
    (case xv_BadWorth_NoLink => first | rfl | k_is)
    (case xv_BadRule_NoLink => first | rfl | k_is)
    (case xv_WrongSize_NoLink => first | rfl | k_is)
    (case xv_OverpassesError_NoPlace => first | rfl | k_is)
    (case xv_BadLine_NoPlace => first | rfl | k_is)
    (case xv_BadPlace_NoPlace => first | rfl | k_is)
    (case xv_BadPrice_NoPlace => first | rfl | k_is)
    (case xv_WrongOrder_NoPlace => first | rfl | k_is)
    (case xv_NoLink_NoPlace => first | rfl | k_is)
    (case xv_NoPlace_NoPlace => first | rfl | k_is)
    (case xv_NotAnOrder_NoPlace => first | rfl | k_is)
    (case xv_NoPair_NoPlace => first | rfl | k_is)
    (case xv_NothingToUndo_NoPlace => first | rfl | k_is)
    (case xv_OutOfRange_NoPlace => first | rfl | k_is)
    (case xv_NoTurn_NoPlace => first | rfl | k_is)
    (case xv_BadKind_NoPlace => first | rfl | k_is)
    (case xv_BadWorth_NoPlace => first | rfl | k_is)
    (case xv_BadRule_NoPlace => first | rfl | k_is)
    (case xv_WrongSize_NoPlace => first | rfl | k_is)
    (case xv_OverpassesError_NotAnOrder => first | rfl | k_is)
    (case xv_BadLine_NotAnOrder => first | rfl | k_is)
    (case xv_BadPlace_NotAnOrder => first | rfl | k_is)
    (case xv_BadPrice_NotAnOrder => first | rfl | k_is)
    (case xv_WrongOrder_NotAnOrder => first | rfl | k_is)
    (case xv_NoLink_NotAnOrder => first | rfl | k_is)
    (case xv_NoPlace_NotAnOrder => first | rfl | k_is)
    (case xv_NotAnOrder_NotAnOrder => first | rfl | k_is)
    (case xv_NoPair_NotAnOrder => first | rfl | k_is)
    (case xv_NothingToUndo_NotAnOrder => first | rfl | k_is)
    (case xv_OutOfRange_NotAnOrder => first | rfl | k_is)
    (case xv_NoTurn_NotAnOrder => first | rfl | k_is)
    (case xv_BadKind_NotAnOrder => first | rfl | k_is)
    (case xv_BadWorth_NotAnOrder => first | rfl | k_is)
    (case xv_BadRule_NotAnOrder => first | rfl | k_is)
    (case xv_WrongSize_NotAnOrder => first | rfl | k_is)
    (case xv_OverpassesError_NoPair => first | rfl | k_is)
    (case xv_BadLine_NoPair => first | rfl | k_is)
    (case xv_BadPlace_NoPair => first | rfl | k_is)
    (case xv_BadPrice_NoPair => first | rfl | k_is)
    (case xv_WrongOrder_NoPair => first | rfl | k_is)
    (case xv_NoLink_NoPair => first | rfl | k_is)
    (case xv_NoPlace_NoPair => first | rfl | k_is)
    (case xv_NotAnOrder_NoPair => first | rfl | k_is)
    (case xv_NoPair_NoPair => first | rfl | k_is)
    (case xv_NothingToUndo_NoPair => first | rfl | k_is)
    (case xv_OutOfRange_NoPair => first | rfl | k_is)
    (case xv_NoTurn_NoPair => first | rfl | k_is)
    (case xv_BadKind_NoPair => first | rfl | k_is)
    (case xv_BadWorth_NoPair => first | rfl | k_is)
    (case xv_BadRule_NoPair => first | rfl | k_is)
    (case xv_WrongSize_NoPair => first | rfl | k_is)
    (case xv_OverpassesError_NothingToUndo => first | rfl | k_is)
    (case xv_BadLine_NothingToUndo => first | rfl | k_is)
    (case xv_BadPlace_NothingToUndo => first | rfl | k_is)
    (case xv_BadPrice_NothingToUndo => first | rfl | k_is)
    (case xv_WrongOrder_NothingToUndo => first | rfl | k_is)
    (case xv_NoLink_NothingToUndo => first | rfl | k_is)
    (case xv_NoPlace_NothingToUndo => first | rfl | k_is)
    (case xv_NotAnOrder_NothingToUndo => first | rfl | k_is)
    (case xv_NoPair_NothingToUndo => first | rfl | k_is)
    (case xv_NothingToUndo_NothingToUndo => first | rfl | k_is)
    (case xv_OutOfRange_NothingToUndo => first | rfl | k_is)
    (case xv_NoTurn_NothingToUndo => first | rfl | k_is)
    (case xv_BadKind_NothingToUndo => first | rfl | k_is)
    (case xv_BadWorth_NothingToUndo => first | rfl | k_is)
    (case xv_BadRule_NothingToUndo => first | rfl | k_is)
    (case xv_WrongSize_NothingToUndo => first | rfl | k_is)
    (case xv_OverpassesError_OutOfRange => first | rfl | k_is)
    (case xv_BadLine_OutOfRange => first | rfl | k_is)
    (case xv_BadPlace_OutOfRange => first | rfl | k_is)
    (case xv_BadPrice_OutOfRange => first | rfl | k_is)
    (case xv_WrongOrder_OutOfRange => first | rfl | k_is)
    (case xv_NoLink_OutOfRange => first | rfl | k_is)
    (case xv_NoPlace_OutOfRange => first | rfl | k_is)
    (case xv_NotAnOrder_OutOfRange => first | rfl | k_is)
    (case xv_NoPair_OutOfRange => first | rfl | k_is)
    (case xv_NothingToUndo_OutOfRange => first | rfl | k_is)
    (case xv_OutOfRange_OutOfRange => first | rfl | k_is)
    (case xv_NoTurn_OutOfRange => first | rfl | k_is)
    (case xv_BadKind_OutOfRange => first | rfl | k_is)
    (case xv_BadWorth_OutOfRange => first | rfl | k_is)
    (case xv_BadRule_OutOfRange => first | rfl | k_is)
    (case xv_WrongSize_OutOfRange => first | rfl | k_is)
    (case xv_OverpassesError_NoTurn => first | rfl | k_is)
    (case xv_BadLine_NoTurn => first | rfl | k_is)
    (case xv_BadPlace_NoTurn => first | rfl | k_is)
    (case xv_BadPrice_NoTurn => first | rfl | k_is)
    (case xv_WrongOrder_NoTurn => first | rfl | k_is)
    (case xv_NoLink_NoTurn => first | rfl | k_is)
    (case xv_NoPlace_NoTurn => first | rfl | k_is)
    (case xv_NotAnOrder_NoTurn => first | rfl | k_is)
    (case xv_NoPair_NoTurn => first | rfl | k_is)
    (case xv_NothingToUndo_NoTurn => first | rfl | k_is)
    (case xv_OutOfRange_NoTurn => first | rfl | k_is)
    (case xv_NoTurn_NoTurn => first | rfl | k_is)
    (case xv_BadKind_NoTurn => first | rfl | k_is)
    (case xv_BadWorth_NoTurn => first | rfl | k_is)
    (case xv_BadRule_NoTurn => first | rfl | k_is)
    (case xv_WrongSize_NoTurn => first | rfl | k_is)
    (case xv_OverpassesError_BadKind => first | rfl | k_is)
    (case xv_BadLine_BadKind => first | rfl | k_is)
    (case xv_BadPlace_BadKind => first | rfl | k_is)
    (case xv_BadPrice_BadKind => first | rfl | k_is)
    (case xv_WrongOrder_BadKind => first | rfl | k_is)
    (case xv_NoLink_BadKind => first | rfl | k_is)
    (case xv_NoPlace_BadKind => first | rfl | k_is)
    (case xv_NotAnOrder_BadKind => first | rfl | k_is)
    (case xv_NoPair_BadKind => first | rfl | k_is)
    (case xv_NothingToUndo_BadKind => first | rfl | k_is)
    (case xv_OutOfRange_BadKind => first | rfl | k_is)
    (case xv_NoTurn_BadKind => first | rfl | k_is)
    (case xv_BadKind_BadKind => first | rfl | k_is)
    (case xv_BadWorth_BadKind => first | rfl | k_is)
    (case xv_BadRule_BadKind => first | rfl | k_is)
    (case xv_WrongSize_BadKind => first | rfl | k_is)
    (case xv_OverpassesError_BadWorth => first | rfl | k_is)
    (case xv_BadLine_BadWorth => first | rfl | k_is)
    (case xv_BadPlace_BadWorth => first | rfl | k_is)
    (case xv_BadPrice_BadWorth => first | rfl | k_is)
    (case xv_WrongOrder_BadWorth => first | rfl | k_is)
    (case xv_NoLink_BadWorth => first | rfl | k_is)
    (case xv_NoPlace_BadWorth => first | rfl | k_is)
    (case xv_NotAnOrder_BadWorth => first | rfl | k_is)
    (case xv_NoPair_BadWorth => first | rfl | k_is)
    (case xv_NothingToUndo_BadWorth => first | rfl | k_is)
    (case xv_OutOfRange_BadWorth => first | rfl | k_is)
    (case xv_NoTurn_BadWorth => first | rfl | k_is)
    (case xv_BadKind_BadWorth => first | rfl | k_is)
    (case xv_BadWorth_BadWorth => first | rfl | k_is)
    (case xv_BadRule_BadWorth => first | rfl | k_is)
    (case xv_WrongSize_BadWorth => first | rfl | k_is)
    (case xv_OverpassesError_BadRule => first | rfl | k_is)
    (case xv_BadLine_BadRule => first | rfl | k_is)
    (case xv_BadPlace_BadRule => first | rfl | k_is)
    (case xv_BadPrice_BadRule => first | rfl | k_is)
    (case xv_WrongOrder_BadRule => first | rfl | k_is)
    (case xv_NoLink_BadRule => first | rfl | k_is)
    (case xv_NoPlace_BadRule => first | rfl | k_is)
    (case xv_NotAnOrder_BadRule => first | rfl | k_is)
    (case xv_NoPair_BadRule => first | rfl | k_is)
    (case xv_NothingToUndo_BadRule => first | rfl | k_is)
    (case xv_OutOfRange_BadRule => first | rfl | k_is)
    (case xv_NoTurn_BadRule => first | rfl | k_is)
    (case xv_BadKind_BadRule => first | rfl | k_is)
    (case xv_BadWorth_BadRule => first | rfl | k_is)
    (case xv_BadRule_BadRule => first | rfl | k_is)
    (case xv_WrongSize_BadRule => first | rfl | k_is)
    (case xv_OverpassesError_WrongSize => first | rfl | k_is)
    (case xv_BadLine_WrongSize => first | rfl | k_is)
    (case xv_BadPlace_WrongSize => first | rfl | k_is)
    (case xv_BadPrice_WrongSize => first | rfl | k_is)
    (case xv_WrongOrder_WrongSize => first | rfl | k_is)
    (case xv_NoLink_WrongSize => first | rfl | k_is)
    (case xv_NoPlace_WrongSize => first | rfl | k_is)
    (case xv_NotAnOrder_WrongSize => first | rfl | k_is)
    (case xv_NoPair_WrongSize => first | rfl | k_is)
    (case xv_NothingToUndo_WrongSize => first | rfl | k_is)
    (case xv_OutOfRange_WrongSize => first | rfl | k_is)
    (case xv_NoTurn_WrongSize => first | rfl | k_is)
    (case xv_BadKind_WrongSize => first | rfl | k_is)
    (case xv_BadWorth_WrongSize => first | rfl | k_is)
    (case xv_BadRule_WrongSize => first | rfl | k_is)
    (case xv_WrongSize_WrongSize => first | rfl | k_is)
    (case xv_OverpassesError_OverpassesError => first | rfl | k_is)
    (case xv_BadLine_OverpassesError => first | rfl | k_is)
    (case xv_BadPlace_OverpassesError => first | rfl | k_is)
    (case xv_BadPrice_OverpassesError => first | rfl | k_is)
    (case xv_WrongOrder_OverpassesError => first | rfl | k_is)
    (case xv_NoLink_OverpassesError => first | rfl | k_is)
    (case xv_NoPlace_OverpassesError => first | rfl | k_is)
    (case xv_NotAnOrder_OverpassesError => first | rfl | k_is)
    (case xv_NoPair_OverpassesError => first | rfl | k_is)
    (case xv_NothingToUndo_OverpassesError => first | rfl | k_is)
    (case xv_OutOfRange_OverpassesError => first | rfl | k_is)
    (case xv_NoTurn_OverpassesError => first | rfl | k_is)
    (case xv_BadKind_OverpassesError => first | rfl | k_is)
    (case xv_BadWorth_OverpassesError => first | rfl | k_is)
    (case xv_BadRule_OverpassesError => first | rfl | k_is)
    (case xv_WrongSize_OverpassesError => first | rfl | k_is)
    (case xe_OverpassesError => first | rfl | k_is)
    (case xe_BadLine => first | rfl | k_is)
    (case xe_BadPlace => first | rfl | k_is)
    (case xe_BadPrice => first | rfl | k_is)
    (case xe_WrongOrder => first | rfl | k_is)
    (case xe_NoLink => first | rfl | k_is)
    (case xe_NoPlace => first | rfl | k_is)
    (case xe_NotAnOrder => first | rfl | k_is)
    (case xe_NoPair => first | rfl | k_is)
    (case xe_NothingToUndo => first | rfl | k_is)
    (case xe_OutOfRange => first | rfl | k_is)
    (case xe_NoTurn => first | rfl | k_is)
    (case xe_BadKind => first | rfl | k_is)
    (case xe_BadWorth => first | rfl | k_is)
    (case xe_BadRule => first | rfl | k_is)
    (case xe_WrongSize => first | rfl | k_is)
end
