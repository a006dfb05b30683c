import PyProof.Rows.All
import Wide.All
import OpenK.AllK
import Wide.FinOn
import KE.KStateDown
import HandS.ForMost
import HandS.Defaults
import HandS.Walk
import HandS.Head0
import HandS.Head1
import HandS.Head2
import HandS.HeadEnd
import HandS.HeadHook1
import HandS.HeadHook2
import HandS.Deep
import HandS.IsInst
import HandS.Conv
import HandS.Wide
import HandS.DictComp
import HandS.DictTup
import HandS.SetKeys
import HandS.TupAny
import HandS.Zip
import KE.GoesEnum
import KE.KDictWalk
import PyProof.ReprRoads
import KE.SortData
import HandS.Words
import HandS.WideBits
import KE.KDictDisplayH
import HandS.TupSets
import PyProof.NeData
import HandS.SortKw
import HandS.ExcValue
import PyProof.TupleOfSeq
import HandS.OwnEq
import PyProof.EnumMake
import HandS.Style
import PyProof.ReprLen
import HandS.WordsExc
import PySem.Challenge.RW_packedseats_k84_shelves_parted
set_option Elab.async false
set_option linter.all false
set_option maxRecDepth 100000
set_option maxHeartbeats 0
namespace Pk
open PySem PySem.Spec PyProof.Rows L2

/-! ### promises that are kept where no display is under way (repr) -/
structure FnG (P : Program) (w : World) (K : PySem.W.Frag) (mg : Str → Option Value) (base : Heap) (CX : CXT) (lvl : Nat) (g : Addr) (gd : FuncData) (nms : List Str) (pr : Sp) : Prop where
  sized : ∀ xs H R Z, pr xs H R Z → xs.length = nms.length
  goes : ∀ (B : Around) (fr : List Env) (t : Shared) (H : Hp) (ar : Args) (ws : List Value) (xs : List V) (R : VK) (Z : XK), Room lvl B → B.guards = some [] →
    Env0 P w K mg base B fr t H → BindsTo t gd ar (nms.zip ws) → Vals xs ws → pr xs H R Z → codeAny (model P w) B (.call (.ref g) ar) (CR CX fr P w H t R Z) t

section
variable {P : Program} {w : World} {K : PySem.W.Frag} {mg : Str → Option Value} {base : Heap} {CX : CXT} {lvl : Nat} {g : Addr} {gd : FuncData} {nms : List Str} {pr : Sp}
theorem FnG.of (F : FnOk P w K mg base CX lvl g gd nms pr) : FnG P w K mg base CX lvl g gd nms pr :=
  ⟨F.len, fun B fr t H ar ws xs R Z r _ => F.run B fr t H ar ws xs R Z r⟩
theorem FnG.mono {j : Nat} (F : FnG P w K mg base CX j g gd nms pr) (h : j ≤ lvl) : FnG P w K mg base CX lvl g gd nms pr :=
  ⟨F.sized, fun B fr t H ar ws xs R Z r => F.goes B fr t H ar ws xs R Z (r.mono h)⟩

theorem guards_deeper (B : Around) (e : Env) : (B.deeper e).guards = B.guards := rfl

/-- a def by its body, the guards told -/
theorem fdG {x qual : Str} {params : Arguments} {body : List Stmt} {scope : Scope} {dvs : List V} {kws : List (Str × V)} {N : List Str} (F : FunD K x qual params body scope dvs kws g gd) (S : FnScope N nms scope)
    (sz : ∀ xs H R Z, pr xs H R Z → xs.length = nms.length)
    (bd : ∀ (cd : Value) (B : Around) (fr : List Env) (t : Shared) (H : Hp) (xs : List V) (R : VK) (Z : XK), Room lvl (B.deeper (envOfC qual scope t.heap.objs.size g cd)) → B.guards = some [] → pr xs H R Z →
      ∃ rd, PSs (cxOf CX P w K mg base N qual scope g cd B fr t H Z) body rd ∧ rd { nx := fun _ H' => R .non H', rt := R } (start N xs) H) : FnG P w K mg base CX (lvl + 1) g gd nms pr := by
  obtain ⟨oc, od, dV, kV, doc, pm, an, cd, ct, osl, rfl, at_, code, -, -⟩ := F.ex
  constructor
  · exact sz
  intro B fr t H ar ws xs R Z room gu e0 bnd vals hp
  have n0 := sz _ _ _ _ hp
  have old : ∀ b o, base.get? b = some o → t.heap.get? b = some o := fun b o q => (e0.bs b o q).1
  have inK : K.In t.heap := e0.mod.kin.keeps old
  have nolim := e0.mod.nolimit.keeps old
  have kinds : ∀ y ∈ nms.zip ws, scope.names.lookup y.1 = some .local ∨ (scope.names.lookup y.1 = some .cell ∧ ((cellsFrom (t.heap.objs.size + 1) scope.names []).lookup y.1).isSome = true) := by
    intro y hy
    cases S.par y.1 (List.of_mem_zip (a := y.1) (b := y.2) hy).1 with
    | inl q => exact Or.inl q
    | inr q => exact Or.inr ⟨q, PySem.W.cellsFrom_some _ _ _ (Or.inl q)⟩
  apply codeAny_call_function room.depth (inK _ _ at_) rfl S.co S.gen rfl (PySem.W.codeRec_of inK code)
  apply bnd
  apply wpAny_newFunctionEnv_cells S.kind kinds
  intro env ee s1 made
  subst ee
  refine ⟨nolim.keeps made.toInCall.keep, codeAny_func ?_⟩
  obtain ⟨rd, hrd, ho⟩ := bd cd B fr t H xs R Z (room.deeper _) gu hp
  have I0 := inv_start (CX := CX) (E := Z) S room.hd e0 n0 vals made
  apply wpAny_mono (hrd.run [] s1 (start N xs) H _ I0 ho)
  · intro fl s' hs
    match fl, hs with
    | .ret u, ⟨v, σ', H', J, rv, q⟩ => exact ⟨v, H', J.os, J.bare, J.base, J.hok, rv, q⟩
    | .next, ⟨σ', H', J, q⟩ => exact ⟨V.non, H', J.os, J.bare, J.base, J.hok, (rfl : Value.none = Value.none), q⟩
    | .brk, ⟨_, _, _, q⟩ => exact q.elim
    | .cont, ⟨_, _, _, q⟩ => exact q.elim
  · exact fun _ _ hs => hs
end

section
variable {X : Cx} {CX : CXT} {lvl : Nat} {g : Addr} {gd : FuncData} {nms : List Str} {pr : Sp} {E : XK} {x : Str} {p pos : Pos} {e : Expr} {es : List Expr} {ta : TA}
theorem runG {pins : List (Addr × Obj)} {σ : L2.St} {H : Hp} {t : Shared} {R : VK} {ws : List Value} {xs : List V} (F : FnG X.prog X.w X.K X.mg X.base CX lvl g gd nms pr) (room : Room lvl X.A) (gu : X.A.guards = some [])
    (hb : Binds X.K gd nms []) (hx : Passes CX X E) (I : Inv X pins σ H t) (r : Vals xs ws) (h : pr xs H R E) : wpAny (model X.prog X.w) X.A (call (.ref g) ws) (EP X pins σ R) X.xe t := by
  have n1 : ws.length = nms.length := r.length ▸ F.sized _ _ _ _ h
  have b1 := hb t ws I.kIn (by simpa using n1)
  rw [List.append_nil] at b1
  apply wpAny_call
  apply codeAny_mono (F.goes X.A X.stack t H ⟨ws, []⟩ ws xs R E room gu I.env0 b1 r h)
  intro res s' hq
  match res, hq with
  | .error e, hq => exact hx pins σ H t e s' I hq
  | .ok (.ret u), hq => exact I.after hq
  | .ok .next, hq => exact False.elim hq
  | .ok .brk, hq => exact False.elim hq
  | .ok .cont, hq => exact False.elim hq
theorem pe_callG (F : FnG X.prog X.w X.K X.mg X.base CX lvl g gd nms pr) (room : Room lvl X.A) (gu : X.A.guards = some []) (hg : Gl X x) (hm : X.mg x = some (.ref g)) (hk : PySem.W.keepIn X.K (.ref g) = true) (hb : Binds X.K gd nms [])
    (hx : Passes CX X E) (ha : PA X (e :: es) ta) (d1 : (x == ("__debug__" : Str)) = false := by decide) (d2 : starEach (e :: es) X.env = (false, eval e X.env) :: starEach es X.env := by rfl)
    (d3 : (backTo pos (starEach es X.env)).any (·.1) = false := by rfl) : PE X (.Call (.Name x p) (e :: es) [] pos) (tCall pr [] E ta) := by
  constructor
  intro pins t σ H R I h
  apply wpAny_Call_Name_kw
  apply ld_glob I hg hm _ d1
  apply PySem.W.callWith_K (h₀ := X.base) I.ok.mod.kin hk _ d2 d3
  apply thn (ha.run pos pins t σ H _ I h)
  rintro us s1 ⟨vs, H1, I1, r, q⟩
  rw [List.append_nil] at q
  exact ⟨I1.kIn, runG F room gu hb hx I1 r q⟩
end

/-! ### the law's end over such a promise -/
theorem lawG {P : Program} {w : World} {K : PySem.W.Frag} {mg mb : Str → Option Value} {CX : CXT} {lvl : Nat} {fa a : Addr} {fd : FuncData} {x : Str} {pr : Sp} {t : Shared} {vs : List Value} {ns : List Int}
    (KX : K.In t.heap) (hns : t.heap.Ns mainGlobals mg) (hb : t.heap.Ns builtinsNs mb) (hbb : ∀ x : Str, x ≠ "__name__" → mb x = bootBuiltins x) (hlim : t.heap.NoLimit) (hg : t.gens = #[])
    (ha : t.heap.get? a = some { cls := .type "list", data := .seq vs.toArray }) (hi : IntsAre vs ns) (hl : ns.length ≤ sizeLine) (hr : Room lvl callerA)
    (F : ∀ base : Heap, K.In base → base.Ns mainGlobals mg → FnG P w K mg base CX lvl fa fd [x] pr) (hbind : ∀ (s : Shared) (u : Value), BindsTo s fd ⟨[u], []⟩ [(x, u)])
    (hsp : ∀ H : Hp, Only H → SqL K H a (ns.map V.int) → pr [.ref a] H (fun v _ => v = .bl true) fun _ _ _ => False)
    (hCX : ∀ H e s', CX [] H t (fun _ _ _ => False) e s' → False) :
    codeAny (model P w) callerA (.call (.ref fa) ⟨[.ref a], []⟩) (fun r s' => r = .ok (.ret (.bool true)) ∧ OldK t.heap s'.heap ∧ s'.os = t.os ∧ AllBare s'.gens) t := by
  have vr := vals_ints hi
  have nv := hi.length
  suffices main : ∀ H : Hp, Only H → SqL K H a (ns.map V.int) → HOk P w H t.heap → (∀ b, H b ≠ none → b = a) → (H a ≠ none → K.lookup a = none) →
      codeAny (model P w) callerA (.call (.ref fa) ⟨[.ref a], []⟩) (fun r s' => r = .ok (.ret (.bool true)) ∧ OldK t.heap s'.heap ∧ s'.os = t.os ∧ AllBare s'.gens) t by
    by_cases hk : K.lookup a = none
    · let ob : Obj := { cls := .type "list", data := .seq vs.toArray }
      let H0 : Hp := fun b => if b = a then some (.frz ob (.lst (ns.map V.int))) else none
      have at0 : H0 a = some (.frz ob (.lst (ns.map V.int))) := if_pos rfl
      have off : ∀ b, b ≠ a → H0 b = none := fun b hb => if_neg hb
      apply main H0
      · intro b
        by_cases hb : b = a
        · subst hb
          exact Or.inr ⟨_, _, at0⟩
        · exact Or.inl (off b hb)
      · exact Or.inl (Or.inr ⟨ob, at0⟩)
      · intro b u hu
        by_cases hb : b = a
        · subst hb
          rw [at0] at hu
          cases hu
          exact ⟨ha, by rw [List.length_map]; exact hl, vs, _, vr, ha⟩
        · rw [off b hb] at hu
          cases hu
      · intro b hb
        by_cases q : b = a
        · exact q
        · exact absurd (off b q) hb
      · exact fun _ => hk
    · cases hk2 : K.lookup a with
      | none => exact absurd hk2 hk
      | some o =>
        have q := (KX a o hk2).symm.trans ha
        cases q
        apply main (fun _ => none) (fun _ => Or.inl rfl)
        · exact Or.inr ⟨_, vs.toArray, _, hk2, rfl, rfl, rfl, by rw [List.size_toArray, nv]; exact hl, by simpa using vr⟩
        · exact fun b u z => nomatch z
        · exact fun b z => absurd rfl z
        · exact fun z => absurd rfl z
  intro H only scr ok only_a notK
  have lift : ∀ {b : Addr} {o : Obj}, t.heap.get? b = some o → H b = none → (hidT t.heap H).get? b = some o := fun q n => hidT_get q n
  have noDict : ∀ {b : Addr} {o : Obj} {es : Array DictEntry} {ep : Nat}, t.heap.get? b = some o → o.data = .dict es ep → H b = none := by
    intro b o es ep q d
    by_cases hb : H b = none
    · exact hb
    · obtain rfl := only_a b hb
      rw [ha] at q
      cases q
      exact nomatch (show Data.seq vs.toArray _ = Data.dict es ep from d)
  have nsL : ∀ {b : Addr} {m : Str → Option Value}, t.heap.Ns b m → (hidT t.heap H).Ns b m := by
    rintro b m ⟨o, es, ep, q, d, r⟩
    exact ⟨o, es, ep, lift q (noDict q d), d, r⟩
  have KB : K.In (hidT t.heap H) := by
    intro b o q
    refine lift (KX b o q) ?_
    by_cases hb : H b = none
    · exact hb
    · obtain rfl := only_a b hb
      rw [notK hb] at q
      cases q
  have md : Mod K mg (hidT t.heap H) := by
    obtain ⟨mc, c1, c2⟩ := hlim
    exact ⟨KB, nsL hns, ⟨mb, nsL hb, hbb⟩, mc, nsL c1, c2⟩
  have env : Env0 P w K mg (hidT t.heap H) callerA [] t H := by
    refine ⟨rfl, md, fun b o q => of_hidT q, Nat.le_of_eq (hidT_size _ _), trivial, ?_, ok, .of_eq hg⟩
    intro b hb
    exact absurd (show b ∈ ([] : List Addr) from hb) List.not_mem_nil
  have run := (F _ KB (nsL hns)).goes callerA [] t H ⟨[.ref a], []⟩ [.ref a] [.ref a] _ _ hr rfl env (hbind t (.ref a)) (.cons rfl .nil) (hsp H only scr)
  apply codeAny_mono run
  intro res s' hq
  match res, hq with
  | .error e, hq => exact (hCX H e s' hq).elim
  | .ok .next, hq => exact False.elim hq
  | .ok .brk, hq => exact False.elim hq
  | .ok .cont, hq => exact False.elim hq
  | .ok (.ret u), ⟨v, H', os, bare, un, ok', rv, q⟩ =>
    have q2 : v = .bl true := q
    subst q2
    obtain rfl : u = Value.bool true := rv
    refine ⟨rfl, OldK.of_keep ?_, os, bare⟩
    intro b o e
    cases hb : H b with
    | none => exact un.keep b o e hb (fun z => absurd (show b ∈ ([] : List Addr) from z) List.not_mem_nil) List.not_mem_nil
    | some z =>
      rcases only b with n | ⟨ob, xs, n⟩
      · rw [hb] at n
        cases n
      · have n2 := un.frzs b ob _ n
        have y1 := (ok b _ n).1
        have y2 := (ok' b _ n2).1
        rw [e] at y1
        cases y1
        exact y2

theorem walkG {l : PySem.W.OpenLaw} {n lvl : Nat} {q : Program} {loose : List Str} {XP : (Str → Option Value) → Heap → Prop} {YP : World → Heap → Prop} {d : DefRec} {CX : CXT} {x : Str}
    (hn : l.most = some n) (hn2 : n ≤ sizeLine) (hdf : d.params.defaults = []) (hr : Room lvl callerA)
    (F : ∀ (w : World) (mg : Str → Option Value) (fa : Addr) (h : Heap), YP w h → h.Ns mainGlobals mg → mg d.name = some (.ref fa) →
      ∃ (K : PySem.W.Frag) (fd : FuncData) (pr : Sp), K.In h ∧ (∀ (s : Shared) (u : Value), BindsTo s fd ⟨[u], []⟩ [(x, u)]) ∧
        (∀ (H : Hp) (a : Addr) (ns : List Int), ns.length ≤ n → Only H → SqL K H a (ns.map V.int) → pr [.ref a] H (fun v _ => v = .bl true) fun _ _ _ => False) ∧
        ∀ base : Heap, K.In base → base.Ns mainGlobals mg → FnG l.prog w K mg base CX lvl fa fd [x] pr)
    (hCX : ∀ (H : Hp) (s : Shared) (e : Value) (s' : Shared), CX [] H s (fun _ _ _ => False) e s' → False) :
    PySem.W.WalkO q loose XP YP l.row.toRowW d [] (fun f vs => PySem.call f vs) := by
  apply Att.attach_call hn hdf
  intro w s0 s1 mg mb fa o pm cd doc a vs ns G Y ho hd hcd hmg hobj hints hlen hg
  obtain ⟨K, fd, pr, KX, hb, hsp, hF⟩ := F w mg fa _ Y G.T.g hmg
  exact lawG KX G.T.g G.T.b G.T.builtins G.T.nolimit hg hobj hints (Nat.le_trans hlen hn2) hr hF hb (fun H hO hS => hsp H a ns hlen hO hS) fun H e s' => hCX H s1 e s'
end Pk

/-! The layer of evaluation: a base of what stands for ever, a heap above it, promises by data. -/
namespace PySem
theorem Paired.pkImp {α β : Type} {F G : α → β → Prop} (h : ∀ a b, F a b → G a b) : ∀ {l : List α} {m : List β}, Paired F l m → Paired G l m
  | _, _, .nil => .nil
  | _, _, .cons r t => .cons (h _ _ r) (Paired.pkImp h t)
theorem Paired.pkLen {α β : Type} {F : α → β → Prop} : ∀ {l : List α} {m : List β}, Paired F l m → l.length = m.length
  | _, _, .nil => rfl
  | _, _, .cons _ t => by simp [Paired.pkLen t]
theorem Paired.pkGet {α β : Type} {F : α → β → Prop} : ∀ {l : List α} {m : List β} {i : Nat} {a : α}, Paired F l m → l[i]? = some a → ∃ b, m[i]? = some b ∧ F a b
  | _, _, _, _, .nil, h => by simp at h
  | _, _, 0, _, .cons r _, h => by simp at h; subst h; exact ⟨_, rfl, r⟩
  | _, _, i + 1, _, .cons _ t, h => by
    obtain ⟨b, h1, h2⟩ := Paired.pkGet (i := i) t (by simpa using h)
    exact ⟨b, by simpa using h1, h2⟩
theorem Paired.pkGetR {α β : Type} {F : α → β → Prop} : ∀ {l : List α} {m : List β} {i : Nat} {b : β}, Paired F l m → m[i]? = some b → ∃ a, l[i]? = some a ∧ F a b
  | _, _, _, _, .nil, h => by simp at h
  | _, _, 0, _, .cons r _, h => by simp at h; subst h; exact ⟨_, rfl, r⟩
  | _, _, i + 1, _, .cons _ t, h => by
    obtain ⟨b, h1, h2⟩ := Paired.pkGetR (i := i) t (by simpa using h)
    exact ⟨b, by simpa using h1, h2⟩
theorem Paired.pkMap {α β γ : Type} {F : γ → β → Prop} {f : α → γ} : ∀ {l : List α} {m : List β}, Paired F (l.map f) m ↔ Paired (fun a b => F (f a) b) l m
  | [], _ => ⟨fun h => by cases h; exact .nil, fun h => by cases h; exact .nil⟩
  | a :: l, m => ⟨fun h => by
      cases h with
      | cons r t => exact .cons r (Paired.pkMap.mp t), fun h => by
      cases h with
      | cons r t => exact .cons r (Paired.pkMap.mpr t)⟩
theorem Paired.pkApp {α β : Type} {F : α → β → Prop} : ∀ {l l' : List α} {m m' : List β}, Paired F l m → Paired F l' m' → Paired F (l ++ l') (m ++ m')
  | _, _, _, _, .nil, h => h
  | _, _, _, _, .cons r t, h => .cons r (Paired.pkApp t h)
end PySem
namespace Pk
open PySem L2

/-! ### heaps -/
def Ex (H H' : Hp) : Prop := ∀ a o, H a = some o → H' a = some o
theorem Ex.refl (H : Hp) : Ex H H := fun _ _ h => h
theorem Ex.trans {H H1 H2 : Hp} (a : Ex H H1) (b : Ex H1 H2) : Ex H H2 := fun x o h => b x o (a x o h)
theorem Ex.new {H : Hp} {p : Addr} {o : HO} (h : H p = none) : Ex H (upd H p o) := fun a u e => by
  rw [upd_ne (ne_of_none e h)]; exact e
theorem Ex.un {H H' : Hp} (e : Ex H H') {p : Addr} (h : H' p = none) : H p = none := by
  cases q : H p with
  | none => rfl
  | some o => rw [e p o q] at h; cases h
theorem Ex.put {B H : Hp} {p : Addr} {o : HO} (e : Ex B H) (h : B p = none) : Ex B (upd H p o) := fun a u q => by
  rw [upd_ne (ne_of_none q h)]; exact e a u q
theorem Ex.both {B H : Hp} {p : Addr} {o : HO} (e : Ex B H) : Ex (upd B p o) (upd H p o) := fun a u q => by
  by_cases h : a = p
  · subst h; rw [upd_same] at q ⊢; exact q
  · rw [upd_ne h] at q ⊢; exact e a u q
theorem Ex.rd {H H' : Hp} {a : Addr} {u : HO} (e : Ex H H') (h : Rd H a u) : Rd H' a u := by
  rcases h with h | ⟨o, h⟩
  · exact .inl (e a _ h)
  · exact .inr ⟨o, e a _ h⟩
section
variable {K : PySem.W.Frag}
theorem Ex.l {H H' : Hp} {a : Addr} {xs : List V} (e : Ex H H') (h : SqL K H a xs) : SqL K H' a xs := h.imp e.rd id
theorem Ex.t {H H' : Hp} {a : Addr} {xs : List V} (e : Ex H H') (h : SqT K H a xs) : SqT K H' a xs := h.imp e.rd id
end

/-! ### what may change -/
/-- there, and no tuple -/
def NTup : Option HO → Prop
  | some (.tup _) => False
  | some _ => True
  | none => False
structure MI where
  M : Addr → Prop
  I : Hp → Prop
  st : ∀ H H', I H → (∀ a, M a → H' a = H a) → I H'
  nt : ∀ H a, I H → M a → NTup (H a)
structure Ok (C : MI) (B H : Hp) : Prop where
  sub : Ex B H
  off : ∀ a, C.M a → B a = none
  liv : ∀ a, C.M a → H a ≠ none
  inv : C.I H
structure Stp (C : MI) (B H B' H' : Hp) : Prop where
  ok : Ok C B' H'
  bb : Ex B B'
  hh : ∀ a o, ¬ C.M a → H a = some o → H' a = some o
  nw : ∀ a, NTup (H a) → B a = none → B' a = none
section
variable {C : MI} {B H B' H' B1 H1 B2 H2 B0 H0 : Hp} {p l : Addr} {o : HO}
theorem Ok.refl (k : Ok C B H) : Stp C B H B H := ⟨k, .refl _, fun _ _ _ h => h, fun _ _ h => h⟩
theorem Stp.live (s : Stp C B H B1 H1) {a : Addr} (h : H a ≠ none) : H1 a ≠ none := by
  by_cases m : C.M a
  · exact s.ok.liv a m
  · cases q : H a with
    | none => exact absurd q h
    | some o => rw [s.hh a o m q]; simp
theorem Stp.ntup (s : Stp C B H B1 H1) {a : Addr} (h : NTup (H a)) : NTup (H1 a) := by
  by_cases m : C.M a
  · exact C.nt _ _ s.ok.inv m
  · cases q : H a with
    | none => rw [q] at h; exact h.elim
    | some o => rw [s.hh a o m q, ← q]; exact h
theorem Stp.trans (s : Stp C B H B1 H1) (t : Stp C B1 H1 B2 H2) : Stp C B H B2 H2 :=
  ⟨t.ok, s.bb.trans t.bb, fun a o m h => t.hh a o m (s.hh a o m h), fun a h b => t.nw a (s.ntup h) (s.nw a h b)⟩
/-- what was found on the way is forgotten -/
theorem Stp.drop (k : Ok C B H) (s : Stp C B H B1 H1) : Stp C B H B H1 :=
  ⟨⟨s.bb.trans s.ok.sub, k.off, s.ok.liv, s.ok.inv⟩, .refl _, s.hh, fun _ _ h => h⟩
theorem Ok.fresh (k : Ok C B H) (h : H p = none) : ¬ C.M p := fun m => k.liv p m h
theorem Ok.loc (k : Ok C B H) (b : B p = none) (m : ¬ C.M p) : Ok C B (upd H p o) :=
  ⟨k.sub.put b, k.off, fun a ma => by
    by_cases h : a = p
    · subst h; exact absurd ma m
    · rw [upd_ne h]; exact k.liv a ma, C.st _ _ k.inv fun a ma => upd_ne fun h => by subst h; exact m ma⟩
/-- a new object, known for ever -/
theorem Ok.new (k : Ok C B H) (h : H p = none) : Stp C B H (upd B p o) (upd H p o) := by
  have m := k.fresh h
  have b := k.sub.un h
  have k2 := Ok.loc (o := o) k b m
  refine ⟨⟨k.sub.both, fun a ma => ?_, k2.liv, k2.inv⟩, .new b, fun a u _ q => ?_, fun a q b' => ?_⟩
  · rw [upd_ne fun h => by subst h; exact m ma]; exact k.off a ma
  · rw [upd_ne (ne_of_none q h)]; exact q
  · rw [upd_ne fun z => by subst z; rw [h] at q; exact q]; exact b'
/-- a new object of the body's own, that may change -/
theorem Stp.loc (s : Stp C B0 H0 B H) (h0 : H0 p = none) (b : B p = none) (m : ¬ C.M p) : Stp C B0 H0 B (upd H p o) :=
  ⟨s.ok.loc b m, s.bb, fun a u ma q => by rw [upd_ne (ne_of_none q h0)]; exact s.hh a u ma q, s.nw⟩
/-- .. is from now on known for ever -/
theorem Stp.frz (s : Stp C B0 H0 B H) (h0 : H0 p = none) (b : B p = none) (m : ¬ C.M p) (e : H p = some o) : Stp C B0 H0 (upd B p o) H := by
  refine ⟨⟨fun a u q => ?_, fun a ma => ?_, s.ok.liv, s.ok.inv⟩, s.bb.trans (.new b), s.hh, fun a q b' => ?_⟩
  · by_cases h : a = p
    · subst h; rw [upd_same] at q; rw [e]; exact q
    · rw [upd_ne h] at q; exact s.ok.sub a u q
  · rw [upd_ne fun h => by subst h; exact m ma]; exact s.ok.off a ma
  · rw [upd_ne fun z => by subst z; rw [h0] at q; exact q]; exact s.nw a q b'
theorem Ok.frz (s : Ok C B H) (b : B p = none) (m : ¬ C.M p) (e : H p = some o) : Ok C (upd B p o) H := by
  refine ⟨fun a u q => ?_, fun a ma => ?_, s.liv, s.inv⟩
  · by_cases h : a = p
    · subst h; rw [upd_same] at q; rw [e]; exact q
    · rw [upd_ne h] at q; exact s.sub a u q
  · rw [upd_ne fun h => by subst h; exact m ma]; exact s.off a ma
end

/-- a tuple is known for ever -/
theorem Ok.tup {C : MI} {B H : Hp} {q : Addr} {xs : List V} (k : Ok C B H) (h : H q = some (.tup xs)) : ∃ B', Stp C B H B' H ∧ B' q = some (.tup xs) := by
  cases e : B q with
  | some o =>
    have e2 := k.sub q o e
    rw [h] at e2
    cases e2
    exact ⟨B, k.refl, e⟩
  | none =>
    have m : ¬ C.M q := fun m => by
      have := C.nt H q k.inv m
      rw [h] at this
      exact this
    exact ⟨upd B q (.tup xs), ⟨k.frz e m h, .new e, fun _ _ _ h => h, fun a n b => by
      rw [upd_ne fun z => by subst z; rw [h] at n; exact n]; exact b⟩, upd_same⟩

/-! ### data -/
class Enc (α : Type) where
  enc : α → PyData
  dep : Nat
  lay : ∀ x, (enc x).canLay0 = true
  depth : ∀ x, (enc x).depth ≤ dep
  inj : ∀ x y, PyData.eqv (enc x) (enc y) = true ↔ x = y
  inj2 : ∀ x y, enc x = enc y → x = y
open Enc (enc dep)
theorem Enc.shaped {α : Type} [Enc α] (x : α) (h : dep α ≤ 64 := by decide) : SeqAt.shaped (enc x) = true := by
  show ((enc x).canLay0 && decide ((enc x).depth ≤ 64)) = true
  rw [Enc.lay, Bool.true_and]
  exact decide_eq_true (Nat.le_trans (Enc.depth x) h)
theorem Enc.eqv {α : Type} [Enc α] [DecidableEq α] (x y : α) : PyData.eqv (enc x) (enc y) = decide (x = y) := by
  by_cases h : x = y
  · rw [decide_eq_true h]; exact (Enc.inj x y).mpr h
  · rw [decide_eq_false h]
    cases e : PyData.eqv (enc x) (enc y) with
    | false => rfl
    | true => exact absurd ((Enc.inj x y).mp e) h
instance : Enc Int := ⟨.int, 0, fun _ => by simp [PyData.canLay0], fun _ => by simp [PyData.depth], fun x y => by simp [PyData.eqv], fun x y h => by cases h; rfl⟩
instance : Enc Nat := ⟨fun n => .int n, 0, fun _ => by simp [PyData.canLay0], fun _ => by simp [PyData.depth], fun x y => by simp [PyData.eqv]; omega, fun x y h => by cases h; rfl⟩
instance : Enc Bool := ⟨.bool, 0, fun _ => by simp [PyData.canLay0], fun _ => by simp [PyData.depth], fun x y => by simp [PyData.eqv], fun x y h => by cases h; rfl⟩
inductive Wy where
  | least | most
  deriving DecidableEq
def Wy.s : Wy → Str
  | .least => "least"
  | .most => "most"
instance : Enc Wy := ⟨fun w => .str w.s, 0, fun w => by cases w <;> decide +kernel, fun _ => by simp [PyData.depth], fun x y => by
  cases x <;> cases y <;> first | (constructor <;> intro _ <;> first | rfl | decide +kernel) | (constructor <;> intro h <;> first | cases h | (exact absurd h (by decide +kernel))), fun x y h => by
  cases x <;> cases y <;> first | rfl | (injection h with h; exact absurd h (by decide +kernel))⟩
instance : Enc Unit := ⟨fun _ => .none, 0, fun _ => by simp [PyData.canLay0], fun _ => by simp [PyData.depth], fun x y => by simp [PyData.eqv], fun x y h => rfl⟩
section
variable {α : Type} [Enc α]
theorem lay_all : ∀ xs : List α, PyData.canLayAll0 (xs.map enc) = true
  | [] => by simp [PyData.canLayAll0]
  | x :: xs => by simp [PyData.canLayAll0, Enc.lay x, lay_all xs]
theorem depth_all : ∀ xs : List α, PyData.depthAll (xs.map enc) ≤ dep α
  | [] => by simp [PyData.depthAll]
  | x :: xs => by
    have h1 := depth_all xs
    have h2 := Enc.depth x
    simp only [List.map_cons, PyData.depthAll]; omega
theorem inj_all : ∀ xs ys : List α, PyData.eqvAll (xs.map enc) (ys.map enc) = true ↔ xs = ys
  | [], [] => by simp [PyData.eqvAll]
  | [], _ :: _ => by simp [PyData.eqvAll]
  | _ :: _, [] => by simp [PyData.eqvAll]
  | x :: xs, y :: ys => by
    simp only [List.map_cons, PyData.eqvAll, Bool.and_eq_true, Enc.inj, inj_all xs ys, List.cons.injEq]
theorem inj2_all : ∀ xs ys : List α, xs.map enc = ys.map enc → xs = ys
  | [], [], _ => rfl
  | [], _ :: _, h => by cases h
  | _ :: _, [], h => by cases h
  | x :: xs, y :: ys, h => by
    injection h with h1 h2
    rw [Enc.inj2 x y h1, inj2_all xs ys h2]
instance : Enc (List α) := ⟨fun xs => .list (xs.map enc), dep α + 1, fun xs => by simp only [PyData.canLay0]; exact lay_all xs,
  fun xs => by have := depth_all xs; simp only [PyData.depth]; omega, fun x y => by simp only [PyData.eqv]; exact inj_all x y, fun x y h => inj2_all x y (by injection h)⟩
end
/-- a tuple of any length -/
structure Tu (α : Type) where
  l : List α
  deriving DecidableEq
section
variable {α β : Type} [Enc α] [Enc β]
instance : Enc (Tu α) := ⟨fun xs => .tuple (xs.l.map enc), dep α + 1, fun xs => by simp only [PyData.canLay0]; exact lay_all xs.l,
  fun xs => by have := depth_all xs.l; simp only [PyData.depth]; omega, fun x y => by
    simp only [PyData.eqv, inj_all]
    exact ⟨fun h => by cases x; cases y; cases h; rfl, fun h => by rw [h]⟩, fun x y h => by
    have := inj2_all x.l y.l (by injection h)
    cases x; cases y; cases this; rfl⟩
instance : Enc (α × β) := ⟨fun p => .tuple [enc p.1, enc p.2], max (dep α) (dep β) + 1, fun p => by simp [PyData.canLay0, PyData.canLayAll0, Enc.lay],
  fun p => by have h1 := Enc.depth p.1; have h2 := Enc.depth p.2; simp only [PyData.depth, PyData.depthAll]; omega,
  fun p q => by simp [PyData.eqv, PyData.eqvAll, Enc.inj, Prod.ext_iff], fun p q h => by
    injection h with h
    injection h with h1 h2
    injection h2 with h2 _
    exact Prod.ext (Enc.inj2 _ _ h1) (Enc.inj2 _ _ h2)⟩
end

mutual
/-- data as they stand; a list is one that is tracked -/
inductive Dq (K : PySem.W.Frag) (H : Hp) : V → PyData → Prop
  | non : Dq K H .non .none
  | bl (b : Bool) : Dq K H (.bl b) (.bool b)
  | int (i : Int) : Dq K H (.int i) (.int i)
  | str (x : Str) : Dq K H (.str x) (.str x)
  | lst {a : Addr} {xs : List V} {ds : List PyData} : H a = some (.lst xs) → DqAll K H xs ds → Dq K H (.ref a) (.list ds)
  | tup {a : Addr} {xs : List V} {ds : List PyData} : H a = some (.tup xs) → DqAll K H xs ds → Dq K H (.ref a) (.tuple ds)
inductive DqAll (K : PySem.W.Frag) (H : Hp) : List V → List PyData → Prop
  | nil : DqAll K H [] []
  | cons {v : V} {vs : List V} {d : PyData} {ds : List PyData} : Dq K H v d → DqAll K H vs ds → DqAll K H (v :: vs) (d :: ds)
end
mutual
theorem dq_dp {K : PySem.W.Frag} {H H' : Hp} (e : Ex H H') : ∀ (d : PyData) (v : V), Dq K H v d → Dp K H' v d
  | .none, _, h => by cases h; exact .non
  | .bool _, _, h => by cases h; exact .bl _
  | .int _, _, h => by cases h; exact .int _
  | .str _, _, h => by cases h; exact .str _
  | .list ds, _, h => by
    cases h with
    | lst h1 h2 => exact .lst (.inl (.inl (e _ _ h1))) (dqAll_dp e ds _ h2)
  | .tuple ds, _, h => by
    cases h with
    | tup h1 h2 => exact .tup (.inl (.inl (e _ _ h1))) (dqAll_dp e ds _ h2)
  | .dict _, _, h => by cases h
theorem dqAll_dp {K : PySem.W.Frag} {H H' : Hp} (e : Ex H H') : ∀ (ds : List PyData) (vs : List V), DqAll K H vs ds → DpAll K H' vs ds
  | [], _, h => by cases h; exact .nil
  | d :: ds, _, h => by
    cases h with
    | cons h1 h2 => exact .cons (dq_dp e d _ h1) (dqAll_dp e ds _ h2)
end
mutual
theorem dq_mono {K : PySem.W.Frag} {H H' : Hp} (e : Ex H H') : ∀ (d : PyData) (v : V), Dq K H v d → Dq K H' v d
  | .none, _, h => by cases h; exact .non
  | .bool _, _, h => by cases h; exact .bl _
  | .int _, _, h => by cases h; exact .int _
  | .str _, _, h => by cases h; exact .str _
  | .list ds, _, h => by
    cases h with
    | lst h1 h2 => exact .lst (e _ _ h1) (dqAll_mono e ds _ h2)
  | .tuple ds, _, h => by
    cases h with
    | tup h1 h2 => exact .tup (e _ _ h1) (dqAll_mono e ds _ h2)
  | .dict _, _, h => by cases h
theorem dqAll_mono {K : PySem.W.Frag} {H H' : Hp} (e : Ex H H') : ∀ (ds : List PyData) (vs : List V), DqAll K H vs ds → DqAll K H' vs ds
  | [], _, h => by cases h; exact .nil
  | d :: ds, _, h => by
    cases h with
    | cons h1 h2 => exact .cons (dq_mono e d _ h1) (dqAll_mono e ds _ h2)
end

/-! ### what a value is, over a base -/
structure Rp where
  P : V → Hp → Prop
  mono : ∀ {v B B'}, Ex B B' → P v B → P v B'
def Rp.le (R R' : Rp) : Prop := ∀ v B, R.P v B → R'.P v B
def Args (Rs : List Rp) (vs : List V) (B : Hp) : Prop := Paired (fun R v => R.P v B) Rs vs
theorem Args.mono {Rs : List Rp} {vs : List V} {B B' : Hp} (e : Ex B B') (h : Args Rs vs B) : Args Rs vs B' := Paired.pkImp (fun R _ => R.mono e) h
theorem Args.le {α : Type} {R R' : α → Rp} (h : ∀ x, (R x).le (R' x)) {xs : List α} {vs : List V} {B : Hp} (a : Args (xs.map R) vs B) : Args (xs.map R') vs B :=
  Paired.pkMap.mpr (Paired.pkImp (fun x v => h x v B) (Paired.pkMap.mp a))

section
variable (K : PySem.W.Frag)
def Is {α : Type} [Enc α] (x : α) : Rp := ⟨fun v B => Dq K B v (enc x), fun e h => dq_mono e _ _ h⟩
def LstR (Rs : List Rp) : Rp := ⟨fun v B => ∃ a vs, v = .ref a ∧ B a = some (.lst vs) ∧ Args Rs vs B, fun e ⟨a, vs, h1, h2, h3⟩ => ⟨a, vs, h1, e _ _ h2, h3.mono e⟩⟩
def TupR (Rs : List Rp) : Rp := ⟨fun v B => ∃ a vs, v = .ref a ∧ B a = some (.tup vs) ∧ Args Rs vs B, fun e ⟨a, vs, h1, h2, h3⟩ => ⟨a, vs, h1, e _ _ h2, h3.mono e⟩⟩
abbrev IsL {α : Type} (R : α → Rp) (xs : List α) : Rp := LstR (xs.map R)
end
def SomeR {α : Type} (p : α → Prop) (R : α → Rp) : Rp := ⟨fun v B => ∃ x, p x ∧ (R x).P v B, fun e ⟨x, h1, h2⟩ => ⟨x, h1, (R x).mono e h2⟩⟩
def RefR (a : Addr) : Rp := ⟨fun v _ => v = .ref a, fun _ h => h⟩
def AnyR : Rp := ⟨fun _ _ => True, fun _ _ => trivial⟩
section
variable {K : PySem.W.Frag} {α β : Type} [Enc α] [Enc β] {B : Hp} {v : V}
theorem is_int {i : Int} : (Is K i).P v B ↔ v = .int i := ⟨fun h => by cases h; rfl, fun h => by subst h; exact .int i⟩
theorem is_nat {i : Nat} : (Is K i).P v B ↔ v = .int i := ⟨fun h => by cases h; rfl, fun h => by subst h; exact .int i⟩
theorem is_bool {b : Bool} : (Is K b).P v B ↔ v = .bl b := ⟨fun h => by cases h; rfl, fun h => by subst h; exact .bl b⟩
theorem is_way {x : Wy} : (Is K x).P v B ↔ v = .str x.s := ⟨fun h => by cases h; rfl, fun h => by subst h; exact .str _⟩
theorem is_non {u : Unit} : (Is K u).P v B ↔ v = .non := ⟨fun h => by cases h; rfl, fun h => by subst h; exact .non⟩
theorem dqAll_args : ∀ {xs : List α} {vs : List V}, DqAll K B vs (xs.map enc) ↔ Args (xs.map (Is K)) vs B
  | [], _ => ⟨fun h => by cases h; exact .nil, fun h => by cases h; exact .nil⟩
  | x :: xs, _ => ⟨fun h => by
      cases h with
      | cons r t => exact .cons r (dqAll_args.mp t), fun h => by
      cases h with
      | cons r t => exact .cons r (dqAll_args.mpr t)⟩
theorem is_lst {xs : List α} : (Is K xs).P v B ↔ (IsL (Is K) xs).P v B := ⟨fun h => by
    cases h with
    | lst h1 h2 => exact ⟨_, _, rfl, h1, dqAll_args.mp h2⟩, fun ⟨a, vs, h1, h2, h3⟩ => by subst h1; exact .lst h2 (dqAll_args.mpr h3)⟩
theorem is_tup {xs : Tu α} : (Is K xs).P v B ↔ (TupR (xs.l.map (Is K))).P v B := ⟨fun h => by
    cases h with
    | tup h1 h2 => exact ⟨_, _, rfl, h1, dqAll_args.mp h2⟩, fun ⟨a, vs, h1, h2, h3⟩ => by subst h1; exact .tup h2 (dqAll_args.mpr h3)⟩
theorem is_pair {x : α × β} : (Is K x).P v B ↔ (TupR [Is K x.1, Is K x.2]).P v B := ⟨fun h => by
    cases h with
    | tup h1 h2 =>
      cases h2 with
      | cons r t =>
        cases t with
        | cons r' t => cases t; exact ⟨_, _, rfl, h1, .cons r (.cons r' .nil)⟩, fun ⟨a, vs, h1, h2, h3⟩ => by
    subst h1
    cases h3 with
    | cons r t =>
      cases t with
      | cons r' t => cases t; exact .tup h2 (.cons r (.cons r' .nil))⟩
/-- ints as they stand -/
theorem args_ints : ∀ {ns : List Int} {vs : List V}, Args (ns.map (Is K)) vs B ↔ vs = ns.map V.int
  | [], _ => ⟨fun h => by cases h; rfl, fun h => by subst h; exact .nil⟩
  | n :: ns, _ => ⟨fun h => by
      cases h with
      | cons r t => rw [List.map_cons, ← args_ints.mp t, is_int.mp r], fun h => by subst h; exact .cons (is_int.mpr rfl) (args_ints.mpr rfl)⟩
theorem args_nats : ∀ {ns : List Nat} {vs : List V}, Args (ns.map (Is K)) vs B ↔ vs = ns.map fun n : Nat => V.int (n : Int)
  | [], _ => ⟨fun h => by cases h; rfl, fun h => by subst h; exact .nil⟩
  | n :: ns, _ => ⟨fun h => by
      cases h with
      | cons r t => rw [List.map_cons, ← args_nats.mp t, is_nat.mp r], fun h => by subst h; exact .cons (is_nat.mpr rfl) (args_nats.mpr rfl)⟩
theorem args_bools : ∀ {ns : List Bool} {vs : List V}, Args (ns.map (Is K)) vs B ↔ vs = ns.map V.bl
  | [], _ => ⟨fun h => by cases h; rfl, fun h => by subst h; exact .nil⟩
  | n :: ns, _ => ⟨fun h => by
      cases h with
      | cons r t => rw [List.map_cons, ← args_bools.mp t, is_bool.mp r], fun h => by subst h; exact .cons (is_bool.mpr rfl) (args_bools.mpr rfl)⟩
end

/-! ### what evaluates to what -/
def Ev (C : MI) (te : TE) (σ : L2.St) (B : Hp) (R : Rp) : Prop := ∀ B1 H1, Ex B B1 → Ok C B1 H1 → ∀ Q : VK, (∀ v B2 H2, Stp C B1 H1 B2 H2 → R.P v B2 → Q v H2) → te σ H1 Q
def EvT (C : MI) (tt : TT) (σ : L2.St) (B : Hp) (b : Bool) : Prop := ∀ B1 H1, Ex B B1 → Ok C B1 H1 → ∀ Q : Bool → Hp → Prop, (∀ H2, Stp C B1 H1 B1 H2 → Q b H2) → tt σ H1 Q
def EvA (C : MI) (ta : TA) (σ : L2.St) (B : Hp) (Rs : List Rp) : Prop := ∀ B1 H1, Ex B B1 → Ok C B1 H1 → ∀ Q : List V → Hp → Prop, (∀ vs B2 H2, Stp C B1 H1 B2 H2 → Args Rs vs B2 → Q vs H2) → ta σ H1 Q
/-- a rule on values -/
def RV (C : MI) (r : R2) (R R' : Rp) (B : Hp) (S : Rp) : Prop := ∀ x y B1 H1, Ex B B1 → Ok C B1 H1 → R.P x B1 → R'.P y B1 → ∀ Q : VK, (∀ v B2 H2, Stp C B1 H1 B2 H2 → S.P v B2 → Q v H2) → r x y H1 Q
def RC (C : MI) (r : List V → Hp → VK → Prop) (Rs : List Rp) (B : Hp) (S : Rp) : Prop := ∀ vs B1 H1, Ex B B1 → Ok C B1 H1 → Args Rs vs B1 → ∀ Q : VK, (∀ v B2 H2, Stp C B1 H1 B2 H2 → S.P v B2 → Q v H2) → r vs H1 Q

section
variable {C : MI} {K : PySem.W.Frag} {σ : L2.St} {B B' : Hp} {R R' S : Rp} {ta tb te : TE} {tt tu : TT} {t : TA} {Rs : List Rp} {b : Bool}
theorem Ev.mono (e : Ex B B') (h : Ev C te σ B R) : Ev C te σ B' R := fun B1 H1 e1 => h B1 H1 (e.trans e1)
theorem EvT.mono (e : Ex B B') (h : EvT C tt σ B b) : EvT C tt σ B' b := fun B1 H1 e1 => h B1 H1 (e.trans e1)
theorem EvA.mono (e : Ex B B') (h : EvA C t σ B Rs) : EvA C t σ B' Rs := fun B1 H1 e1 => h B1 H1 (e.trans e1)
theorem Ev.le (h : Ev C te σ B R) (l : R.le R') : Ev C te σ B R' := fun B1 H1 e k Q q => h B1 H1 e k Q fun v B2 H2 s r => q v B2 H2 s (l _ _ r)
theorem Ev.to {α : Type} {F : α → Rp} {x y : α} (h : Ev C te σ B (F x)) (e : x = y) : Ev C te σ B (F y) := e ▸ h
theorem EvT.to {c : Bool} (h : EvT C tt σ B b) (e : b = c) : EvT C tt σ B c := e ▸ h
theorem ev_var {i : Nat} {v : V} (h : σ[i]? = some (some v)) (p : R.P v B) : Ev C (tVar i) σ B R := fun B1 H1 e k Q q => ⟨v, h, q v B1 H1 k.refl (R.mono e p)⟩
theorem ev_c {v : V} (p : ∀ B, R.P v B) : Ev C (tC v) σ B R := fun B1 H1 e k Q q => q v B1 H1 k.refl (p _)
theorem ev_int {i : Int} : Ev C (tC (.int i)) σ B (Is K i) := ev_c fun _ => .int i
theorem ev_nat {i : Nat} : Ev C (tC (.int (i : Int))) σ B (Is K i) := ev_c fun _ => .int i
theorem ev_least : Ev C (tC (.str "least")) σ B (Is K Wy.least) := ev_c fun _ => .str "least"
theorem ev_most : Ev C (tC (.str "most")) σ B (Is K Wy.most) := ev_c fun _ => .str "most"
theorem ev_bl {i : Bool} : Ev C (tC (.bl i)) σ B (Is K i) := ev_c fun _ => .bl i
theorem ev_non : Ev C (tC .non) σ B (Is K ()) := ev_c fun _ => .non
theorem ev_op {r : R2} (ha : Ev C ta σ B R) (hb : Ev C tb σ B R') (hr : RV C r R R' B S) : Ev C (tOp r ta tb) σ B S := fun B1 H1 e k Q q =>
  ha B1 H1 e k _ fun x B2 H2 s2 r2 => hb B2 H2 (e.trans s2.bb) s2.ok _ fun y B3 H3 s3 r3 =>
    hr x y B3 H3 (e.trans (s2.bb.trans s3.bb)) s3.ok (R.mono s3.bb r2) r3 Q fun v B4 H4 s4 r4 => q v B4 H4 (s2.trans (s3.trans s4)) r4
theorem rv_I0 {g : Int → Int → V} {i j : Int} (h : ∀ B, S.P (g i j) B) : RV C (rI0 g) (Is K i) (Is K j) B S := fun x y B1 H1 _ k hx hy Q q => by
  rw [is_int.mp hx, is_int.mp hy]
  exact ⟨i, j, rfl, rfl, q _ B1 H1 k.refl (h _)⟩
theorem rv_I {c : Int → Int → Prop} {g : Int → Int → V} {i j : Int} (hc : c i j) (h : ∀ B, S.P (g i j) B) : RV C (rI c g) (Is K i) (Is K j) B S := fun x y B1 H1 _ k hx hy Q q => by
  rw [is_int.mp hx, is_int.mp hy]
  exact ⟨i, j, rfl, rfl, hc, q _ B1 H1 k.refl (h _)⟩
/-- ints: any operator whose answer is an int, a bool -/
theorem ev_i {g : Int → Int → Int} {i j : Int} (ha : Ev C ta σ B (Is K i)) (hb : Ev C tb σ B (Is K j)) : Ev C (tOp (rI0 fun i j => .int (g i j)) ta tb) σ B (Is K (g i j)) := ev_op ha hb (rv_I0 fun _ => .int _)
theorem ev_ic {c : Int → Int → Prop} {g : Int → Int → Int} {i j : Int} (ha : Ev C ta σ B (Is K i)) (hb : Ev C tb σ B (Is K j)) (hc : c i j) : Ev C (tOp (rI c fun i j => .int (g i j)) ta tb) σ B (Is K (g i j)) := ev_op ha hb (rv_I hc fun _ => .int _)
theorem ev_ib {g : Int → Int → Bool} {i j : Int} (ha : Ev C ta σ B (Is K i)) (hb : Ev C tb σ B (Is K j)) : Ev C (tOp (rI0 fun i j => .bl (g i j)) ta tb) σ B (Is K (g i j)) := ev_op ha hb (rv_I0 fun _ => .bl _)
theorem ev_eq {α : Type} [Enc α] [DecidableEq α] {x y : α} (ha : Ev C ta σ B (Is K x)) (hb : Ev C tb σ B (Is K y)) (hd : dep α ≤ 64 := by decide) : Ev C (tOp (rEqD K) ta tb) σ B (Is K (decide (x = y))) :=
  ev_op ha hb fun u w B1 H1 _ k hx hy Q q => ⟨enc x, enc y, dq_dp k.sub _ _ hx, dq_dp k.sub _ _ hy, Enc.shaped x hd, Enc.shaped y hd, q _ B1 H1 k.refl (by rw [Enc.eqv]; exact .bl _)⟩
theorem ev_ne {α : Type} [Enc α] [DecidableEq α] {x y : α} (ha : Ev C ta σ B (Is K x)) (hb : Ev C tb σ B (Is K y)) (hd : dep α ≤ 64 := by decide) : Ev C (tOp (rNeD K) ta tb) σ B (Is K (decide (x ≠ y))) :=
  ev_op ha hb fun u w B1 H1 _ k hx hy Q q => ⟨enc x, enc y, dq_dp k.sub _ _ hx, dq_dp k.sub _ _ hy, Enc.shaped x hd, Enc.shaped y hd, q _ B1 H1 k.refl (by
    rw [Enc.eqv, show decide (x ≠ y) = !decide (x = y) by by_cases h : x = y <;> simp [h]]; exact .bl _)⟩
theorem any_eqv {α : Type} [Enc α] [DecidableEq α] (x : α) : ∀ xs : List α, ((xs.map enc).any fun z => PyData.eqv z (enc x)) = decide (x ∈ xs)
  | [] => by simp
  | y :: xs => by
    rw [List.map_cons, List.any_cons, any_eqv x xs, Enc.eqv]
    by_cases h : y = x
    · subst h; simp
    · have h2 : ¬ x = y := fun q => h q.symm
      simp [h, h2]
theorem ev_in {α : Type} [Enc α] [DecidableEq α] {x : α} {xs : List α} (ha : Ev C ta σ B (Is K x)) (hb : Ev C tb σ B (Is K xs)) (hd : dep α ≤ 63 := by decide) : Ev C (tOp (rInD K) ta tb) σ B (Is K (decide (x ∈ xs))) :=
  ev_op ha hb fun u w B1 H1 _ k hx hy Q q => ⟨enc x, xs.map enc, dq_dp k.sub _ _ hx, dq_dp k.sub _ _ hy, Enc.shaped x (by omega), Enc.shaped xs (show dep α + 1 ≤ 64 by omega), q _ B1 H1 k.refl (by rw [any_eqv]; exact .bl _)⟩
theorem ev_nin {α : Type} [Enc α] [DecidableEq α] {x : α} {xs : List α} (ha : Ev C ta σ B (Is K x)) (hb : Ev C tb σ B (Is K xs)) (hd : dep α ≤ 63 := by decide) : Ev C (tOp (rNotInD K) ta tb) σ B (Is K (decide (x ∉ xs))) :=
  ev_op ha hb fun u w B1 H1 _ k hx hy Q q => ⟨enc x, xs.map enc, dq_dp k.sub _ _ hx, dq_dp k.sub _ _ hy, Enc.shaped x (by omega), Enc.shaped xs (show dep α + 1 ≤ 64 by omega), q _ B1 H1 k.refl (by
    rw [any_eqv, show decide (x ∉ xs) = !decide (x ∈ xs) by by_cases h : x ∈ xs <;> simp [h]]; exact .bl _)⟩
/-! items -/
theorem atI_at {α β : Type} {F : α → β → Prop} {l : List α} {m : List β} {i : Int} {a : α} (h : Paired F l m) (e : atI l i = some a) : ∃ b, atI m i = some b ∧ F a b := by
  unfold atI at e ⊢
  rw [← h.pkLen]
  cases q : ixN l.length i with
  | none => rw [q] at e; cases e
  | some j => rw [q] at e; exact h.pkGet e
theorem ev_ixL {i : Int} {R : Rp} {Rs : List Rp} (ha : Ev C ta σ B (LstR Rs)) (hb : Ev C tb σ B (Is K i)) (h : atI Rs i = some R) : Ev C (tOp (rIxL K) ta tb) σ B R :=
  ev_op ha hb fun x y B1 H1 _ k ⟨a, vs, hx, hq, hv⟩ hy Q q => by
    obtain ⟨w, h1, h2⟩ := atI_at hv h
    exact ⟨a, vs, i, w, hx, is_int.mp hy, .inl (.inl (k.sub _ _ hq)), h1, q _ B1 H1 k.refl h2⟩
theorem ev_ixT {i : Int} {R : Rp} {Rs : List Rp} (ha : Ev C ta σ B (TupR Rs)) (hb : Ev C tb σ B (Is K i)) (h : atI Rs i = some R) : Ev C (tOp (rIxT K) ta tb) σ B R :=
  ev_op ha hb fun x y B1 H1 _ k ⟨a, vs, hx, hq, hv⟩ hy Q q => by
    obtain ⟨w, h1, h2⟩ := atI_at hv h
    exact ⟨a, vs, i, w, hx, is_int.mp hy, .inl (.inl (k.sub _ _ hq)), h1, q _ B1 H1 k.refl h2⟩
theorem atI_map {α β : Type} {f : α → β} {l : List α} {i : Int} {a : α} (h : atI l i = some a) : atI (l.map f) i = some (f a) := by
  unfold atI at h ⊢
  rw [List.length_map]
  cases q : ixN l.length i with
  | none => rw [q] at h; cases h
  | some j =>
    rw [q] at h
    have h' : l[j]? = some a := h
    show (l.map f)[j]? = some (f a)
    rw [List.getElem?_map, h']; rfl
theorem ev_ixLd {α : Type} [Enc α] {i : Int} {xs : List α} {x : α} (ha : Ev C ta σ B (Is K xs)) (hb : Ev C tb σ B (Is K i)) (h : atI xs i = some x) : Ev C (tOp (rIxL K) ta tb) σ B (Is K x) :=
  ev_ixL (Rs := xs.map (Is K)) (ha.le fun _ _ => is_lst.mp) hb (atI_map h)
theorem ev_ixTd {α : Type} [Enc α] {i : Int} {xs : Tu α} {x : α} (ha : Ev C ta σ B (Is K xs)) (hb : Ev C tb σ B (Is K i)) (h : atI xs.l i = some x) : Ev C (tOp (rIxT K) ta tb) σ B (Is K x) :=
  ev_ixT (Rs := xs.l.map (Is K)) (ha.le fun _ _ => is_tup.mp) hb (atI_map h)
/-! tests -/
theorem et_B (h : Ev C te σ B (Is K b)) : EvT C (tB te) σ B b := fun B1 H1 e k Q q => h B1 H1 e k _ fun v B2 H2 s r => ⟨b, is_bool.mp r, q H2 (s.drop k)⟩
theorem et_test (h : Ev C te σ B (Is K b)) : EvT C (tTest te) σ B b := fun B1 H1 e k Q q => h B1 H1 e k _ fun v B2 H2 s r => ⟨b, is_bool.mp r, q H2 (s.drop k)⟩
theorem et_and {c : Bool} (h1 : EvT C tt σ B b) (h2 : b = true → EvT C tu σ B c) : EvT C (tAnd tt tu) σ B (b && c) := fun B1 H1 e k Q q => h1 B1 H1 e k _ fun H2 s => by
  cases b with
  | true =>
    show tu σ H2 Q
    exact h2 rfl B1 H2 e s.ok Q fun H3 s3 => q H3 (s.trans s3)
  | false => exact q H2 s
theorem et_or {c : Bool} (h1 : EvT C tt σ B b) (h2 : b = false → EvT C tu σ B c) : EvT C (tOr tt tu) σ B (b || c) := fun B1 H1 e k Q q => h1 B1 H1 e k _ fun H2 s => by
  cases b with
  | true => exact q H2 s
  | false =>
    show tu σ H2 Q
    exact h2 rfl B1 H2 e s.ok Q fun H3 s3 => q H3 (s.trans s3)
theorem et_not (h1 : EvT C tt σ B b) : EvT C (tNot tt) σ B (!b) := fun B1 H1 e k Q q => h1 B1 H1 e k _ fun H2 s => q H2 s
theorem ev_and {b c : Bool} (h1 : Ev C ta σ B (Is K b)) (h2 : b = true → Ev C tb σ B (Is K c)) : Ev C (tAndV ta tb) σ B (Is K (b && c)) := fun B1 H1 e k Q q => h1 B1 H1 e k _ fun v B2 H2 s r => ⟨b, is_bool.mp r, by
  cases b with
  | true =>
    show tb σ H2 Q
    exact h2 rfl B2 H2 (e.trans s.bb) s.ok Q fun w B3 H3 s3 r3 => q w B3 H3 (s.trans s3) r3
  | false => exact q _ B2 H2 s (.bl _)⟩
theorem ev_or {b c : Bool} (h1 : Ev C ta σ B (Is K b)) (h2 : b = false → Ev C tb σ B (Is K c)) : Ev C (tOrV ta tb) σ B (Is K (b || c)) := fun B1 H1 e k Q q => h1 B1 H1 e k _ fun v B2 H2 s r => ⟨b, is_bool.mp r, by
  cases b with
  | true => exact q _ B2 H2 s (.bl _)
  | false =>
    show tb σ H2 Q
    exact h2 rfl B2 H2 (e.trans s.bb) s.ok Q fun w B3 H3 s3 r3 => q w B3 H3 (s.trans s3) r3⟩
theorem ev_not {b : Bool} (h1 : Ev C ta σ B (Is K b)) : Ev C (tNotV ta) σ B (Is K (!b)) := fun B1 H1 e k Q q => h1 B1 H1 e k _ fun v B2 H2 s r => ⟨b, is_bool.mp r, q _ B2 H2 s (.bl _)⟩
theorem ev_if {b : Bool} (h : EvT C tt σ B b) (h1 : b = true → Ev C ta σ B R) (h2 : b = false → Ev C tb σ B R) : Ev C (tIf tt ta tb) σ B R := fun B1 H1 e k Q q => h B1 H1 e k _ fun H2 s => by
  cases b with
  | true =>
    show ta σ H2 Q
    exact h1 rfl B1 H2 e s.ok Q fun v B3 H3 s3 r3 => q v B3 H3 (s.trans s3) r3
  | false =>
    show tb σ H2 Q
    exact h2 rfl B1 H2 e s.ok Q fun v B3 H3 s3 r3 => q v B3 H3 (s.trans s3) r3
/-! arguments, displays, calls -/
theorem ea_nil : EvA C tNil σ B [] := fun B1 H1 e k Q q => q [] B1 H1 k.refl .nil
theorem ea_cons {tr : TA} (h : Ev C ta σ B R) (hr : EvA C tr σ B Rs) : EvA C (tCons ta tr) σ B (R :: Rs) := fun B1 H1 e k Q q =>
  h B1 H1 e k _ fun v B2 H2 s r => hr B2 H2 (e.trans s.bb) s.ok _ fun vs B3 H3 s3 r3 => q _ B3 H3 (s.trans s3) (.cons (R.mono s3.bb r) r3)
theorem ev_lst (h : EvA C t σ B Rs) (hl : Rs.length ≤ 1000 := by simp) : Ev C (tLst t) σ B (LstR Rs) := fun B1 H1 e k Q q =>
  h B1 H1 e k _ fun vs B2 H2 s r => ⟨by rw [← r.pkLen]; exact Nat.le_trans hl (by decide), fun p hp => q _ _ _ (s.trans (s.ok.new hp)) ⟨p, vs, rfl, upd_same, r.mono (.new (s.ok.sub.un hp))⟩⟩
theorem ev_tup (h : EvA C t σ B Rs) (hl : Rs.length ≤ 1000 := by simp) : Ev C (tTup t) σ B (TupR Rs) := fun B1 H1 e k Q q =>
  h B1 H1 e k _ fun vs B2 H2 s r => ⟨by rw [← r.pkLen]; exact Nat.le_trans hl (by decide), fun p hp => q _ _ _ (s.trans (s.ok.new hp)) ⟨p, vs, rfl, upd_same, r.mono (.new (s.ok.sub.un hp))⟩⟩
theorem ev_lstD {α : Type} [Enc α] {xs : List α} (h : EvA C t σ B (xs.map (Is K))) (hl : xs.length ≤ 1000 := by simp) : Ev C (tLst t) σ B (Is K xs) := (ev_lst h (by simpa using hl)).le fun _ _ => is_lst.mpr
theorem ev_pair {α β : Type} [Enc α] [Enc β] {x : α} {y : β} (h1 : Ev C ta σ B (Is K x)) (h2 : Ev C tb σ B (Is K y)) : Ev C (tTup (tCons ta (tCons tb tNil))) σ B (Is K (x, y)) :=
  (ev_tup (ea_cons h1 (ea_cons h2 ea_nil)) (by simp)).le fun _ _ => (is_pair (x := (x, y))).mpr
theorem ev_cb {r : List V → Hp → VK → Prop} (h : EvA C t σ B Rs) (hr : RC C r Rs B S) : Ev C (tCB r t) σ B S := fun B1 H1 e k Q q =>
  h B1 H1 e k _ fun vs B2 H2 s r2 => hr vs B2 H2 (e.trans s.bb) s.ok r2 Q fun v B3 H3 s3 r3 => q v B3 H3 (s.trans s3) r3
theorem RC.mono {r : List V → Hp → VK → Prop} (e : Ex B B') (h : RC C r Rs B S) : RC C r Rs B' S := fun vs B1 H1 e1 => h vs B1 H1 (e.trans e1)
end
end Pk

/-! Iterations, comprehensions, built-ins, statements over the layer of evaluation. -/
namespace Pk
open PySem L2
open Enc (enc dep)

/-! ### iterations -/
/-- an iterator over what stands for ever -/
def EvI (C : MI) (wi : TI) (σ : L2.St) (B : Hp) (items : List Rp) : Prop := ∀ B1 H1, Ex B B1 → Ok C B1 H1 → ∀ R : It → Hp → Prop,
  (∀ J B2 H2, Stp C B1 H1 B2 H2 → (∀ B3, Ex B2 B3 → ∃ G : Hp → Prop, (∀ H3, Ex B3 H3 → G H3) ∧ (∀ i H, i < items.length → G H → J.go i H) ∧ (∀ H, G H → J.stop items.length H) ∧
    (∀ i H x H' R, items[i]? = some R → Ok C B3 H → J.yld i H x H' → ∃ B', Stp C B3 H B' H' ∧ R.P x B')) → R J H2) → wi σ H1 R
/-- a target takes a value -/
def GOk (g : TG) (R : Rp) (J : L2.St → L2.St → Hp → Prop) : Prop := ∀ v B H σ Q, Ex B H → R.P v B → (∀ σ2, J σ σ2 B → Q σ2 H) → g v σ H Q
section
variable {K : PySem.W.Frag} {R R1 R2 R3 : Rp}
def JN (j : Nat) (R : Rp) : L2.St → L2.St → Hp → Prop := fun σ σ2 B => ∃ v, R.P v B ∧ σ2 = σ.set j (some v)
def JP (i j : Nat) (R1 R2 : Rp) : L2.St → L2.St → Hp → Prop := fun σ σ2 B => ∃ v w, R1.P v B ∧ R2.P w B ∧ σ2 = (σ.set i (some v)).set j (some w)
def JT (i j k : Nat) (R1 R2 R3 : Rp) : L2.St → L2.St → Hp → Prop := fun σ σ2 B => ∃ v w x, R1.P v B ∧ R2.P w B ∧ R3.P x B ∧ σ2 = ((σ.set i (some v)).set j (some w)).set k (some x)
theorem go_name {j : Nat} : GOk (gName j) R (JN j R) := fun v B H σ Q _ h q => q _ ⟨v, h, rfl⟩
theorem go_pair {i j : Nat} : GOk (gTup K 2 (gCons (gName i) (gCons (gName j) gNil))) (TupR [R1, R2]) (JP i j R1 R2) := fun v B H σ Q e ⟨a, vs, h1, h2, h3⟩ q => by
  cases h3 with
  | @cons _ x _ _ r t =>
    cases t with
    | @cons _ y _ _ r' t =>
      cases t
      exact ⟨a, _, h1, .inl (.inl (e _ _ h2)), rfl, x, _, rfl, y, _, rfl, rfl, q _ ⟨x, y, r, r', rfl⟩⟩
theorem go_triple {i j k : Nat} : GOk (gTup K 3 (gCons (gName i) (gCons (gName j) (gCons (gName k) gNil)))) (TupR [R1, R2, R3]) (JT i j k R1 R2 R3) := fun v B H σ Q e ⟨a, vs, h1, h2, h3⟩ q => by
  cases h3 with
  | @cons _ x _ _ r t =>
    cases t with
    | @cons _ y _ _ r' t =>
      cases t with
      | @cons _ z _ _ r3 t =>
        cases t
        exact ⟨a, _, h1, .inl (.inl (e _ _ h2)), rfl, x, _, rfl, y, _, rfl, z, _, rfl, rfl, q _ ⟨x, y, z, r, r', r3, rfl⟩⟩
end
section
variable {C : MI} {K : PySem.W.Frag} {σ : L2.St} {B : Hp} {Rs : List Rp} {te ta : TE} {t : TA}
theorem ei_list (h : Ev C te σ B (LstR Rs)) : EvI C (iList K te) σ B Rs := fun B1 H1 e k R q => h B1 H1 e k _ fun v B2 H2 s ⟨a, vs, h1, h2, h3⟩ =>
  ⟨a, h1, ⟨vs, .inl (.inl (s.ok.sub _ _ h2))⟩, q _ B2 H2 s fun B3 e3 => ⟨fun H => SqL K H a vs, fun H3 e4 => .inl (.inl ((e3.trans e4) _ _ h2)),
    fun i H hi g => ⟨vs, vs[i]'(by rw [← h3.pkLen]; exact hi), g, by simp⟩, fun H g => ⟨vs, g, by rw [h3.pkLen]; exact Nat.le_refl _⟩, fun i H x H' R hR k3 y => by
      obtain ⟨e, y⟩ := y
      subst e
      obtain ⟨w, w1, w2⟩ := h3.pkGet hR
      have q := y vs (.inl (.inl (k3.sub _ _ (e3 _ _ h2))))
      rw [w1] at q
      cases q
      exact ⟨B3, k3.refl, R.mono e3 w2⟩⟩⟩
theorem ei_tup (h : Ev C te σ B (TupR Rs)) : EvI C (iTup K te) σ B Rs := fun B1 H1 e k R q => h B1 H1 e k _ fun v B2 H2 s ⟨a, vs, h1, h2, h3⟩ =>
  ⟨a, h1, ⟨vs, .inl (.inl (s.ok.sub _ _ h2))⟩, q _ B2 H2 s fun B3 e3 => ⟨fun H => SqT K H a vs, fun H3 e4 => .inl (.inl ((e3.trans e4) _ _ h2)),
    fun i H hi g => ⟨vs, vs[i]'(by rw [← h3.pkLen]; exact hi), g, by simp⟩, fun H g => ⟨vs, g, by rw [h3.pkLen]; exact Nat.le_refl _⟩, fun i H x H' R hR k3 y => by
      obtain ⟨e, y⟩ := y
      subst e
      obtain ⟨w, w1, w2⟩ := h3.pkGet hR
      have q := y vs (.inl (.inl (k3.sub _ _ (e3 _ _ h2))))
      rw [w1] at q
      cases q
      exact ⟨B3, k3.refl, R.mono e3 w2⟩⟩⟩
theorem ei_listD {α : Type} [Enc α] {xs : List α} (h : Ev C te σ B (Is K xs)) : EvI C (iList K te) σ B (xs.map (Is K)) := ei_list (h.le fun _ _ => is_lst.mp)
theorem ei_tupD {α : Type} [Enc α] {xs : Tu α} (h : Ev C te σ B (Is K xs)) : EvI C (iTup K te) σ B (xs.l.map (Is K)) := ei_tup (h.le fun _ _ => is_tup.mp)
/-- range(n), range(a, b) -/
def rng (lo : Int) (n : Nat) : List Int := (List.range n).map fun i : Nat => lo + (i : Int)
theorem rng_get {lo : Int} {n i : Nat} (h : i < n) : (rng lo n)[i]? = some (lo + i) := by simp [rng, h]
theorem rng_len {lo : Int} {n : Nat} : (rng lo n).length = n := by simp [rng]
theorem ei_rngs (J : It) (lo : Int) (n : Nat) (hJ : J = Itr lo n) {B1 H1 : Hp} (k : Ok C B1 H1) {R : It → Hp → Prop}
    (q : ∀ J B2 H2, Stp C B1 H1 B2 H2 → (∀ B3, Ex B2 B3 → ∃ G : Hp → Prop, (∀ H3, Ex B3 H3 → G H3) ∧ (∀ i H, i < ((rng lo n).map (Is K)).length → G H → J.go i H) ∧ (∀ H, G H → J.stop ((rng lo n).map (Is K)).length H) ∧
    (∀ i H x H' R, ((rng lo n).map (Is K))[i]? = some R → Ok C B3 H → J.yld i H x H' → ∃ B', Stp C B3 H B' H' ∧ R.P x B')) → R J H2) : R J H1 := by
  subst hJ
  refine q _ B1 H1 k.refl fun B3 e3 => ⟨fun _ => True, fun _ _ => trivial, fun i H hi _ => ?_, fun H _ => ?_, fun i H x H' R hR k3 y => ?_⟩
  · rw [List.length_map, rng_len] at hi; exact hi
  · show n ≤ _
    simp [rng_len]
  · obtain ⟨e, y⟩ := y
    subst e
    rw [List.getElem?_map] at hR
    cases hq : (rng lo n)[i]? with
    | none => rw [hq] at hR; cases hR
    | some z =>
      rw [hq] at hR
      have hi : i < n := by have := (List.getElem?_eq_some_iff.mp hq).1; simpa [rng_len] using this
      rw [rng_get hi] at hq
      cases hq
      cases hR
      exact ⟨B3, k3.refl, is_int.mpr y⟩
theorem ei_range1 {n : Int} (h : EvA C t σ B [Is K n]) (hn : -1000000000000000000 ≤ n ∧ n ≤ 1000000000000000000) : EvI C (iRng1 t) σ B ((rng 0 n.toNat).map (Is K)) := fun B1 H1 e k R q => h B1 H1 e k _ fun vs B2 H2 s r => by
  cases r with
  | cons r t =>
    cases t
    rw [is_int.mp r]
    exact ⟨n, rfl, by omega, by omega, ei_rngs (K := K) _ 0 n.toNat rfl s.ok fun J B3 H3 s3 g => q J B3 H3 (s.trans s3) g⟩
theorem ei_range2 {lo n : Int} (h : EvA C t σ B [Is K lo, Is K n]) (hn : -1000000000000000000 ≤ n ∧ n ≤ 1000000000000000000) (hl : -1000000000000000000 ≤ lo ∧ lo ≤ 1000000000000000000) : EvI C (iRng2 t) σ B ((rng lo (n - lo).toNat).map (Is K)) :=
  fun B1 H1 e k R q => h B1 H1 e k _ fun vs B2 H2 s r => by
  cases r with
  | cons r t =>
    cases t with
    | cons r' t =>
      cases t
      rw [is_int.mp r, is_int.mp r']
      exact ⟨lo, n, rfl, by omega, ei_rngs (K := K) _ lo _ rfl s.ok fun J B3 H3 s3 g => q J B3 H3 (s.trans s3) g⟩
/-- zip, enumerate of lists -/
theorem pair_new {B H : Hp} {T : Addr} {x y : V} {R R' : Rp} (k : Ok C B H) (hn : H T = none) (hx : R.P x B) (hy : R'.P y B) : ∃ B', Stp C B H B' (upd H T (.tup [x, y])) ∧ (TupR [R, R']).P (.ref T) B' :=
  have e : Ex B (upd B T (.tup [x, y])) := .new (k.sub.un hn)
  ⟨_, k.new hn, T, [x, y], rfl, upd_same, .cons (R.mono e hx) (.cons (R'.mono e hy) .nil)⟩
theorem zipWith_get {α β γ : Type} {f : α → β → γ} {l : List α} {m : List β} {i : Nat} {c : γ} (h : (List.zipWith f l m)[i]? = some c) : ∃ a b, l[i]? = some a ∧ m[i]? = some b ∧ c = f a b := by
  rw [List.getElem?_zipWith] at h
  cases h1 : l[i]? with
  | none => rw [h1] at h; cases h
  | some a =>
    cases h2 : m[i]? with
    | none => rw [h1, h2] at h; cases h
    | some b => rw [h1, h2] at h; exact ⟨a, b, rfl, rfl, by cases h; rfl⟩
theorem ei_zip {Rs' : List Rp} (h : EvA C t σ B [LstR Rs, LstR Rs']) : EvI C (iZip K t) σ B (List.zipWith (fun R R' => TupR [R, R']) Rs Rs') := fun B1 H1 e k R q => h B1 H1 e k _ fun vs B2 H2 s r => by
  cases r with
  | cons r t =>
    cases t with
    | cons r' t =>
      cases t
      obtain ⟨a, xs, h1, h2, h3⟩ := r
      obtain ⟨b, ys, h1', h2', h3'⟩ := r'
      subst h1 h1'
      have w := fun {G : Unit} => walk_zip (K := K) (a := a) (b := b) (xs := xs) (ys := ys) (n := (List.zipWith (fun R R' => TupR [R, R']) Rs Rs').length) (by rw [List.length_zipWith, h3.pkLen, h3'.pkLen])
      refine ⟨a, b, xs, ys, rfl, .inl (.inl (s.ok.sub _ _ h2)), .inl (.inl (s.ok.sub _ _ h2')), q _ B2 H2 s fun B3 e3 => ⟨fun H => SqL K H a xs ∧ SqL K H b ys, fun H3 e4 => ⟨.inl (.inl ((e3.trans e4) _ _ h2)), .inl (.inl ((e3.trans e4) _ _ h2'))⟩, (w (G := ())).goes, (w (G := ())).stops, fun i H x H' R hR k3 y => ?_⟩⟩
      have hi : i < (List.zipWith (fun R R' => TupR [R, R']) Rs Rs').length := (List.getElem?_eq_some_iff.mp hR).1
      obtain ⟨T, u, z, e1, e2, e4, e5, e6⟩ := (w (G := ())).yields i H x H' hi ⟨.inl (.inl (k3.sub _ _ (e3 _ _ h2))), .inl (.inl (k3.sub _ _ (e3 _ _ h2')))⟩ y
      obtain ⟨Ra, Rb, g1, g2, rfl⟩ := zipWith_get hR
      obtain ⟨u', f1, f2⟩ := h3.pkGet g1
      obtain ⟨z', f3, f4⟩ := h3'.pkGet g2
      have e5' : xs[i]? = some u := e5
      have e6' : ys[i]? = some z := e6
      rw [f1] at e5'; cases e5'
      rw [f3] at e6'; cases e6'
      subst e1 e4
      exact pair_new k3 e2 (Ra.mono e3 f2) (Rb.mono e3 f4)
def enumR (K : PySem.W.Frag) (Rs : List Rp) : List Rp := List.zipWith (fun (i : Nat) R => TupR [Is K (i : Int), R]) (List.range Rs.length) Rs
theorem ei_enum (h : EvA C t σ B [LstR Rs]) : EvI C (iEnum K t) σ B (enumR K Rs) := fun B1 H1 e k R q => h B1 H1 e k _ fun vs B2 H2 s r => by
  cases r with
  | cons r t =>
    cases t
    obtain ⟨a, xs, h1, h2, h3⟩ := r
    subst h1
    have hl : (enumR K Rs).length = xs.length := by unfold enumR; rw [List.length_zipWith, List.length_range, Nat.min_self, h3.pkLen]
    refine ⟨a, xs, rfl, .inl (.inl (s.ok.sub _ _ h2)), q _ B2 H2 s fun B3 e3 => ⟨fun H => SqL K H a xs, fun H3 e4 => .inl (.inl ((e3.trans e4) _ _ h2)), by rw [hl]; exact walk_enum.goes, by rw [hl]; exact walk_enum.stops, fun i H x H' R hR k3 y => ?_⟩⟩
    have hi : i < xs.length := by rw [← hl]; exact (List.getElem?_eq_some_iff.mp hR).1
    obtain ⟨T, u, z, e1, e2, e4, e5, e6⟩ := (walk_enum (K := K) (a := a) (xs := xs)).yields i H x H' hi (.inl (.inl (k3.sub _ _ (e3 _ _ h2)))) y
    obtain ⟨Ra, Rb, g1, g2, rfl⟩ := zipWith_get hR
    have ei : Ra = i := by
      rw [List.getElem?_range (by rw [h3.pkLen]; exact hi)] at g1
      exact (Option.some.inj g1).symm
    subst ei
    obtain ⟨z', f3, f4⟩ := h3.pkGet g2
    have e6' : xs[Ra]? = some z := e6
    rw [f3] at e6'; cases e6'
    have e5' : u = V.int (Ra : Int) := (Option.some.inj e5).symm
    subst e1 e4 e5'
    exact pair_new k3 e2 (is_int.mpr rfl) (Rb.mono e3 f4)
end

/-! ### comprehensions -/
section
variable {C : MI} {K : PySem.W.Frag} {σ : L2.St} {B : Hp} {wi : TI} {g : TG} {tt : TT} {te : TE} {vs : List Nat} {α β : Type}
/-- the items kept, what is made of each -/
def kept (p : Nat → Bool) (f : Nat → Rp) (n : Nat) : List Rp := ((List.range n).filter p).map f
theorem kept_succ (p : Nat → Bool) (f : Nat → Rp) (n : Nat) : kept p f (n + 1) = if p n = true then kept p f n ++ [f n] else kept p f n := by
  unfold kept
  rw [List.range_succ, List.filter_append, List.map_append]
  by_cases h : p n = true <;> simp [h]
theorem kept_len (p : Nat → Bool) (f : Nat → Rp) (n : Nat) : (kept p f n).length ≤ n := by
  unfold kept
  rw [List.length_map]
  exact Nat.le_trans (List.length_filter_le _ _) (by simp)
theorem ev_lcI {items : List Rp} {J : Nat → L2.St → L2.St → Hp → Prop} (p : Nat → Bool) (f : Nat → Rp) (hi : EvI C wi σ B items) (hn : items.length ≤ 16000000)
    (hg : ∀ i R, items[i]? = some R → GOk g R (J i))
    (he : ∀ i σ2 B', i < items.length → Ex B B' → J i (wipe σ vs) σ2 B' → wipe σ2 vs = wipe σ vs ∧ EvT C tt σ2 B' (p i) ∧ (p i = true → Ev C te σ2 B' (f i))) :
    Ev C (tLc wi g tt te vs) σ B (LstR (kept p f items.length)) := fun B1 H1 e k Q q => hi B1 H1 e k _ fun Jt B2 H2 s2 hJ D hD => by
  let Pv : Nat → Hp → Prop := fun i H => ∃ B' acc, Stp C B1 H1 B' H ∧ Ex B2 B' ∧ B' D = none ∧ H D = some (.lst acc) ∧ Args (kept p f i) acc B'
  have hD1 : H1 D = none := by
    cases h : H1 D with
    | none => rfl
    | some o => exact absurd hD (s2.live (by rw [h]; simp))
  have nM : ¬ C.M D := s2.ok.fresh hD
  refine ⟨fun i m H => m = items.length - i ∧ i ≤ items.length ∧ Pv i H, ⟨items.length, by simp, Nat.zero_le _, B2, [], s2.loc hD1 (s2.ok.sub.un hD) nM, .refl _, s2.ok.sub.un hD, upd_same, .nil⟩, ?_⟩
  rintro i m H ⟨rfl, hi, B', acc, s, eb, hb, hl, ha⟩
  obtain ⟨G, g1, g2, g3, g4⟩ := hJ B' eb
  by_cases hlt : i < items.length
  · refine .inr ⟨g2 i H hlt (g1 H s.ok.sub), Pv (i + 1), fun H' p' => ⟨items.length - (i + 1), by omega, rfl, hlt, p'⟩, fun x H' y => ?_⟩
    obtain ⟨B3, s3, r3⟩ := g4 i H x H' items[i] (by simp [hlt]) s.ok y
    have hD3 : B3 D = none := s3.nw D (by rw [hl]; trivial) hb
    refine hg i items[i] (by simp [hlt]) x B3 H' (wipe σ vs) _ s3.ok.sub r3 fun σ2 j2 => ?_
    obtain ⟨w1, w2, w3⟩ := he i σ2 B3 hlt ((e.trans s2.bb).trans (eb.trans s3.bb)) j2
    refine ⟨w1, w2 B3 H' (.refl _) s3.ok _ fun H3 s4 => ?_⟩
    by_cases hp : p i = true
    · rw [if_pos hp]
      refine w3 hp B3 H3 (.refl _) s4.ok _ fun v B5 H5 s5 r5 => ?_
      have st : Stp C B' H B5 H5 := s3.trans (s4.trans s5)
      have l5 : H5 D = some (.lst acc) := st.hh D _ nM hl
      have b5 : B5 D = none := st.nw D (by rw [hl]; trivial) hb
      refine ⟨acc, l5, ?_, B5, acc ++ [v], (s.trans st).loc hD1 b5 nM, eb.trans st.bb, b5, upd_same, ?_⟩
      · rw [← ha.pkLen]; have := kept_len p f i; exact Nat.lt_of_le_of_lt this (Nat.lt_of_lt_of_le hlt (Nat.le_trans hn (by decide)))
      · rw [kept_succ, if_pos hp]; exact Paired.pkApp (ha.mono st.bb) (.cons r5 .nil)
    · rw [if_neg hp]
      have st : Stp C B' H B3 H3 := s3.trans s4
      exact ⟨B3, acc, s.trans st, eb.trans st.bb, hD3, st.hh D _ nM hl, by rw [kept_succ, if_neg hp]; exact ha.mono st.bb⟩
  · have ei : i = items.length := by omega
    subst ei
    refine .inl ⟨g3 H (g1 H s.ok.sub), ?_⟩
    exact q (.ref D) (upd B' D (.lst acc)) H (s.frz hD1 hb nM hl) ⟨D, acc, rfl, upd_same, ha.mono (.new hb)⟩
theorem kept_map (R : β → Rp) (xs : List α) (p : α → Bool) (f : α → β) (d : α) : ∀ n, n ≤ xs.length → kept (fun i => p (xs.getD i d)) (fun i => R (f (xs.getD i d))) n = ((xs.take n).filter p |>.map f).map R
  | 0, _ => by simp [kept]
  | n + 1, h => by
    rw [kept_succ, kept_map R xs p f d n (by omega)]
    have hx : xs.getD n d = xs[n] := by simp [List.getD, List.getElem?_eq_getElem (show n < xs.length by omega)]
    rw [List.take_succ_eq_append_getElem (show n < xs.length by omega), List.filter_append, List.map_append, List.map_append, hx]
    by_cases hp : p xs[n] = true <;> simp [hp]
/-- over typed items, with a test -/
theorem ev_lcF {Ri : α → Rp} {Ro : β → Rp} {xs : List α} {J : α → L2.St → L2.St → Hp → Prop} (p : α → Bool) (f : α → β) (hi : EvI C wi σ B (xs.map Ri)) (hn : xs.length ≤ 16000000) (hg : ∀ x, GOk g (Ri x) (J x))
    (he : ∀ x σ2 B', x ∈ xs → Ex B B' → J x (wipe σ vs) σ2 B' → wipe σ2 vs = wipe σ vs ∧ EvT C tt σ2 B' (p x) ∧ (p x = true → Ev C te σ2 B' (Ro (f x)))) :
    Ev C (tLc wi g tt te vs) σ B (LstR (((xs.filter p).map f).map Ro)) := by
  cases xs with
  | nil =>
    have h := ev_lcI (C := C) (g := g) (tt := tt) (te := te) (vs := vs) (J := fun _ _ _ _ => True) (fun _ => false) (fun _ => AnyR) hi (by simp) (fun i R h => by simp at h) (fun i σ2 B' hi => by simp at hi)
    exact h
  | cons x0 xs0 =>
    have h := ev_lcI (C := C) (g := g) (tt := tt) (te := te) (vs := vs) (J := fun i => J ((x0 :: xs0).getD i x0)) (fun i => p ((x0 :: xs0).getD i x0)) (fun i => Ro (f ((x0 :: xs0).getD i x0))) hi (by simpa using hn) (fun i R h => by
        rw [List.getElem?_map] at h
        cases hq : (x0 :: xs0)[i]? with
        | none => rw [hq] at h; cases h
        | some z =>
          rw [hq] at h; cases h
          have e : (x0 :: xs0).getD i x0 = z := by simp only [List.getD, hq, Option.getD_some]
          rw [e]; exact hg z) (fun i σ2 B' hi eb j => he _ σ2 B' (by
            rw [List.length_map] at hi
            simp only [List.getD, List.getElem?_eq_getElem hi, Option.getD_some]
            exact List.getElem_mem hi) eb j)
    rw [List.length_map, kept_map Ro (x0 :: xs0) p f x0 _ (Nat.le_refl _), List.take_length] at h
    exact h
theorem et_yes : EvT C tYes σ B true := fun B1 H1 e k Q q => q H1 k.refl
/-- .. without a test -/
theorem ev_lcM {Ri : α → Rp} {Ro : β → Rp} {xs : List α} {J : α → L2.St → L2.St → Hp → Prop} (f : α → β) (hi : EvI C wi σ B (xs.map Ri)) (hn : xs.length ≤ 16000000) (hg : ∀ x, GOk g (Ri x) (J x))
    (he : ∀ x σ2 B', x ∈ xs → Ex B B' → J x (wipe σ vs) σ2 B' → wipe σ2 vs = wipe σ vs ∧ Ev C te σ2 B' (Ro (f x))) : Ev C (tLc wi g tYes te vs) σ B (LstR ((xs.map f).map Ro)) := by
  have h := ev_lcF (Ro := Ro) (fun _ => true) f hi hn hg fun x σ2 B' hx eb j => ⟨(he x σ2 B' hx eb j).1, et_yes, fun _ => (he x σ2 B' hx eb j).2⟩
  rw [show xs.filter (fun _ => true) = xs from List.filter_eq_self.mpr fun _ _ => rfl] at h
  exact h
theorem lst_is {xs : List β} [Enc β] {v : V} : (LstR (xs.map (Is K))).P v B → (Is K xs).P v B := is_lst.mpr
end
end Pk

/-! Rules of our own: zip over lists and tuples in any mix, pairs of a dict with tuple keys, repr of data, sorted of data, lists glued. -/
namespace Pk
open PySem PySem.Spec PyProof.Rows L2

/-! ### a list or a tuple as a source -/
def Sq (K : PySem.W.Frag) : Bool → Hp → Addr → List V → Prop
  | true, H, a, xs => SqL K H a xs
  | false, H, a, xs => SqT K H a xs
def ItAt : Bool → Heap → Addr → Addr → Nat → Prop
  | true, h, i, a, k => h.IsListIter i a k
  | false, h, i, a, k => h.IsTupleIter i a k
def ItO : Bool → Addr → Obj
  | true, a => { cls := .type "list_iterator", data := .fields #[.ref a, .int 0 0] }
  | false, a => { cls := .type "tuple_iterator", data := .fields #[.ref a, .int 0 0] }
def SqAt : Bool → Heap → Addr → Array Value → Prop
  | true, h, a, its => h.IsList a its
  | false, h, a, its => h.IsTuple a its
theorem itAt_obj : ∀ {b : Bool} {h : Heap} {i a : Addr} {k : Nat}, ItAt b h i a k → ∃ o, h.get? i = some o ∧ ∀ v, o.data ≠ .cell v
  | true, _, _, _, _, ⟨o, e, _, d⟩ => ⟨o, e, fun v q => by rw [d] at q; cases q⟩
  | false, _, _, _, _, ⟨o, e, _, d⟩ => ⟨o, e, fun v q => by rw [d] at q; cases q⟩
theorem itAt_keep : ∀ {b : Bool} {h h' : Heap} {i a : Addr} {k : Nat}, ItAt b h i a k → (∀ o, h.get? i = some o → h'.get? i = some o) → ItAt b h' i a k
  | true, _, _, _, _, _, ⟨o, e, c, d⟩, f => ⟨o, f o e, c, d⟩
  | false, _, _, _, _, _, ⟨o, e, c, d⟩, f => ⟨o, f o e, c, d⟩
theorem itAt_new : ∀ {b : Bool} {h : Heap} {i a : Addr}, h.get? i = some (ItO b a) → ItAt b h i a 0
  | true, _, _, _, e => ⟨_, e, rfl, rfl⟩
  | false, _, _, _, e => ⟨_, e, rfl, rfl⟩
theorem draws {prog : Program} {w : World} {A : Around} (hh : A.handled = none) (it a : Addr) (ne : a ≠ it) (its : Array Value) : ∀ b : Bool,
    Draws prog w A it [it, a] its.size (fun i v => its[i]? = some v) (fun i h => ItAt b h it a i ∧ SqAt b h a its)
  | true => Draws.list hh it a ne its
  | false => Draws.tuple hh it a ne its
theorem begins (a : Addr) (its : Array Value) : ∀ b : Bool, Begins (.ref a) (ItO b a) fun h => SqAt b h a its
  | true => begins_list a its
  | false => begins_tuple a its
section
variable {X : Cx} {pins : List (Addr × Obj)} {σ : L2.St} {H : Hp} {s : Shared} {a : Addr} {xs ys : List V}
theorem sq_get (I : Inv X pins σ H s) : ∀ {b : Bool}, Sq X.K b H a xs → ∃ its : List Value, Vals xs its ∧ SqAt b s.heap a its.toArray ∧ xs.length ≤ sizeLine ∧ a < s.heap.objs.size
  | true, h => by
    obtain ⟨its, r, p, z⟩ := I.list h
    exact ⟨its, r, p.isList, z, p.lt⟩
  | false, h => by
    obtain ⟨its, r, p, z⟩ := I.tuple h
    obtain ⟨o, e, c, n, d⟩ := p
    exact ⟨its, r, ⟨o, e, c, n, d⟩, z, Heap.lt_size e⟩
theorem sq_inj (I : Inv X pins σ H s) : ∀ {b : Bool}, Sq X.K b H a xs → Sq X.K b H a ys → xs = ys
  | true, h, h' => I.list_inj h h'
  | false, h, h' => I.tuple_inj h h'
end

/-! ### zip of two -/
def ItM2 (K : PySem.W.Frag) (b1 b2 : Bool) (a c : Addr) : It :=
  ⟨fun i H => ∃ (xs ys : List V) (x y : V), Sq K b1 H a xs ∧ Sq K b2 H c ys ∧ xs[i]? = some x ∧ ys[i]? = some y,
   fun i H v H' => ∃ T x y, v = .ref T ∧ H T = none ∧ H' = upd H T (.tup [x, y]) ∧ (∀ xs, Sq K b1 H a xs → xs[i]? = some x) ∧ ∀ ys, Sq K b2 H c ys → ys[i]? = some y,
   fun i H => ∃ xs ys : List V, Sq K b1 H a xs ∧ Sq K b2 H c ys ∧ i ≤ xs.length ∧ i ≤ ys.length ∧ (i = xs.length ∨ i = ys.length)⟩
theorem turn_m2 {P : Program} {w : World} {K : PySem.W.Frag} {elts : List Expr} {kk : Nat} {tpos : Pos} {b1 b2 : Bool} {a c z TI TO i1 i2 : Addr} (D : ZipSep2 z TI TO i1 i2 [i1, a] [i2, c]) (n1 : a ≠ i1) (n2 : c ≠ i2) :
    Turn P w K (.Tuple elts kk tpos) (ItM2 K b1 b2 a c) [z, TI, TO, i1, i2] z (fun i h => IsZip h z TI TO .none ∧ IsTupOf2 h TI (.ref i1) (.ref i2) ∧ (∃ x y, IsTupOf2 h TO x y) ∧ ItAt b1 h i1 a i ∧ ItAt b2 h i2 c i) where
  mem := List.mem_cons_self
  obj := by
    rintro i h ⟨hz, hTI, ⟨x, y, hTO⟩, h1, h2⟩ q hq
    have e : q = z ∨ q = TI ∨ q = TO ∨ q = i1 ∨ q = i2 := by simpa using hq
    rcases e with rfl | rfl | rfl | rfl | rfl
    · exact ⟨_, hz, fun v q => nomatch q⟩
    · exact ⟨_, hTI, fun v q => nomatch q⟩
    · exact ⟨_, hTO, fun v q => nomatch q⟩
    · exact itAt_obj h1
    · exact itAt_obj h2
  keep := by
    rintro i h h' ⟨hz, hTI, ⟨x, y, hTO⟩, h1, h2⟩ k
    exact ⟨k z (by simp) _ hz, k TI (by simp) _ hTI, ⟨x, y, k TO (by simp) _ hTO⟩, itAt_keep h1 fun o q => k i1 (by simp) o q, itAt_keep h2 fun o q => k i2 (by simp) o q⟩
  item := by
    rintro X rfl rfl rfl hc i pins s σ H E I hf ⟨hz, hTI, ⟨x0, y0, hTO⟩, h1, h2⟩ ⟨xs, ys, x, y, qx, qy, ex, ey⟩
    obtain ⟨its, rv, p, _, _⟩ := sq_get I qx
    obtain ⟨its2, rv2, p2, _, _⟩ := sq_get I qy
    obtain ⟨u, hu, ru⟩ := rv.get ex
    obtain ⟨u2, hu2, ru2⟩ := rv2.get ey
    have L1 : i < its.toArray.size := by
      have := (List.getElem?_eq_some_iff.mp hu).1
      simpa using this
    have L2 : i < its2.toArray.size := by
      have := (List.getElem?_eq_some_iff.mp hu2).1
      simpa using this
    have hz0 : z < s.heap.objs.size := Heap.lt_size hz
    apply wpAny_pyNext_zipD2_item D (draws (prog := X.prog) (w := X.w) (A := X.A.in1) (show X.A.in1.handled = none from I.ok.hd hc) i1 a n1 its.toArray b1) (draws (prog := X.prog) (w := X.w) (A := X.A.in1) (show X.A.in1.handled = none from I.ok.hd hc) i2 c n2 its2.toArray b2) hz hTI hTO ⟨h1, p⟩ ⟨h2, p2⟩ L1 L2
    intro v1 v2 h' tk e1 e2 z' TO' s1 s2 hT hsz hk
    have ev1 : v1 = u := by
      have e1' : its.toArray[i]? = some v1 := e1
      rw [List.getElem?_toArray, hu] at e1'
      exact (Option.some.inj e1').symm
    have ev2 : v2 = u2 := by
      have e2' : its2.toArray[i]? = some v2 := e2
      rw [List.getElem?_toArray, hu2] at e2'
      exact (Option.some.inj e2').symm
    subst ev1 ev2
    refine ⟨_, rfl, wpAny_letOwnedTupleGo_zip (s := { s with heap := h', toks := tk }) z' ?_⟩
    intro h'' z'' sb
    have hT2 : h''.get? s.heap.objs.size = some { cls := .type "tuple", data := .seq #[v1, v2] } := (sb.2 _ (Nat.ne_of_gt hz0)).trans hT
    have new : ObjOk X.prog X.w (upd H s.heap.objs.size (.tup [x, y])) h'' s.heap.objs.size (.tup [x, y]) :=
      ⟨show 2 ≤ sizeLine by decide, [v1, v2], .cons ru (.cons ru2 .nil), _, hT2, rfl, _, rfl⟩
    have far : ∀ q o, q ∉ [z, TI, TO, i1, i2] → s.heap.get? q = some o → h''.get? q = some o := by
      intro q o hq e
      simp only [List.mem_cons, List.not_mem_nil, or_false, not_or] at hq
      exact (sb.2 q hq.1).trans (hk q o hq.1 hq.2.2.1 hq.2.2.2.1 hq.2.2.2.2 e)
    have I1 := I.turnedNew (t' := tk) (ch := [z, TI, TO, i1, i2]) far hf (Nat.le_refl _) new
    refine ⟨.ref s.heap.objs.size, _, I1, rfl, ⟨_, x, y, rfl, I.hok.fresh (Nat.le_refl _), rfl, fun l hl => ?_, fun l hl => ?_⟩, ⟨z'', ?_, ⟨v1, v2, ?_⟩, ?_, ?_⟩, ?_⟩
    · rw [sq_inj I hl qx]; exact ex
    · rw [sq_inj I hl qy]; exact ey
    · exact (sb.2 _ D.TIz).trans (hk _ _ D.TIz D.TITO D.TIi1 D.TIi2 hTI)
    · exact (sb.2 _ D.TOz).trans TO'
    · exact itAt_keep s1.1 fun o q => (sb.2 _ D.zi1.symm).trans q
    · exact itAt_keep s2.1 fun o q => (sb.2 _ D.zi2.symm).trans q
    · intro q hq
      have hlt : q < s.heap.objs.size := by
        have e : q = z ∨ q = TI ∨ q = TO ∨ q = i1 ∨ q = i2 := by simpa using hq
        rcases e with rfl | rfl | rfl | rfl | rfl
        · exact hz0
        · exact Heap.lt_size hTI
        · exact Heap.lt_size hTO
        · obtain ⟨_, e, _⟩ := itAt_obj h1; exact Heap.lt_size e
        · obtain ⟨_, e, _⟩ := itAt_obj h2; exact Heap.lt_size e
      rw [upd_ne (Nat.ne_of_lt hlt)]
      exact (hf q hq).1
  done := by
    rintro X rfl rfl rfl hc i pins s σ H E I hf ⟨hz, hTI, ⟨x0, y0, hTO⟩, h1, h2⟩ ⟨xs, ys, qx, qy, l1, l2, fin⟩
    obtain ⟨its, rv, p, _, _⟩ := sq_get I qx
    obtain ⟨its2, rv2, p2, _, _⟩ := sq_get I qy
    have g1 := rv.length
    have g2 := rv2.length
    have z1 : its.toArray.size = xs.length := by simp [g1]
    have z2 : its2.toArray.size = ys.length := by simp [g2]
    apply wpAny_pyNext_zipD2_end D (draws (prog := X.prog) (w := X.w) (A := X.A.in1) (show X.A.in1.handled = none from I.ok.hd hc) i1 a n1 its.toArray b1) (draws (prog := X.prog) (w := X.w) (A := X.A.in1) (show X.A.in1.handled = none from I.ok.hd hc) i2 c n2 its2.toArray b2) hz hTI hTO ⟨h1, p⟩ ⟨h2, p2⟩ (by omega) (by omega) (by omega)
    intro h' tk hk
    refine ⟨rfl, I.turnedL (t' := tk) (ch := [z, TI, TO, i1, i2]) (fun q o hq e => ?_) hf⟩
    simp only [List.mem_cons, List.not_mem_nil, or_false, not_or] at hq
    exact hk q o hq.1 hq.2.2.1 hq.2.2.2.1 hq.2.2.2.2 e
  self := fun A i s Q E st h => wpAny_pyIter_zip st.1 h

def iZipM (K : PySem.W.Frag) (b1 b2 : Bool) (ta : TA) : TI := fun σ H R => ta σ H fun vs H1 => ∃ a c xs ys, vs = [.ref a, .ref c] ∧ Sq K b1 H1 a xs ∧ Sq K b2 H1 c ys ∧ R (ItM2 K b1 b2 a c) H1
theorem pi_zipM {X : Cx} (b1 b2 : Bool) {e e2 : Expr} {ta : TA} {p pos tpos : Pos} {elts : List Expr} {kk : Nat} (hg : Gl X "zip") (hm : X.mg "zip" = none) (ha : PA X [e, e2] ta)
    (hs : starEach [e, e2] X.env = (false, eval e X.env) :: starEach [e2] X.env := by rfl) (hpl : (backTo pos (starEach [e2] X.env)).any (·.1) = false := by rfl) :
    PI X (.Tuple elts kk tpos) (.Call (.Name "zip" p) [e, e2] [] pos) (iZipM X.K b1 b2 ta) := by
  constructor
  intro pins s σ H R I h
  refine Call_ (ld_blt I hg hm PyProof.Rows.boot_zip (PyProof.Rows.callWith_type1 (thn (ha.run pos pins s σ H _ I h) ?_) hs hpl))
  rintro us s1 ⟨vs, H1, I1, r1, a, c, xs, ys, rfl, qx, qy, q⟩
  cases r1 with
  | cons r rr =>
    cases rr with
    | cons r' rr =>
      cases rr
      cases r
      cases r'
      obtain ⟨its, rv, p1, _, la⟩ := sq_get I1 qx
      obtain ⟨its2, rv2, p2, _, lc⟩ := sq_get I1 qy
      apply zip_begins2 (begins a its.toArray b1) (begins c its2.toArray b2) p1 p2
      intro h' hz hTI hTO o1 o2 hsz hk
      apply wpAny_pyIter_zip hz
      have I2 : Inv X pins σ H1 { s1 with heap := h' } := I1.kept (t' := s1.toks) hk
      have D := zip_sep2 (N := s1.heap.objs.size) (fp1 := [a]) (fp2 := [c]) (by simpa using la) (by simpa using lc)
      refine ⟨s1.heap.objs.size + 4, [s1.heap.objs.size + 4, s1.heap.objs.size + 2, s1.heap.objs.size + 3, s1.heap.objs.size, s1.heap.objs.size + 1], _, _, H1, rfl, I2,
        turn_m2 D (Nat.ne_of_lt la) (Nat.ne_of_lt (Nat.lt_succ_of_lt lc)), ⟨hz, hTI, ⟨_, _, hTO⟩, itAt_new o1, itAt_new o2⟩, ?_, q⟩
      intro g hg
      have hle : s1.heap.objs.size ≤ g := by
        have e : g = s1.heap.objs.size + 4 ∨ g = s1.heap.objs.size + 2 ∨ g = s1.heap.objs.size + 3 ∨ g = s1.heap.objs.size ∨ g = s1.heap.objs.size + 1 := by simpa using hg
        rcases e with q | q | q | q | q <;> rw [q] <;> first | exact Nat.le_refl _ | exact Nat.le_add_right _ _
      exact I1.fpOk hle (I1.hok.fresh hle)

/-! ### zip of three -/
def ItM3 (K : PySem.W.Frag) (b1 b2 b3 : Bool) (a c d : Addr) : It :=
  ⟨fun i H => ∃ (xs ys zs : List V) (x y z : V), Sq K b1 H a xs ∧ Sq K b2 H c ys ∧ Sq K b3 H d zs ∧ xs[i]? = some x ∧ ys[i]? = some y ∧ zs[i]? = some z,
   fun i H v H' => ∃ T x y z, v = .ref T ∧ H T = none ∧ H' = upd H T (.tup [x, y, z]) ∧ (∀ xs, Sq K b1 H a xs → xs[i]? = some x) ∧ (∀ ys, Sq K b2 H c ys → ys[i]? = some y) ∧ ∀ zs, Sq K b3 H d zs → zs[i]? = some z,
   fun i H => ∃ xs ys zs : List V, Sq K b1 H a xs ∧ Sq K b2 H c ys ∧ Sq K b3 H d zs ∧ i ≤ xs.length ∧ i ≤ ys.length ∧ i ≤ zs.length ∧ (i = xs.length ∨ i = ys.length ∨ i = zs.length)⟩
theorem turn_m3 {P : Program} {w : World} {K : PySem.W.Frag} {elts : List Expr} {kk : Nat} {tpos : Pos} {b1 b2 b3 : Bool} {a c d z TI TO i1 i2 i3 : Addr} (D : ZipSep3 z TI TO i1 i2 i3 [i1, a] [i2, c] [i3, d]) (n1 : a ≠ i1) (n2 : c ≠ i2) (n3 : d ≠ i3) :
    Turn P w K (.Tuple elts kk tpos) (ItM3 K b1 b2 b3 a c d) [z, TI, TO, i1, i2, i3] z
      (fun i h => IsZip h z TI TO .none ∧ IsTupOf3 h TI (.ref i1) (.ref i2) (.ref i3) ∧ (∃ x y t, IsTupOf3 h TO x y t) ∧ ItAt b1 h i1 a i ∧ ItAt b2 h i2 c i ∧ ItAt b3 h i3 d i) where
  mem := List.mem_cons_self
  obj := by
    rintro i h ⟨hz, hTI, ⟨x, y, t, hTO⟩, h1, h2, h3⟩ q hq
    have e : q = z ∨ q = TI ∨ q = TO ∨ q = i1 ∨ q = i2 ∨ q = i3 := by simpa using hq
    rcases e with rfl | rfl | rfl | rfl | rfl | rfl
    · exact ⟨_, hz, fun v q => nomatch q⟩
    · exact ⟨_, hTI, fun v q => nomatch q⟩
    · exact ⟨_, hTO, fun v q => nomatch q⟩
    · exact itAt_obj h1
    · exact itAt_obj h2
    · exact itAt_obj h3
  keep := by
    rintro i h h' ⟨hz, hTI, ⟨x, y, t, hTO⟩, h1, h2, h3⟩ k
    exact ⟨k z (by simp) _ hz, k TI (by simp) _ hTI, ⟨x, y, t, k TO (by simp) _ hTO⟩, itAt_keep h1 fun o q => k i1 (by simp) o q, itAt_keep h2 fun o q => k i2 (by simp) o q, itAt_keep h3 fun o q => k i3 (by simp) o q⟩
  item := by
    rintro X rfl rfl rfl hc i pins s σ H E I hf ⟨hz, hTI, ⟨x0, y0, t0, hTO⟩, h1, h2, h3⟩ ⟨xs, ys, zs, x, y, t, qx, qy, qt, ex, ey, et⟩
    obtain ⟨its, rv, p, _, _⟩ := sq_get I qx
    obtain ⟨its2, rv2, p2, _, _⟩ := sq_get I qy
    obtain ⟨its3, rv3, p3, _, _⟩ := sq_get I qt
    obtain ⟨u, hu, ru⟩ := rv.get ex
    obtain ⟨u2, hu2, ru2⟩ := rv2.get ey
    obtain ⟨u3, hu3, ru3⟩ := rv3.get et
    have hd : X.A.in1.handled = none := I.ok.hd hc
    have L1 : i < its.toArray.size := by simpa using (List.getElem?_eq_some_iff.mp hu).1
    have L2 : i < its2.toArray.size := by simpa using (List.getElem?_eq_some_iff.mp hu2).1
    have L3 : i < its3.toArray.size := by simpa using (List.getElem?_eq_some_iff.mp hu3).1
    have hz0 : z < s.heap.objs.size := Heap.lt_size hz
    apply wpAny_pyNext_zipD3_item D (draws (prog := X.prog) (w := X.w) (A := X.A.in1) hd i1 a n1 its.toArray b1) (draws (prog := X.prog) (w := X.w) (A := X.A.in1) hd i2 c n2 its2.toArray b2) (draws (prog := X.prog) (w := X.w) (A := X.A.in1) hd i3 d n3 its3.toArray b3)
      hz hTI hTO ⟨h1, p⟩ ⟨h2, p2⟩ ⟨h3, p3⟩ L1 L2 L3
    intro v1 v2 v3 h' tk e1 e2 e3 z' TO' s1 s2 s3 hT hsz hk
    have ev1 : u = v1 := by
      have e1' : its.toArray[i]? = some v1 := e1
      rw [List.getElem?_toArray, hu] at e1'
      exact Option.some.inj e1'
    have ev2 : u2 = v2 := by
      have e2' : its2.toArray[i]? = some v2 := e2
      rw [List.getElem?_toArray, hu2] at e2'
      exact Option.some.inj e2'
    have ev3 : u3 = v3 := by
      have e3' : its3.toArray[i]? = some v3 := e3
      rw [List.getElem?_toArray, hu3] at e3'
      exact Option.some.inj e3'
    subst ev1 ev2 ev3
    refine ⟨_, rfl, wpAny_letOwnedTupleGo_zip (s := { s with heap := h', toks := tk }) z' ?_⟩
    intro h'' z'' sb
    have hT2 : h''.get? s.heap.objs.size = some { cls := .type "tuple", data := .seq #[u, u2, u3] } := (sb.2 _ (Nat.ne_of_gt hz0)).trans hT
    have new : ObjOk X.prog X.w (upd H s.heap.objs.size (.tup [x, y, t])) h'' s.heap.objs.size (.tup [x, y, t]) :=
      ⟨show 3 ≤ sizeLine by decide, [u, u2, u3], .cons ru (.cons ru2 (.cons ru3 .nil)), _, hT2, rfl, _, rfl⟩
    have far : ∀ q o, q ∉ [z, TI, TO, i1, i2, i3] → s.heap.get? q = some o → h''.get? q = some o := by
      intro q o hq e
      simp only [List.mem_cons, List.not_mem_nil, or_false, not_or] at hq
      exact (sb.2 q hq.1).trans (hk q o hq.1 hq.2.2.1 hq.2.2.2.1 hq.2.2.2.2.1 hq.2.2.2.2.2 e)
    have I1 := I.turnedNew (t' := tk) (ch := [z, TI, TO, i1, i2, i3]) far hf (Nat.le_refl _) new
    refine ⟨.ref s.heap.objs.size, _, I1, rfl, ⟨_, x, y, t, rfl, I.hok.fresh (Nat.le_refl _), rfl, fun l hl => ?_, fun l hl => ?_, fun l hl => ?_⟩, ⟨z'', ?_, ⟨u, u2, u3, ?_⟩, ?_, ?_, ?_⟩, ?_⟩
    · rw [sq_inj I hl qx]; exact ex
    · rw [sq_inj I hl qy]; exact ey
    · rw [sq_inj I hl qt]; exact et
    · exact (sb.2 _ D.TIz).trans (hk _ _ D.TIz D.TITO D.TIi1 D.TIi2 D.TIi3 hTI)
    · exact (sb.2 _ D.TOz).trans TO'
    · exact itAt_keep s1.1 fun o q => (sb.2 _ D.zi1.symm).trans q
    · exact itAt_keep s2.1 fun o q => (sb.2 _ D.zi2.symm).trans q
    · exact itAt_keep s3.1 fun o q => (sb.2 _ D.zi3.symm).trans q
    · intro q hq
      have hlt : q < s.heap.objs.size := by
        have e : q = z ∨ q = TI ∨ q = TO ∨ q = i1 ∨ q = i2 ∨ q = i3 := by simpa using hq
        rcases e with rfl | rfl | rfl | rfl | rfl | rfl
        · exact hz0
        · exact Heap.lt_size hTI
        · exact Heap.lt_size hTO
        · obtain ⟨_, e, _⟩ := itAt_obj h1; exact Heap.lt_size e
        · obtain ⟨_, e, _⟩ := itAt_obj h2; exact Heap.lt_size e
        · obtain ⟨_, e, _⟩ := itAt_obj h3; exact Heap.lt_size e
      rw [upd_ne (Nat.ne_of_lt hlt)]
      exact (hf q hq).1
  done := by
    rintro X rfl rfl rfl hc i pins s σ H E I hf ⟨hz, hTI, ⟨x0, y0, t0, hTO⟩, h1, h2, h3⟩ ⟨xs, ys, zs, qx, qy, qt, l1, l2, l3, fin⟩
    obtain ⟨its, rv, p, _, _⟩ := sq_get I qx
    obtain ⟨its2, rv2, p2, _, _⟩ := sq_get I qy
    obtain ⟨its3, rv3, p3, _, _⟩ := sq_get I qt
    have hd : X.A.in1.handled = none := I.ok.hd hc
    have g1 := rv.length
    have g2 := rv2.length
    have g3 := rv3.length
    have z1 : its.toArray.size = xs.length := by simp [g1]
    have z2 : its2.toArray.size = ys.length := by simp [g2]
    have z3 : its3.toArray.size = zs.length := by simp [g3]
    apply wpAny_pyNext_zipD3_end D (draws (prog := X.prog) (w := X.w) (A := X.A.in1) hd i1 a n1 its.toArray b1) (draws (prog := X.prog) (w := X.w) (A := X.A.in1) hd i2 c n2 its2.toArray b2) (draws (prog := X.prog) (w := X.w) (A := X.A.in1) hd i3 d n3 its3.toArray b3)
      hz hTI hTO ⟨h1, p⟩ ⟨h2, p2⟩ ⟨h3, p3⟩ (by omega) (by omega) (by omega) (by omega)
    intro h' tk hk
    refine ⟨rfl, I.turnedL (t' := tk) (ch := [z, TI, TO, i1, i2, i3]) (fun q o hq e => ?_) hf⟩
    simp only [List.mem_cons, List.not_mem_nil, or_false, not_or] at hq
    exact hk q o hq.1 hq.2.2.1 hq.2.2.2.1 hq.2.2.2.2.1 hq.2.2.2.2.2 e
  self := fun A i s Q E st h => wpAny_pyIter_zip st.1 h
def iZipM3 (K : PySem.W.Frag) (b1 b2 b3 : Bool) (ta : TA) : TI := fun σ H R => ta σ H fun vs H1 => ∃ a c d xs ys zs, vs = [.ref a, .ref c, .ref d] ∧ Sq K b1 H1 a xs ∧ Sq K b2 H1 c ys ∧ Sq K b3 H1 d zs ∧ R (ItM3 K b1 b2 b3 a c d) H1
theorem pi_zipM3 {X : Cx} (b1 b2 b3 : Bool) {e e2 e3 : Expr} {ta : TA} {p pos tpos : Pos} {elts : List Expr} {kk : Nat} (hg : Gl X "zip") (hm : X.mg "zip" = none) (ha : PA X [e, e2, e3] ta)
    (hs : starEach [e, e2, e3] X.env = (false, eval e X.env) :: starEach [e2, e3] X.env := by rfl) (hpl : (backTo pos (starEach [e2, e3] X.env)).any (·.1) = false := by rfl) :
    PI X (.Tuple elts kk tpos) (.Call (.Name "zip" p) [e, e2, e3] [] pos) (iZipM3 X.K b1 b2 b3 ta) := by
  constructor
  intro pins s σ H R I h
  refine Call_ (ld_blt I hg hm PyProof.Rows.boot_zip (PyProof.Rows.callWith_type1 (thn (ha.run pos pins s σ H _ I h) ?_) hs hpl))
  rintro us s1 ⟨vs, H1, I1, r1, a, c, d, xs, ys, zs, rfl, qx, qy, qt, q⟩
  cases r1 with
  | cons r rr =>
    cases rr with
    | cons r' rr =>
      cases rr with
      | cons r'' rr =>
        cases rr
        cases r
        cases r'
        cases r''
        obtain ⟨its, rv, p1, _, la⟩ := sq_get I1 qx
        obtain ⟨its2, rv2, p2, _, lc⟩ := sq_get I1 qy
        obtain ⟨its3, rv3, p3, _, ld⟩ := sq_get I1 qt
        apply zip_begins3 (begins a its.toArray b1) (begins c its2.toArray b2) (begins d its3.toArray b3) p1 p2 p3
        intro h' hz hTI hTO o1 o2 o3 hsz hk
        apply wpAny_pyIter_zip hz
        have I2 : Inv X pins σ H1 { s1 with heap := h' } := I1.kept (t' := s1.toks) hk
        have D := zip_sep3 (N := s1.heap.objs.size) (fp1 := [a]) (fp2 := [c]) (fp3 := [d]) (by simpa using la) (by simpa using lc) (by simpa using ld)
        refine ⟨s1.heap.objs.size + 5, [s1.heap.objs.size + 5, s1.heap.objs.size + 3, s1.heap.objs.size + 4, s1.heap.objs.size, s1.heap.objs.size + 1, s1.heap.objs.size + 2], _, _, H1, rfl, I2,
          turn_m3 D (Nat.ne_of_lt la) (Nat.ne_of_lt (Nat.lt_succ_of_lt lc)) (Nat.ne_of_lt (Nat.lt_succ_of_lt (Nat.lt_succ_of_lt ld))), ⟨hz, hTI, ⟨_, _, _, hTO⟩, itAt_new o1, itAt_new o2, itAt_new o3⟩, ?_, q⟩
        intro g hg
        have hle : s1.heap.objs.size ≤ g := by
          have e : g = s1.heap.objs.size + 5 ∨ g = s1.heap.objs.size + 3 ∨ g = s1.heap.objs.size + 4 ∨ g = s1.heap.objs.size ∨ g = s1.heap.objs.size + 1 ∨ g = s1.heap.objs.size + 2 := by simpa using hg
          rcases e with q | q | q | q | q | q <;> rw [q] <;> first | exact Nat.le_refl _ | exact Nat.le_add_right _ _
        exact I1.fpOk hle (I1.hok.fresh hle)

/-! ### the pairs of a locked dict with tuple keys -/
def ItiT (d : Addr) (o : Obj) (kvs : List (List Key × V)) : It :=
  ⟨fun i H => H d = some (.frz o (.dT kvs)) ∧ i < kvs.length,
   fun i H x H' => ∃ T q k v, kvs[i]? = some (k, v) ∧ H q = some (.tup (k.map kV)) ∧ x = .ref T ∧ H T = none ∧ H' = upd H T (.tup [.ref q, v]),
   fun i H => H d = some (.frz o (.dT kvs)) ∧ kvs.length ≤ i⟩
theorem frzT2 {X : Cx} {pins : List (Addr × Obj)} {σ : L2.St} {H : Hp} {s : Shared} {d : Addr} {o : Obj} {kvs : List (List Key × V)} (I : Inv X pins σ H s) (h : H d = some (.frz o (.dT kvs))) :
    (d == sysModules) = false ∧ ∃ (es : Array DictEntry) (ep : Nat), s.heap.DictRaw d es ep ∧ o.data = .dict es ep ∧ es.size = kvs.length ∧
      ∀ (i : Nat) (k : List Key) (v : V), kvs[i]? = some (k, v) → ∃ (en : DictEntry) (q : Addr), es[i]? = some en ∧ en.key = .ref q ∧ H q = some (.tup (k.map kV)) ∧ RelV v en.val := by
  obtain ⟨e0, z, ns, xs, pr, o', es, ep, ho, ex, dt, ee, _⟩ := I.hok d _ h
  rw [e0] at ho
  cases ho
  have n1 : es.size = xs.length := size_of_entries ee
  have n2 : kvs.length = xs.length := Paired.length pr
  refine ⟨ns, es, ep, ⟨o, e0, ex, dt⟩, dt, by omega, ?_⟩
  intro i k v e
  obtain ⟨b, eb, _, e2, e3⟩ := paired_get pr e
  have q := entry_at ee i
  rw [eb] at q
  exact ⟨_, b.2.1, q, rfl, e2, e3⟩
theorem turn_itemsT {P : Program} {w : World} {K : PySem.W.Frag} {d : Addr} {o : Obj} {es : Array DictEntry} {ep : Nat} {kvs : List (List Key × V)} {elts : List Expr} {kk : Nat} {tpos : Pos} (it : Addr) (hod : o.data = .dict es ep) :
    Turn P w K (.Tuple elts kk tpos) (ItiT d o kvs) [it] it (fun i h => ∃ ok ov, IsItemIter h it d i es.size ep ok ov) where
  mem := List.mem_cons_self
  obj := by
    rintro i h ⟨ok, ov, e⟩ b hb
    obtain rfl : b = it := by simpa using hb
    exact ⟨_, e, fun v z => nomatch z⟩
  keep := fun i h h' ⟨ok, ov, e⟩ k => ⟨ok, ov, k it (by simp) _ e⟩
  item := by
    rintro X rfl rfl rfl hc i pins s σ H E I hf ⟨ok, ov, he⟩ ⟨hd, hi⟩
    obtain ⟨_, es', ep', raw, hdt, hsz, ent⟩ := frzT2 I hd
    obtain ⟨rfl, rfl⟩ := dict_ep hod hdt
    obtain ⟨en, q, hen, hk, hq, rv⟩ := ent i kvs[i].1 kvs[i].2 (by simp [hi])
    have lt : i < es'.size := by omega
    have hit : it < s.heap.objs.size := Heap.lt_size he
    have een : es'[i] = en := by
      rw [Array.getElem?_eq_getElem lt] at hen
      exact Option.some.inj hen
    apply wpAny_pyNext_items_item_raw he raw lt
    intro h' ho hT hz hkeep
    rw [een] at ho hT
    refine ⟨_, rfl, wpAny_letOwnedTupleGo_items (s := { s with heap := h' }) ho ?_⟩
    intro h'' he' sb
    have hT2 : h''.get? s.heap.objs.size = some { cls := .type "tuple", data := .seq #[en.key, en.val] } := (sb.2 _ (Nat.ne_of_gt hit)).trans hT
    have new : ObjOk X.prog X.w (upd H s.heap.objs.size (.tup [.ref q, kvs[i].2])) h'' s.heap.objs.size (.tup [.ref q, kvs[i].2]) :=
      ⟨show 2 ≤ sizeLine by decide, [en.key, en.val], .cons hk (.cons rv .nil), _, hT2, rfl, _, rfl⟩
    have I1 := I.turnedNew (t' := s.toks) (ch := [it]) (fun b ob hb e => (sb.2 b (by simpa using hb)).trans (hkeep b ob (by simpa using hb) e)) hf (Nat.le_refl _) new
    refine ⟨.ref s.heap.objs.size, _, I1, rfl, ⟨_, q, kvs[i].1, kvs[i].2, by simp [hi], hq, rfl, I.hok.fresh (Nat.le_refl _), rfl⟩, ⟨en.key, en.val, he'⟩, ?_⟩
    intro b hb
    obtain rfl : b = it := by simpa using hb
    rw [upd_ne (Nat.ne_of_lt hit)]
    exact (hf b (by simp)).1
  done := by
    rintro X rfl rfl rfl hc i pins s σ H E I hf ⟨ok, ov, he⟩ ⟨hd, hi⟩
    obtain ⟨f0, f1, f2, f3, f4, f5⟩ := hf it (by simp)
    obtain ⟨_, es', ep', raw, hdt, hsz, ent⟩ := frzT2 I hd
    obtain ⟨rfl, rfl⟩ := dict_ep hod hdt
    exact wpAny_pyNext_items_end_raw (I.ok.hd hc) he raw (by omega) fun h' eb => ⟨rfl, I.turned (t' := s.toks) (fun b ob hb e => eb b ob hb e) f0 f1 f3 f4 f5⟩
  self := fun A i s Q E ⟨_, _, e⟩ h => PySem.W.kcp_self e h
def iItemsT (td : TE) : TI := fun σ H R => td σ H fun x H1 => ∃ d o kvs, x = .ref d ∧ H1 d = some (.frz o (.dT kvs)) ∧ R (ItiT d o kvs) H1
theorem pi_itemsT {X : Cx} {e : Expr} {td : TE} {apos cpos tpos : Pos} {elts : List Expr} {kk : Nat} (he : PE X e td) (hb : attributeBase e "items" X.env (eval e X.env) = eval e X.env := by rfl) (hline : (apos.endLine == cpos.line) = true := by rfl) :
    PI X (.Tuple elts kk tpos) (.Call (.Attribute e "items" apos) [] [] cpos) (iItemsT td) := by
  constructor
  intro pins s σ H R I h
  refine wpAny_Call_method (T := "dict") (id := "dict.items") hb rfl hline F.plainAttrs_dict F.slot_dict_items F.type_dict_items (thn (he.run pins s σ H _ I h) ?_)
  rintro u s1 ⟨x, H1, I1, rx, d, o, kvs, rfl, hd, q⟩
  obtain rfl : u = Value.ref d := rx
  obtain ⟨ns, es, ep, raw, hdt, hsz, ent⟩ := frzT2 I1 hd
  obtain ⟨o', ho', ex', dt'⟩ := id raw
  refine ⟨raw.typeIs, fun a e => by cases e; exact ⟨o', ho', ex'.2.1⟩, ?_⟩
  have I2 : Inv X pins σ H1 { s1 with heap := s1.heap.push { cls := .type "dict_items", data := .fields #[.ref d] } } := I1.kept (t' := s1.toks) fun b ob q => Heap.get?_push_of_some _ q
  have fin : wpAny (model X.prog X.w) X.A (pyIter (.ref s1.heap.objs.size)) (PIE X pins σ (.Tuple elts kk tpos) R) X.xe { s1 with heap := s1.heap.push { cls := .type "dict_items", data := .fields #[.ref d] } } := by
    apply wpAny_pyIter_items_raw (d := d) ⟨_, Heap.get?_push_size _ rfl, rfl, rfl⟩ (raw.at fun o q => Heap.get?_push_of_some _ q)
    exact pi_one (tk := s1.toks) I2 _ (turn_itemsT _ hdt) ⟨.none, .none, Heap.get?_push_size _ rfl⟩ q
  show wpAny _ _ (callWith cpos (.builtin "dict.items") [.ref d] [] []) _ X.xe s1
  exact method_meetsIn F.slot_dict_items F.entry_dict_items rfl (PySem.evalArgs_none ⟨rfl, raw.typeIs, F.args_dict_items_1 _, _, meets_dict_items_raw d ns, ⟨es, ep, raw⟩, fin⟩)
end Pk

namespace Pk
open PySem PySem.Spec PyProof.Rows L2
section
variable {X : Cx}
/-! ### sorted of data -/
theorem each_of {β : Type} {F : V → β → Prop} : ∀ {xs : List V} {bs : List β} {us : List Value}, Paired F xs bs → Vals xs us → PySem.W.EachIs (fun u b => ∃ x, RelV x u ∧ F x b) us bs
  | _, _, _, .nil, .nil => .nil
  | _, _, _, .cons h t, .cons r rt => .cons ⟨_, r, h⟩ (each_of t rt)
theorem of_each {β : Type} {F : V → β → Prop} : ∀ {bs : List β} {us : List Value}, PySem.W.EachIs (fun u b => ∃ x, RelV x u ∧ F x b) us bs → ∃ ys, Vals ys us ∧ Paired F ys bs
  | _, _, .nil => ⟨[], .nil, .nil⟩
  | _, _, .cons ⟨x, r, h⟩ t => by
    obtain ⟨ys, h1, h2⟩ := of_each t
    exact ⟨x :: ys, .cons r h1, .cons h h2⟩
def SrtIn (K : PySem.W.Frag) (rev : Bool) (vs : List V) (H : Hp) (Q : VK) : Prop := ∃ (β : Type) (en : β → PyData) (a : Addr) (xs : List V) (bs : List β) (F : V → β → Prop), vs = [.ref a] ∧ SqL K H a xs ∧ Paired (fun x b => Dp K H x (en b) ∧ F x b) xs bs ∧
  PySem.W.AllAlike (bs.map en) ∧ PySem.W.Sortable (bs.map en) ∧ (∀ b ∈ bs, (en b).depth ≤ 60) ∧ ∀ p ys, H p = none → Paired F ys (bs.mergeSort (PySem.W.dataLe rev en)) → Q (.ref p) (upd H p (.lst ys))
theorem cr_sortD (room : X.A.units + 64 < cLine) : CallR X (.builtin "sorted") (SrtIn X.K false) := by
  rintro pins s σ H vs us Q I r ⟨β, en, a, xs, bs, F, rfl, hs, hp, al, so, dp, q⟩
  obtain ⟨its, rv, hl, hz⟩ := I.list hs
  rw [Vals.ref1 r]
  have nb : xs.length = bs.length := hp.pkLen
  have e1 := each_of (Paired.pkImp (fun _ _ h => h.2) hp) rv
  have e2 : PySem.W.EachIs (fun u b => ∃ as, Reads s.heap u (en b) as) its bs := (each_of hp rv).mono fun u b ⟨x, rx, h1, _⟩ => Dp.reads I _ x u h1 rx
  apply PySem.W.sorted_data hl.isList e1 e2 al so (by omega) (fun b hb => by have := dp b hb; omega)
  intro out ho eo
  obtain ⟨ys, v1, v2⟩ := of_each eo
  obtain ⟨ep, he⟩ := sortedAll_at s.heap its out.toArray
  have n1 : ys.length = its.length := by rw [v1.length, ho, ← nb, rv.length]
  exact ⟨.ref _, upd H (s.heap.objs.size + 1) (.lst ys), I.laid (t' := s.toks) (fun _ _ => sortedAll_old) (Nat.le_succ _) ⟨by rw [n1, ← rv.length]; exact hz, out, ep, v1, he⟩, rfl, q _ ys (I.hok.fresh (Nat.le_succ _)) v2⟩

/-! ### repr of data -/
def rRepr (K : PySem.W.Frag) : List V → Hp → VK → Prop := fun vs H Q => ∃ v d, vs = [v] ∧ (v = .non ∨ ∃ a, v = .ref a) ∧ Dp K H v d ∧ d.showable = true ∧ d.hasDict = false ∧ d.depth ≤ 60 ∧ d.shown.length ≤ sizeLine ∧ Q (.str d.shown) H
theorem cr_reprD (room : X.A.units + 64 < cLine) (gu : X.A.guards = some []) : CallR X (.builtin "repr") (rRepr X.K) := by
  rintro pins s σ H vs us Q I r ⟨v, d, rfl, hv, hd, sh, nd, dp, sz, q⟩
  rcases hv with rfl | ⟨a, rfl⟩
  · cases hd
    obtain ⟨u, rfl, hu⟩ := vals1 r
    cases hu
    exact PySem.P.repr_of_none ⟨.str _, H, I.tok _, ⟨_, rfl⟩, q⟩
  rw [Vals.ref1 r]
  obtain ⟨as, rd⟩ := Dp.reads I d (.ref a) (.ref a) hd rfl
  apply repr_of_reads' (h₀ := s.heap) rd sh (PyData.noDict_hsm nd) gu (by omega) (fun _ _ e => e) _ sz
  intro h' u tk keep
  exact ⟨.str d.shown, H, I.kept keep, ⟨u, rfl⟩, q⟩
end
end Pk

/-! Built-ins and statements over the layer of evaluation. -/
namespace Pk
open PySem L2
open Enc (enc dep)

/-! ### named readings of the kit's rules -/
def rLenQ (K : PySem.W.Frag) : List V → Hp → VK → Prop := fun xs H Q => ∃ p ys, xs = [.ref p] ∧ (SqL K H p ys ∨ SqT K H p ys) ∧ Q (.int ys.length) H
def rListQ (K : PySem.W.Frag) : List V → Hp → VK → Prop := fun xs H Q => ∃ p ys, xs = [.ref p] ∧ (SqL K H p ys ∨ SqT K H p ys) ∧ ∀ l, H l = none → Q (.ref l) (upd H l (.lst ys))
def rAbs : List V → Hp → VK → Prop := fun xs H Q => ∃ i, xs = [.int i] ∧ Q (.int (if i < 0 then -i else i)) H
def rMax2 : List V → Hp → VK → Prop := fun xs H Q => ∃ i j, xs = [.int i, .int j] ∧ Q (.int (if j > i then j else i)) H
def rMin2 : List V → Hp → VK → Prop := fun xs H Q => ∃ i j, xs = [.int i, .int j] ∧ Q (.int (if j < i then j else i)) H
def rInt : List V → Hp → VK → Prop := fun xs H Q => (∃ i, xs = [.int i] ∧ Q (.int i) H) ∨ ∃ k, xs = [.bl k] ∧ Q (.int (if k then 1 else 0)) H
def rIns : V → List V → Hp → VK → Prop := fun x vs H Q => ∃ (l : Addr) (xs : List V) (i : Int) (y : V), x = .ref l ∧ vs = [.int i, y] ∧ H l = some (.lst xs) ∧ xs.length < sizeLine ∧ 0 ≤ i ∧ i < 2 ^ 63 ∧ Q .non (upd H l (.lst (xs.take i.toNat ++ [y] ++ xs.drop i.toNat)))
section
variable {X : Cx}
theorem cr_len : CallR X (.builtin "len") (rLenQ X.K) := call_len_seq
theorem cr_listOf : CallR X (.type "list") (rListQ X.K) := call_list_of
theorem cr_abs : CallR X (.builtin "abs") rAbs := call_abs
theorem cr_max2 (hc : X.calm = true) : CallR X (.builtin "max") rMax2 := call_max2 hc
theorem cr_min2 (hc : X.calm = true) : CallR X (.builtin "min") rMin2 := call_min2 hc
theorem cr_int : CallR X (.type "int") rInt := call_int1
theorem mt_ins : MtR X "list.insert" rIns := mt_insert
end

/-! ### built-ins -/
section
variable {C : MI} {K : PySem.W.Frag} {σ : L2.St} {B : Hp} {R S : Rp} {te ta tb : TE} {t : TA} {Rs Rs' : List Rp} {α : Type} [Enc α]
theorem rd_l {H : Hp} {a : Addr} {vs : List V} (h : H a = some (.lst vs)) : SqL K H a vs := .inl (.inl h)
theorem rd_t {H : Hp} {a : Addr} {vs : List V} (h : H a = some (.tup vs)) : SqT K H a vs := .inl (.inl h)
theorem ev_len (h : Ev C te σ B (LstR Rs)) : Ev C (tCB (rLenQ K) (tCons te tNil)) σ B (Is K (Rs.length : Int)) := ev_cb (ea_cons h ea_nil) fun vs B1 H1 e k a Q q => by
  cases a with
  | cons r t =>
    cases t
    obtain ⟨p, ys, rfl, h2, h3⟩ := r
    exact ⟨p, ys, rfl, .inl (rd_l (k.sub _ _ h2)), q _ B1 H1 k.refl (is_int.mpr (by rw [h3.pkLen]))⟩
theorem ev_lenT (h : Ev C te σ B (TupR Rs)) : Ev C (tCB (rLenQ K) (tCons te tNil)) σ B (Is K (Rs.length : Int)) := ev_cb (ea_cons h ea_nil) fun vs B1 H1 e k a Q q => by
  cases a with
  | cons r t =>
    cases t
    obtain ⟨p, ys, rfl, h2, h3⟩ := r
    exact ⟨p, ys, rfl, .inr (rd_t (k.sub _ _ h2)), q _ B1 H1 k.refl (is_int.mpr (by rw [h3.pkLen]))⟩
theorem ev_lenD {xs : List α} (h : Ev C te σ B (Is K xs)) : Ev C (tCB (rLenQ K) (tCons te tNil)) σ B (Is K (xs.length : Int)) := by
  have g := ev_len (K := K) (h.le fun _ _ => is_lst.mp)
  rwa [List.length_map] at g
theorem ev_lenTD {xs : Tu α} (h : Ev C te σ B (Is K xs)) : Ev C (tCB (rLenQ K) (tCons te tNil)) σ B (Is K (xs.l.length : Int)) := by
  have g := ev_lenT (K := K) (h.le fun _ _ => is_tup.mp)
  rwa [List.length_map] at g
/-- list(xs): a copy -/
theorem ev_list (h : Ev C te σ B (LstR Rs)) : Ev C (tCB (rListQ K) (tCons te tNil)) σ B (LstR Rs) := ev_cb (ea_cons h ea_nil) fun vs B1 H1 e k a Q q => by
  cases a with
  | cons r t =>
    cases t
    obtain ⟨p, ys, rfl, h2, h3⟩ := r
    exact ⟨p, ys, rfl, .inl (rd_l (k.sub _ _ h2)), fun l hl => q _ _ _ (k.new hl) ⟨l, ys, rfl, upd_same, h3.mono (.new (k.sub.un hl))⟩⟩
theorem ev_listD {xs : List α} (h : Ev C te σ B (Is K xs)) : Ev C (tCB (rListQ K) (tCons te tNil)) σ B (Is K xs) := (ev_list (h.le fun _ _ => is_lst.mp)).le fun _ _ => is_lst.mpr
/-- tuple(xs) of a list -/
theorem ev_tuple (h : Ev C te σ B (LstR Rs)) : Ev C (tThen te (kTup K)) σ B (TupR Rs) := fun B1 H1 e k Q q => h B1 H1 e k _ fun v B2 H2 s ⟨p, ys, h1, h2, h3⟩ =>
  .inl ⟨p, ys, h1, rd_l (s.ok.sub _ _ h2), fun l hl => q _ _ _ (s.trans (s.ok.new hl)) ⟨l, ys, rfl, upd_same, h3.mono (.new (s.ok.sub.un hl))⟩⟩
theorem ev_tupleD {xs : List α} (h : Ev C te σ B (Is K xs)) : Ev C (tThen te (kTup K)) σ B (Is K (Tu.mk xs)) := (ev_tuple (h.le fun _ _ => is_lst.mp)).le fun _ _ => is_tup.mpr
theorem ev_sum {ns : List Int} (h : Ev C te σ B (Is K ns)) : Ev C (tCB (rSum K) (tCons te tNil)) σ B (Is K ns.sum) := ev_cb (ea_cons h ea_nil) fun vs B1 H1 e k a Q q => by
  cases a with
  | cons r t =>
    cases t
    obtain ⟨p, ys, rfl, h2, h3⟩ := is_lst.mp r
    rw [args_ints.mp h3] at h2
    exact ⟨p, ns, rfl, rd_l (k.sub _ _ h2), q _ B1 H1 k.refl (.int _)⟩
theorem ev_any {bs : List Bool} (h : Ev C te σ B (Is K bs)) : Ev C (tCB (rAny K) (tCons te tNil)) σ B (Is K (bs.any id)) := ev_cb (ea_cons h ea_nil) fun vs B1 H1 e k a Q q => by
  cases a with
  | cons r t =>
    cases t
    obtain ⟨p, ys, rfl, h2, h3⟩ := is_lst.mp r
    rw [args_bools.mp h3] at h2
    exact ⟨p, bs, rfl, rd_l (k.sub _ _ h2), q _ B1 H1 k.refl (.bl _)⟩
theorem ev_all {bs : List Bool} (h : Ev C te σ B (Is K bs)) : Ev C (tCB (rAll K) (tCons te tNil)) σ B (Is K (bs.all id)) := ev_cb (ea_cons h ea_nil) fun vs B1 H1 e k a Q q => by
  cases a with
  | cons r t =>
    cases t
    obtain ⟨p, ys, rfl, h2, h3⟩ := is_lst.mp r
    rw [args_bools.mp h3] at h2
    exact ⟨p, bs, rfl, rd_l (k.sub _ _ h2), q _ B1 H1 k.refl (.bl _)⟩
theorem ev_abs {i : Int} (h : Ev C te σ B (Is K i)) : Ev C (tCB rAbs (tCons te tNil)) σ B (Is K (if i < 0 then -i else i)) := ev_cb (ea_cons h ea_nil) fun vs B1 H1 e k a Q q => by
  cases a with
  | cons r t => cases t; rw [is_int.mp r]; exact ⟨i, rfl, q _ B1 H1 k.refl (.int _)⟩
theorem ev_intB {b : Bool} (h : Ev C te σ B (Is K b)) : Ev C (tCB rInt (tCons te tNil)) σ B (Is K (if b then (1 : Int) else 0)) := ev_cb (ea_cons h ea_nil) fun vs B1 H1 e k a Q q => by
  cases a with
  | cons r t => cases t; rw [is_bool.mp r]; exact .inr ⟨b, rfl, q _ B1 H1 k.refl (.int _)⟩
theorem ev_max2 {i j : Int} (h : Ev C ta σ B (Is K i)) (h' : Ev C tb σ B (Is K j)) : Ev C (tCB rMax2 (tCons ta (tCons tb tNil))) σ B (Is K (if j > i then j else i)) := ev_cb (ea_cons h (ea_cons h' ea_nil)) fun vs B1 H1 e k a Q q => by
  cases a with
  | cons r t =>
    cases t with
    | cons r' t => cases t; rw [is_int.mp r, is_int.mp r']; exact ⟨i, j, rfl, q _ B1 H1 k.refl (.int _)⟩
theorem ev_min2 {i j : Int} (h : Ev C ta σ B (Is K i)) (h' : Ev C tb σ B (Is K j)) : Ev C (tCB rMin2 (tCons ta (tCons tb tNil))) σ B (Is K (if j < i then j else i)) := ev_cb (ea_cons h (ea_cons h' ea_nil)) fun vs B1 H1 e k a Q q => by
  cases a with
  | cons r t =>
    cases t with
    | cons r' t => cases t; rw [is_int.mp r, is_int.mp r']; exact ⟨i, j, rfl, q _ B1 H1 k.refl (.int _)⟩
/-- xs + ys -/
theorem ev_cat (ha : Ev C ta σ B (LstR Rs)) (hb : Ev C tb σ B (LstR Rs')) (hl : Rs.length + Rs'.length ≤ 16000000) : Ev C (tOp rCat ta tb) σ B (LstR (Rs ++ Rs')) :=
  ev_op ha hb fun x y B1 H1 _ k ⟨a, vs, h1, h2, h3⟩ ⟨b, ws, g1, g2, g3⟩ Q q => ⟨a, b, vs, ws, h1, g1, k.sub _ _ h2, k.sub _ _ g2, by
    rw [← h3.pkLen, ← g3.pkLen]; exact Nat.le_trans hl (by decide), fun p hp => q _ _ _ (k.new hp) ⟨p, _, rfl, upd_same, Args.mono (Ex.new (k.sub.un hp)) (Paired.pkApp h3 g3)⟩⟩
theorem ev_catD {xs ys : List α} (ha : Ev C ta σ B (Is K xs)) (hb : Ev C tb σ B (Is K ys)) (hl : xs.length + ys.length ≤ 16000000) : Ev C (tOp rCat ta tb) σ B (Is K (xs ++ ys)) :=
  (ev_cat (ha.le fun _ _ => is_lst.mp) (hb.le fun _ _ => is_lst.mp) (by simpa using hl)).le fun _ _ h => is_lst.mpr (by show (LstR ((xs ++ ys).map (Is K))).P _ _; rw [List.map_append]; exact h)
theorem ev_catT (ha : Ev C ta σ B (TupR Rs)) (hb : Ev C tb σ B (TupR Rs')) (hl : Rs.length + Rs'.length ≤ 16000000) : Ev C (tOp (rCatA K) ta tb) σ B (TupR (Rs ++ Rs')) :=
  ev_op ha hb fun x y B1 H1 _ k ⟨a, vs, h1, h2, h3⟩ ⟨b, ws, g1, g2, g3⟩ Q q => ⟨a, b, vs, ws, h1, g1, rd_t (k.sub _ _ h2), rd_t (k.sub _ _ g2), by
    rw [← h3.pkLen, ← g3.pkLen]; exact Nat.le_trans hl (by decide), fun e => by
      subst e
      cases h3
      exact q _ B1 H1 k.refl ⟨b, ws, rfl, g2, g3⟩, fun _ e => by
      subst e
      cases g3
      exact q _ B1 H1 k.refl ⟨a, vs, rfl, h2, by rw [List.append_nil]; exact h3⟩, fun _ _ p hp => q _ _ _ (k.new hp) ⟨p, _, rfl, upd_same, Args.mono (Ex.new (k.sub.un hp)) (Paired.pkApp h3 g3)⟩⟩
theorem ev_catTD {xs ys : Tu α} (ha : Ev C ta σ B (Is K xs)) (hb : Ev C tb σ B (Is K ys)) (hl : xs.l.length + ys.l.length ≤ 16000000) : Ev C (tOp (rCatA K) ta tb) σ B (Is K (Tu.mk (xs.l ++ ys.l))) :=
  (ev_catT (ha.le fun _ _ => is_tup.mp) (hb.le fun _ _ => is_tup.mp) (by simpa using hl)).le fun _ _ h => is_tup.mpr (by show (TupR ((xs.l ++ ys.l).map (Is K))).P _ _; rw [List.map_append]; exact h)
/-- [x] * n -/
theorem ev_rep {n : Int} (ha : Ev C ta σ B (LstR [R])) (hb : Ev C tb σ B (Is K n)) (hn : -1000000 ≤ n ∧ n ≤ 1000000) : Ev C (tOp rRep ta tb) σ B (LstR (List.replicate n.toNat R)) :=
  ev_op ha hb fun x y B1 H1 _ k ⟨a, vs, h1, h2, h3⟩ hy Q q => by
    cases h3 with
    | @cons _ v _ _ r t =>
      cases t
      refine ⟨a, n, [v], h1, is_int.mp hy, k.sub _ _ h2, by omega, by omega, ?_, fun p hp => q _ _ _ (k.new hp) ⟨p, _, rfl, upd_same, ?_⟩⟩
      · show 1 * n.toNat ≤ sizeLine
        have : n.toNat ≤ 1000000 := by omega
        rw [Nat.one_mul]; exact Nat.le_trans this (by decide)
      · have e : (List.replicate n.toNat [v]).flatten = List.replicate n.toNat v := by
          induction n.toNat with
          | zero => rfl
          | succ m ih => rw [List.replicate_succ, List.flatten_cons, ih, List.replicate_succ]; rfl
        rw [e]
        have g : ∀ m : Nat, Args (List.replicate m R) (List.replicate m v) B1 := fun m => by
          induction m with
          | zero => exact .nil
          | succ m ih => exact .cons r ih
        exact (g n.toNat).mono (.new (k.sub.un hp))
theorem ev_repD {x : α} {n : Int} (ha : Ev C ta σ B (Is K [x])) (hb : Ev C tb σ B (Is K n)) (hn : -1000000 ≤ n ∧ n ≤ 1000000) : Ev C (tOp rRep ta tb) σ B (Is K (List.replicate n.toNat x)) :=
  (ev_rep (R := Is K x) (ha.le fun _ _ => is_lst.mp) hb hn).le fun _ _ h => is_lst.mpr (by show (LstR ((List.replicate n.toNat x).map (Is K))).P _ _; rw [List.map_replicate]; exact h)
/-! slices -/
def cut {α : Type} (xs : List α) (lo hi : Option Int) : List α := (xs.drop (HT.sIx xs.length 0 lo)).take (HT.sIx xs.length xs.length hi - HT.sIx xs.length 0 lo)
theorem args_drop : ∀ {Rs : List Rp} {vs : List V} (n : Nat), Args Rs vs B → Args (Rs.drop n) (vs.drop n) B
  | _, _, 0, h => h
  | _, _, _ + 1, .nil => .nil
  | _, _, n + 1, .cons _ t => args_drop n t
theorem args_take : ∀ {Rs : List Rp} {vs : List V} (n : Nat), Args Rs vs B → Args (Rs.take n) (vs.take n) B
  | _, _, 0, _ => .nil
  | _, _, _ + 1, .nil => .nil
  | _, _, n + 1, .cons r t => .cons r (args_take n t)
theorem args_cut {vs : List V} (lo hi : Option Int) (h : Args Rs vs B) : Args (cut Rs lo hi) (cutV vs lo hi) B := by
  unfold cut cutV
  rw [h.pkLen]
  exact args_take _ (args_drop _ h)
theorem cut_map {α β : Type} (f : α → β) (xs : List α) (lo hi : Option Int) : (cut xs lo hi).map f = cut (xs.map f) lo hi := by
  unfold cut
  rw [List.length_map, List.map_take, List.map_drop]
def EvO (C : MI) (to : TO) (σ : L2.St) (B : Hp) (o : Option Int) : Prop := ∀ B1 H1, Ex B B1 → Ok C B1 H1 → ∀ Q : Option Int → Hp → Prop, (∀ B2 H2, Stp C B1 H1 B2 H2 → Q o H2) → to σ H1 Q
theorem eo_none : EvO C tNoPart σ B none := fun B1 H1 e k Q q => q B1 H1 k.refl
theorem eo_some {i : Int} (h : Ev C te σ B (Is K i)) : EvO C (tPart te) σ B (some i) := fun B1 H1 e k Q q => h B1 H1 e k _ fun v B2 H2 s r => ⟨i, is_int.mp r, q B2 H2 s⟩
theorem ev_slL {tl th : TO} {lo hi : Option Int} (h : Ev C te σ B (LstR Rs)) (hl : EvO C tl σ B lo) (hh : EvO C th σ B hi) : Ev C (tSl (rSlL K) te tl th) σ B (LstR (cut Rs lo hi)) := fun B1 H1 e k Q q =>
  h B1 H1 e k _ fun v B2 H2 s2 ⟨a, vs, h1, h2, h3⟩ => hl B2 H2 (e.trans s2.bb) s2.ok _ fun B3 H3 s3 => hh B3 H3 (e.trans (s2.bb.trans s3.bb)) s3.ok _ fun B4 H4 s4 =>
    ⟨a, vs, h1, rd_l (s4.ok.sub _ _ (s4.bb _ _ (s3.bb _ _ h2))), fun p hp => q _ _ _ (s2.trans (s3.trans (s4.trans (s4.ok.new hp)))) ⟨p, _, rfl, upd_same, (args_cut lo hi h3).mono ((s3.bb.trans s4.bb).trans (.new (s4.ok.sub.un hp)))⟩⟩
theorem ev_slLD {tl th : TO} {lo hi : Option Int} {xs : List α} (h : Ev C te σ B (Is K xs)) (hl : EvO C tl σ B lo) (hh : EvO C th σ B hi) : Ev C (tSl (rSlL K) te tl th) σ B (Is K (cut xs lo hi)) :=
  (ev_slL (h.le fun _ _ => is_lst.mp) hl hh).le fun _ _ g => is_lst.mpr (by show (LstR ((cut xs lo hi).map (Is K))).P _ _; rw [cut_map]; exact g)
theorem cut_all {α : Type} {xs : List α} {lo hi : Option Int} (h : HT.sIx xs.length 0 lo = 0 ∧ HT.sIx xs.length xs.length hi = xs.length) : cut xs lo hi = xs := by
  unfold cut; rw [h.1, h.2]; simp
theorem ev_slT {tl th : TO} {lo hi : Option Int} (h : Ev C te σ B (TupR Rs)) (hl : EvO C tl σ B lo) (hh : EvO C th σ B hi) : Ev C (tSl (rSlA K) te tl th) σ B (TupR (cut Rs lo hi)) := fun B1 H1 e k Q q =>
  h B1 H1 e k _ fun v B2 H2 s2 ⟨a, vs, h1, h2, h3⟩ => hl B2 H2 (e.trans s2.bb) s2.ok _ fun B3 H3 s3 => hh B3 H3 (e.trans (s2.bb.trans s3.bb)) s3.ok _ fun B4 H4 s4 =>
    ⟨a, vs, h1, rd_t (s4.ok.sub _ _ (s4.bb _ _ (s3.bb _ _ h2))), fun z => q _ B4 H4 (s2.trans (s3.trans s4)) ⟨a, vs, rfl, s4.bb _ _ (s3.bb _ _ h2), by
      rw [cut_all (by rw [h3.pkLen]; exact z)]; exact h3.mono (s3.bb.trans s4.bb)⟩, fun _ p hp => q _ _ _ (s2.trans (s3.trans (s4.trans (s4.ok.new hp)))) ⟨p, _, rfl, upd_same, (args_cut lo hi h3).mono ((s3.bb.trans s4.bb).trans (.new (s4.ok.sub.un hp)))⟩⟩
theorem ev_slTD {tl th : TO} {lo hi : Option Int} {xs : Tu α} (h : Ev C te σ B (Is K xs)) (hl : EvO C tl σ B lo) (hh : EvO C th σ B hi) : Ev C (tSl (rSlA K) te tl th) σ B (Is K (Tu.mk (cut xs.l lo hi))) :=
  (ev_slT (h.le fun _ _ => is_tup.mp) hl hh).le fun _ _ g => is_tup.mpr (by show (TupR ((cut xs.l lo hi).map (Is K))).P _ _; rw [cut_map]; exact g)
/-! sorted -/
def srt (α : Type) [Enc α] (rev : Bool) (xs : List α) : List α := xs.mergeSort (PySem.W.dataLe rev enc)
class Alk (α : Type) [Enc α] : Prop where
  ali : ∀ x y : α, PySem.W.alike (enc x) (enc y) = true
theorem args_pair {xs : List α} {vs : List V} (h : Args (xs.map (Is K)) vs B) {H : Hp} (e : Ex B H) : Paired (fun x b => Dp K H x (enc b) ∧ (Is K b).P x B) vs xs := by
  induction xs generalizing vs with
  | nil => cases h; exact .nil
  | cons x xs ih =>
    cases h with
    | cons r t => exact .cons ⟨dq_dp e _ _ r, r⟩ (ih t)
theorem pair_args {xs : List α} {vs : List V} (h : Paired (fun x b => (Is K b).P x B) vs xs) : Args (xs.map (Is K)) vs B := by
  induction xs generalizing vs with
  | nil => cases h; exact .nil
  | cons x xs ih =>
    cases h with
    | cons r t => exact .cons r (ih t)
theorem ev_sort [Alk α] {xs : List α} (h : Ev C te σ B (Is K xs)) (so : PySem.W.Sortable (xs.map enc)) (hd : dep α ≤ 60 := by decide) : Ev C (tCB (SrtIn K false) (tCons te tNil)) σ B (Is K (srt α false xs)) := ev_cb (ea_cons h ea_nil) fun vs B1 H1 e k a Q q => by
  cases a with
  | cons r t =>
    cases t
    obtain ⟨p, ys, rfl, h2, h3⟩ := is_lst.mp r
    refine ⟨α, enc, p, ys, xs, fun v b => (Is K b).P v B1, rfl, rd_l (k.sub _ _ h2), args_pair h3 k.sub, fun d hd d' hd' => ?_, so, fun b _ => Nat.le_trans (Enc.depth b) hd, fun l zs hl pz => q _ _ _ (k.new hl) (is_lst.mpr ⟨l, zs, rfl, upd_same, (pair_args pz).mono (.new (k.sub.un hl))⟩)⟩
    obtain ⟨b, _, rfl⟩ := List.mem_map.mp hd
    obtain ⟨b', _, rfl⟩ := List.mem_map.mp hd'
    exact Alk.ali b b'
end
instance : Alk Int := ⟨fun _ _ => by simp [Enc.enc, PySem.W.alike]⟩
instance : Alk Nat := ⟨fun _ _ => by simp [Enc.enc, PySem.W.alike]⟩
instance : Alk Wy := ⟨fun _ _ => by simp [Enc.enc, PySem.W.alike]⟩
theorem alk_all {α : Type} [Enc α] [Alk α] : ∀ xs ys : List α, PySem.W.alikeAll (xs.map enc) (ys.map enc) = true
  | [], _ => by simp [PySem.W.alikeAll]
  | _ :: _, [] => by simp [PySem.W.alikeAll]
  | x :: xs, y :: ys => by simp [PySem.W.alikeAll, Alk.ali x y, alk_all xs ys]
instance {α : Type} [Enc α] [Alk α] : Alk (List α) := ⟨fun xs ys => by simp only [Enc.enc, PySem.W.alike]; exact alk_all xs ys⟩
instance {α : Type} [Enc α] [Alk α] : Alk (Tu α) := ⟨fun xs ys => by simp only [Enc.enc, PySem.W.alike]; exact alk_all xs.l ys.l⟩
instance {α β : Type} [Enc α] [Enc β] [Alk α] [Alk β] : Alk (α × β) := ⟨fun xs ys => by simp [Enc.enc, PySem.W.alike, PySem.W.alikeAll]; exact ⟨Alk.ali xs.1 ys.1, Alk.ali xs.2 ys.2⟩⟩
theorem so_int {xs : List Int} : PySem.W.Sortable (xs.map enc) := .inr fun d hd => by
  obtain ⟨b, _, rfl⟩ := List.mem_map.mp hd
  exact ⟨by simp [Enc.enc], by simp [Enc.enc]⟩
theorem so_nat {xs : List Nat} : PySem.W.Sortable (xs.map enc) := .inr fun d hd => by
  obtain ⟨b, _, rfl⟩ := List.mem_map.mp hd
  exact ⟨by simp [Enc.enc], by simp [Enc.enc]⟩
theorem so_list {α : Type} [Enc α] {xs : List (List α)} : PySem.W.Sortable (xs.map enc) := .inr fun d hd => by
  obtain ⟨b, _, rfl⟩ := List.mem_map.mp hd
  exact ⟨by simp [Enc.enc], by simp [Enc.enc]⟩
theorem so_pair {α β : Type} [Enc α] [Enc β] {xs : List (α × β)} : PySem.W.Sortable (xs.map enc) := .inl fun d hd => by
  obtain ⟨b, _, rfl⟩ := List.mem_map.mp hd
  exact ⟨_, _, rfl⟩

/-! ### statements: S tells the way from the body's entry -/
section
variable {C : MI} {K : PySem.W.Frag} {σ : L2.St} {B0 H0 B H : Hp} {R R1 R2 R3 : Rp} {te ta tb : TE} {tt : TT} {tu tw tz : TS} {D : Ends} {b : Bool} {α β : Type} {Rs : List Rp} {i j m : Nat}
theorem s_ret (h : Ev C te σ B R) (S : Stp C B0 H0 B H) (k : ∀ v B2 H2, Stp C B0 H0 B2 H2 → R.P v B2 → D.rt v H2) : tRet te D σ H := h B H (.refl _) S.ok _ fun v B2 H2 s r => k v B2 H2 (S.trans s) r
theorem q_asg (h : Ev C te σ B R) (S : Stp C B0 H0 B H) (k : ∀ v B2 H2, Stp C B0 H0 B2 H2 → Stp C B H B2 H2 → R.P v B2 → tz D (σ.set i (some v)) H2) : tSeq (tAsg te (gName i)) tz D σ H :=
  h B H (.refl _) S.ok _ fun v B2 H2 s r => k v B2 H2 (S.trans s) s r
theorem s_asg (h : Ev C te σ B R) (S : Stp C B0 H0 B H) (k : ∀ v B2 H2, Stp C B0 H0 B2 H2 → Stp C B H B2 H2 → R.P v B2 → D.nx (σ.set i (some v)) H2) : tAsg te (gName i) D σ H :=
  h B H (.refl _) S.ok _ fun v B2 H2 s r => k v B2 H2 (S.trans s) s r
/-- the value is told, the base stays: ints, bools, what is known of old -/
theorem q_asgF {v : V} (T : Ok C B' H) (h : Ev C te σ B' R) (hv : ∀ w B, R.P w B → w = v) (S : Stp C B0 H0 B H) (k : ∀ H2, Stp C B0 H0 B H2 → Stp C B H B H2 → tz D (σ.set i (some v)) H2) : tSeq (tAsg te (gName i)) tz D σ H :=
  h B' H (.refl _) T _ fun w B2 H2 s r => by
    have e := hv w B2 r
    subst e
    have s2 : Stp C B H B H2 := ⟨⟨fun a o q => s.hh a o (fun m => by rw [S.ok.off a m] at q; cases q) (S.ok.sub a o q), S.ok.off, s.ok.liv, s.ok.inv⟩, .refl _, s.hh, fun _ _ h => h⟩
    exact k H2 (S.trans s2) s2
theorem q_asg2 (h : Ev C te σ B (TupR [R1, R2])) (S : Stp C B0 H0 B H) (k : ∀ v w B2 H2, Stp C B0 H0 B2 H2 → Stp C B H B2 H2 → R1.P v B2 → R2.P w B2 → tz D ((σ.set i (some v)).set j (some w)) H2) :
    tSeq (tAsg te (gTup K 2 (gCons (gName i) (gCons (gName j) gNil)))) tz D σ H :=
  h B H (.refl _) S.ok _ fun v B2 H2 s r => go_pair (K := K) v B2 H2 σ _ s.ok.sub r fun σ2 ⟨x, y, h1, h2, e⟩ => by subst e; exact k x y B2 H2 (S.trans s) s h1 h2
theorem q_asg3 (h : Ev C te σ B (TupR [R1, R2, R3])) (S : Stp C B0 H0 B H) (k : ∀ v w x B2 H2, Stp C B0 H0 B2 H2 → Stp C B H B2 H2 → R1.P v B2 → R2.P w B2 → R3.P x B2 → tz D (((σ.set i (some v)).set j (some w)).set m (some x)) H2) :
    tSeq (tAsg te (gTup K 3 (gCons (gName i) (gCons (gName j) (gCons (gName m) gNil))))) tz D σ H :=
  h B H (.refl _) S.ok _ fun v B2 H2 s r => go_triple (K := K) v B2 H2 σ _ s.ok.sub r fun σ2 ⟨x, y, z, h1, h2, h3, e⟩ => by subst e; exact k x y z B2 H2 (S.trans s) s h1 h2 h3
theorem q_par {t : TA} (h : EvA C t σ B [R1, R2]) (S : Stp C B0 H0 B H) (k : ∀ v w B2 H2, Stp C B0 H0 B2 H2 → Stp C B H B2 H2 → R1.P v B2 → R2.P w B2 → tz D ((σ.set i (some v)).set j (some w)) H2) : tSeq (tPar i j t) tz D σ H :=
  h B H (.refl _) S.ok _ fun vs B2 H2 s r => by
    cases r with
    | cons r t =>
      cases t with
      | cons r' t => cases t; exact ⟨_, _, rfl, k _ _ B2 H2 (S.trans s) s r r'⟩
theorem q_if (h : EvT C tt σ B b) (S : Stp C B0 H0 B H) (h1 : b = true → ∀ H2, Stp C B0 H0 B H2 → Stp C B H B H2 → tu { D with nx := tz D } σ H2) (h2 : b = false → ∀ H2, Stp C B0 H0 B H2 → Stp C B H B H2 → tw { D with nx := tz D } σ H2) : tSeq (tIfS tt tu tw) tz D σ H :=
  h B H (.refl _) S.ok _ fun H2 s => by
    cases b with
    | true => rw [if_pos rfl]; exact h1 rfl H2 (S.trans s) s
    | false => rw [if_neg Bool.false_ne_true]; exact h2 rfl H2 (S.trans s) s
theorem s_if (h : EvT C tt σ B b) (S : Stp C B0 H0 B H) (h1 : b = true → ∀ H2, Stp C B0 H0 B H2 → Stp C B H B H2 → tu D σ H2) (h2 : b = false → ∀ H2, Stp C B0 H0 B H2 → Stp C B H B H2 → tw D σ H2) : tIfS tt tu tw D σ H :=
  h B H (.refl _) S.ok _ fun H2 s => by
    cases b with
    | true => rw [if_pos rfl]; exact h1 rfl H2 (S.trans s) s
    | false => rw [if_neg Bool.false_ne_true]; exact h2 rfl H2 (S.trans s) s
/-- a test that looks at what may change too: told over another base T -/
theorem s_ifT {T : Hp} (k : Ok C T H) (h : EvT C tt σ T b) (S : Stp C B0 H0 B H) (h1 : b = true → ∀ H2, Stp C B0 H0 B H2 → Stp C B H B H2 → tu D σ H2) (h2 : b = false → ∀ H2, Stp C B0 H0 B H2 → Stp C B H B H2 → tw D σ H2) : tIfS tt tu tw D σ H :=
  h T H (.refl _) k _ fun H2 s => by
    have s2 : Stp C B H B H2 := ⟨⟨fun a o q => s.hh a o (fun m => by rw [S.ok.off a m] at q; cases q) (S.ok.sub a o q), S.ok.off, s.ok.liv, s.ok.inv⟩, .refl _, s.hh, fun _ _ h => h⟩
    cases b with
    | true => rw [if_pos rfl]; exact h1 rfl H2 (S.trans s2) s2
    | false => rw [if_neg Bool.false_ne_true]; exact h2 rfl H2 (S.trans s2) s2
theorem q_ifT {T : Hp} (k : Ok C T H) (h : EvT C tt σ T b) (S : Stp C B0 H0 B H) (h1 : b = true → ∀ H2, Stp C B0 H0 B H2 → Stp C B H B H2 → tu { D with nx := tz D } σ H2) (h2 : b = false → ∀ H2, Stp C B0 H0 B H2 → Stp C B H B H2 → tw { D with nx := tz D } σ H2) : tSeq (tIfS tt tu tw) tz D σ H :=
  s_ifT (D := { D with nx := tz D }) k h S h1 h2

/-! a list of the body's own -/
structure Acc (C : MI) (H0 : Hp) (R : α → Rp) (l : Addr) (xs : List α) (B H : Hp) : Prop where
  new : H0 l = none
  off : B l = none
  nm : ¬ C.M l
  is : ∃ vs, H l = some (.lst vs) ∧ Args (xs.map R) vs B
variable {Ra : α → Rp} {l : Addr} {xs : List α}
theorem Acc.step {B2 H2 : Hp} (a : Acc C H0 Ra l xs B H) (s : Stp C B H B2 H2) : Acc C H0 Ra l xs B2 H2 := by
  obtain ⟨vs, h1, h2⟩ := a.is
  exact ⟨a.new, s.nw l (by rw [h1]; trivial) a.off, a.nm, vs, s.hh l _ a.nm h1, h2.mono s.bb⟩
/-- .. another one is changed -/
theorem Acc.far {p : Addr} {o : HO} (a : Acc C H0 Ra l xs B H) (h : l ≠ p) : Acc C H0 Ra l xs B (upd H p o) := by
  obtain ⟨vs, h1, h2⟩ := a.is
  exact ⟨a.new, a.off, a.nm, vs, by rw [upd_ne h]; exact h1, h2⟩
/-- x = [] -/
theorem q_new (S : Stp C B0 H0 B H) (k : ∀ l, H l = none → Stp C B0 H0 B (upd H l (.lst [])) → Acc C H0 Ra l [] B (upd H l (.lst [])) → tz D (σ.set i (some (.ref l))) (upd H l (.lst []))) : tSeq (tAsg (tLst tNil) (gName i)) tz D σ H :=
  ⟨Nat.zero_le _, fun l hl => by
    have h0 : H0 l = none := by
      cases q : H0 l with
      | none => rfl
      | some o => exact absurd hl (S.live (by rw [q]; simp))
    have nm := S.ok.fresh hl
    have b := S.ok.sub.un hl
    exact k l hl (S.loc h0 b nm) ⟨h0, b, nm, [], upd_same, .nil⟩⟩
/-- x.append(e) -/
theorem s_app {x : α} (a : Acc C H0 Ra l xs B H) (hx : Ev C ta σ B (RefR l)) (h : Ev C te σ B (Ra x)) (S : Stp C B0 H0 B H) (hl : xs.length < 16000000)
    (k : ∀ B2 H2 H3, Stp C B0 H0 B2 H3 → Stp C B H B2 H2 → (∀ p o, p ≠ l → H2 p = some o → H3 p = some o) → Acc C H0 Ra l (xs ++ [x]) B2 H3 → D.nx σ H3) : tDrop (tBM K "list" rAppend ta (tCons te tNil)) D σ H :=
  hx B H (.refl _) S.ok _ fun v B1 H1 s1 r => by
    have e : v = .ref l := r
    subst e
    have a1 := a.step s1
    obtain ⟨vs1, g1, _⟩ := a1.is
    refine ⟨.inl ⟨rfl, _, rd_l g1⟩, ?_⟩
    refine h B1 H1 s1.bb s1.ok _ fun w B2 H2 s2 r2 => ?_
    have a2 := a1.step s2
    obtain ⟨vs, h1, h2⟩ := a2.is
    refine ⟨l, vs, w, rfl, rfl, h1, ?_, k B2 H2 _ ((S.trans (s1.trans s2)).loc a.new a2.off a.nm) (s1.trans s2) (fun p o hp q => by rw [upd_ne hp]; exact q) ⟨a.new, a2.off, a.nm, vs ++ [w], upd_same, ?_⟩⟩
    · rw [← h2.pkLen, List.length_map]; exact Nat.lt_of_lt_of_le hl (by decide)
    · rw [List.map_append]; exact Paired.pkApp h2 (.cons r2 .nil)
theorem q_app {x : α} (a : Acc C H0 Ra l xs B H) (hx : Ev C ta σ B (RefR l)) (h : Ev C te σ B (Ra x)) (S : Stp C B0 H0 B H) (hl : xs.length < 16000000)
    (k : ∀ B2 H2 H3, Stp C B0 H0 B2 H3 → Stp C B H B2 H2 → (∀ p o, p ≠ l → H2 p = some o → H3 p = some o) → Acc C H0 Ra l (xs ++ [x]) B2 H3 → tz D σ H3) : tSeq (tDrop (tBM K "list" rAppend ta (tCons te tNil))) tz D σ H :=
  s_app (D := { D with nx := tz D }) a hx h S hl k
/-- x.extend(e) -/
theorem s_ext {ys : List α} (a : Acc C H0 Ra l xs B H) (hx : Ev C ta σ B (RefR l)) (h : Ev C te σ B (LstR (ys.map Ra))) (S : Stp C B0 H0 B H) (hl : xs.length + ys.length ≤ 16000000)
    (k : ∀ B2 H2 H3, Stp C B0 H0 B2 H3 → Stp C B H B2 H2 → (∀ p o, p ≠ l → H2 p = some o → H3 p = some o) → Acc C H0 Ra l (xs ++ ys) B2 H3 → D.nx σ H3) : tDrop (tBM K "list" rExtend ta (tCons te tNil)) D σ H :=
  hx B H (.refl _) S.ok _ fun v B1 H1 s1 r => by
    have e : v = .ref l := r
    subst e
    have a1 := a.step s1
    obtain ⟨vs1, g1, _⟩ := a1.is
    refine ⟨.inl ⟨rfl, _, rd_l g1⟩, ?_⟩
    refine h B1 H1 s1.bb s1.ok _ fun w B2 H2 s2 ⟨p, ws, e2, r2, r3⟩ => ?_
    have a2 := a1.step s2
    obtain ⟨vs, h1, h2⟩ := a2.is
    subst e2
    refine ⟨l, p, vs, ws, rfl, rfl, h1, s2.ok.sub _ _ r2, ?_, k B2 H2 _ ((S.trans (s1.trans s2)).loc a.new a2.off a.nm) (s1.trans s2) (fun p o hp q => by rw [upd_ne hp]; exact q) ⟨a.new, a2.off, a.nm, vs ++ ws, upd_same, ?_⟩⟩
    · rw [← h2.pkLen, ← r3.pkLen, List.length_map, List.length_map]; exact Nat.le_trans hl (by decide)
    · rw [List.map_append]; exact Paired.pkApp h2 r3
/-- it stands for ever from now on -/
theorem Acc.frz (a : Acc C H0 Ra l xs B H) (S : Stp C B0 H0 B H) : ∃ B2, Stp C B0 H0 B2 H ∧ Ex B B2 ∧ (LstR (xs.map Ra)).P (.ref l) B2 ∧ ∀ p, p ≠ l → B p = none → B2 p = none := by
  obtain ⟨vs, h1, h2⟩ := a.is
  exact ⟨upd B l (.lst vs), S.frz a.new a.off a.nm h1, .new a.off, ⟨l, vs, rfl, upd_same, h2.mono (.new a.off)⟩, fun p hp hb => by rw [upd_ne hp]; exact hb⟩
/-- .. for a look only -/
theorem Acc.look (a : Acc C H0 Ra l xs B H) (k : Ok C B H) : ∃ B2, Ok C B2 H ∧ Ex B B2 ∧ (LstR (xs.map Ra)).P (.ref l) B2 := by
  obtain ⟨vs, h1, h2⟩ := a.is
  exact ⟨upd B l (.lst vs), k.frz a.off a.nm h1, .new a.off, l, vs, rfl, upd_same, h2.mono (.new a.off)⟩

/-! loops -/
theorem s_for {wi : TI} {g : TG} {items : List Rp} {J : Nat → L2.St → L2.St → Hp → Prop} (hi : EvI C wi σ B items) (S : Stp C B0 H0 B H) (hg : ∀ n R, items[n]? = some R → GOk g R (J n)) (Pv : Nat → L2.St → Hp → Hp → Prop)
    (h0 : ∀ B1 H1, Stp C B0 H0 B1 H1 → Stp C B H B1 H1 → Pv 0 σ B1 H1)
    (hs : ∀ n σ1 B1 H1 B2 H2, n < items.length → Stp C B0 H0 B1 H1 → Ex B B1 → Pv n σ1 B1 H1 → Stp C B1 H1 B2 H2 → ∀ σ2, J n σ1 σ2 B2 →
      tu { D with nx := fun σ H => ∃ B, Stp C B0 H0 B H ∧ Ex B1 B ∧ Pv (n + 1) σ B H, ct := fun σ H => ∃ B, Stp C B0 H0 B H ∧ Ex B1 B ∧ Pv (n + 1) σ B H, bk := D.nx } σ2 H2)
    (hd : ∀ σ1 B1 H1, Stp C B0 H0 B1 H1 → Ex B B1 → Pv items.length σ1 B1 H1 → D.nx σ1 H1) : tFor wi g tu D σ H :=
  hi B H (.refl _) S.ok _ fun Jt B1 H1 s1 hJ => by
    refine ⟨fun n m σ' H' => m = items.length - n ∧ n ≤ items.length ∧ ∃ B', Stp C B0 H0 B' H' ∧ Ex B1 B' ∧ Pv n σ' B' H', ⟨items.length, by simp, Nat.zero_le _, B1, S.trans s1, .refl _, h0 B1 H1 (S.trans s1) s1⟩, ?_⟩
    rintro n m σ' H' ⟨rfl, hn, B', S', eb, pv⟩
    obtain ⟨G, g1, g2, g3, g4⟩ := hJ B' eb
    by_cases hlt : n < items.length
    · refine .inr ⟨g2 n H' hlt (g1 H' S'.ok.sub), fun σ2 H2 => ∃ B2, Stp C B0 H0 B2 H2 ∧ Ex B' B2 ∧ Pv (n + 1) σ2 B2 H2, ?_, ?_⟩
      · rintro σ2 H2 ⟨B2, S2, e2, p2⟩
        exact ⟨items.length - (n + 1), by omega, rfl, hlt, B2, S2, eb.trans e2, p2⟩
      · intro x H2 y
        obtain ⟨B2, s2, r2⟩ := g4 n H' x H2 items[n] (by simp [hlt]) S'.ok y
        exact hg n items[n] (by simp [hlt]) x B2 H2 σ' _ s2.ok.sub r2 fun σ2 j2 => hs n σ' B' H' B2 H2 hlt S' (s1.bb.trans eb) pv s2 σ2 j2
    · have e : n = items.length := by omega
      subst e
      exact .inl ⟨g3 H' (g1 H' S'.ok.sub), hd σ' B' H' S' (s1.bb.trans eb) pv⟩
theorem q_for {wi : TI} {g : TG} {items : List Rp} {J : Nat → L2.St → L2.St → Hp → Prop} (hi : EvI C wi σ B items) (S : Stp C B0 H0 B H) (hg : ∀ n R, items[n]? = some R → GOk g R (J n)) (Pv : Nat → L2.St → Hp → Hp → Prop)
    (h0 : ∀ B1 H1, Stp C B0 H0 B1 H1 → Stp C B H B1 H1 → Pv 0 σ B1 H1)
    (hs : ∀ n σ1 B1 H1 B2 H2, n < items.length → Stp C B0 H0 B1 H1 → Ex B B1 → Pv n σ1 B1 H1 → Stp C B1 H1 B2 H2 → ∀ σ2, J n σ1 σ2 B2 →
      tu { D with nx := fun σ H => ∃ B, Stp C B0 H0 B H ∧ Ex B1 B ∧ Pv (n + 1) σ B H, ct := fun σ H => ∃ B, Stp C B0 H0 B H ∧ Ex B1 B ∧ Pv (n + 1) σ B H, bk := tz D } σ2 H2)
    (hd : ∀ σ1 B1 H1, Stp C B0 H0 B1 H1 → Ex B B1 → Pv items.length σ1 B1 H1 → tz D σ1 H1) : tSeq (tFor wi g tu) tz D σ H :=
  s_for (D := { D with nx := tz D }) hi S hg Pv h0 hs hd
end

/-! ### promises by data -/
structure Pm (ι : Type) where
  n : Nat
  need : ι → MI → Prop := fun _ _ => True
  args : ι → List Rp
  pre : ι → Prop := fun _ => True
  res : ι → Rp
  ln : ∀ x, (args x).length = n := by intro _; rfl
def Pm.sp {ι : Type} (p : Pm ι) : Sp := fun vs H Q _ => ∃ (C : MI) (B : Hp) (x : ι), Ok C B H ∧ p.need x C ∧ Args (p.args x) vs B ∧ p.pre x ∧ ∀ v B2 H2, Stp C B H B2 H2 → (p.res x).P v B2 → Q v H2
theorem Pm.len {ι : Type} (p : Pm ι) {m : Nat} (h : p.n = m) : ∀ vs H Q E, p.sp vs H Q E → vs.length = m := fun vs H Q E ⟨C, B, x, _, _, a, _, _⟩ => by rw [← a.pkLen, p.ln, h]
section
variable {C : MI} {σ : L2.St} {B : Hp} {t : TA} {E : XK} {ι : Type} {p : Pm ι}
theorem ev_call (x : ι) (h : EvA C t σ B (p.args x)) (hp : p.pre x) (hn : p.need x C := by trivial) : Ev C (tCall p.sp [] E t) σ B (p.res x) := fun B1 H1 e k Q q =>
  h B1 H1 e k _ fun vs B2 H2 s r => by
    rw [List.append_nil]
    exact ⟨C, B2, x, s.ok, hn, r, hp, fun v B3 H3 s3 r3 => q v B3 H3 (s.trans s3) r3⟩
end
end Pk

/-! Names for the printed derivations: operators, bundles of a def's facts, a display with a tuple key. -/
namespace Pk
open PySem PySem.Spec PyProof.Rows L2
abbrev rAddI : R2 := rI0 fun i j => .int (i + j)
abbrev rSubI : R2 := rI0 fun i j => .int (i - j)
abbrev rMulI : R2 := rI CMul fun i j => .int (i * j)
abbrev rModI : R2 := rI (fun _ j => 0 < j) fun i j => .int (i % j)
abbrev rDivI : R2 := rI CDivW fun i j => .int (i / j)
abbrev rPowI : R2 := rI CPow fun i j => .int (i ^ j.toNat)
abbrev rAndI : R2 := rI0 fun i j => .int (Builtin.bitAnd i j)
abbrev rLtI : R2 := rI0 fun i j => .bl (decide (i < j))
abbrev rLeI : R2 := rI0 fun i j => .bl (decide (i ≤ j))
abbrev rGtI : R2 := rI0 fun i j => .bl (decide (j < i))
abbrev rGeI : R2 := rI0 fun i j => .bl (decide (j ≤ i))
abbrev rNeg : V → Hp → VK → Prop := rU fun i => .int (-i)
abbrev rIsN0 : R2 := fun x y H Q => y = .non ∧ Q (.bl (decide (x = .non))) H
abbrev rNotN0 : R2 := fun x y H Q => y = .non ∧ Q (.bl (!decide (x = .non))) H
section
variable {X : Cx}
theorem op_addI : OpR X (binaryOp .Add) rAddI := op_add
theorem op_subI : OpR X (binaryOp .Sub) rSubI := op_sub
theorem op_mulI : OpR X (binaryOp .Mult) rMulI := op_mul
theorem op_modI : OpR X (binaryOp .Mod) rModI := op_mod
theorem op_divI : OpR X (binaryOp .FloorDiv) rDivI := op_fdivW
theorem op_powI : OpR X (binaryOp .Pow) rPowI := op_pow
theorem op_andI : OpR X (binaryOp .BitAnd) rAndI := op_and
theorem op_ltI : OpR X (compareOp .Lt) rLtI := op_lt
theorem op_leI : OpR X (compareOp .LtE) rLeI := op_le
theorem op_gtI : OpR X (compareOp .Gt) rGtI := op_gt
theorem op_geI : OpR X (compareOp .GtE) rGeI := op_ge
theorem un_negR : UnR X (unaryOp .USub) rNeg := un_neg
theorem op_isN0 : OpR X (compareOp .Is) rIsN0 := op_isN
theorem op_notN0 : OpR X (compareOp .IsNot) rNotN0 := op_notN
/-- l[i] of a list of the body's own, of any list -/
def rGetL : V → V → Hp → VK → Prop := fun o i H Q => ∃ p xs, ∃ j : Nat, ∃ z, o = .ref p ∧ i = .int (j : Int) ∧ H p = some (.lst xs) ∧ xs[j]? = some z ∧ Q z H
theorem get_list : PGet X rGetL := by
  intro pins s σ H o i ov iv Q I ro ri ⟨p, xs, j, z, e1, e2, h, ha, q⟩
  subst e1 e2
  cases ro
  obtain ⟨t, rfl⟩ := ri
  obtain ⟨its, r, pl, hz⟩ := I.list (show SqL X.K H p xs from .inl (.inl h))
  obtain ⟨w, ew, rw'⟩ := r.get ha
  have hn := line63
  have hj : j < xs.length := (List.getElem?_eq_some_iff.mp ha).1
  exact wpAny_getItem_list pl.isList (by omega) (by omega) (x := w) (by simpa using ew) ⟨z, H, I, rw', q⟩
theorem u65 {k : Nat} (r : Room k X.A) : X.A.units + 65 < cLine := by have := r.un; omega
theorem u64 {k : Nat} (r : Room k X.A) : X.A.units + 64 < cLine := r.units

/-! a dict display of one pair, its key a tuple -/
def tDisp1T (tk tv : TE) : TE := fun σ H Q => ∀ p, H p = none → tk σ (upd H p (.dT [])) fun x H1 => tv σ H1 fun y H2 => H2 p = some (.dT []) ∧ ∃ (b : Addr) (k : List Key), x = .ref b ∧ H2 b = some (.tup (k.map kV)) ∧ Q (.ref p) (upd H2 p (.dT [(k, y)]))
theorem pe_disp1T {k v : Expr} {tk tv : TE} {pos : Pos} {lvl : Nat} (hr : Room lvl X.A) (hk : PE X k tk) (hv : PE X v tv) : PE X (.Dict [some k] [v] pos) (tDisp1T tk tv) := by
  refine ⟨fun pins s σ H Q I q => ?_⟩
  have hn := I.hok.fresh (Nat.le_refl s.heap.objs.size)
  have I1 := I.laid (a := s.heap.objs.size) (o := .dT []) (h' := s.heap.push { cls := .type "dict", data := .dict #[] }) (t' := s.toks) (fun _ _ q => Heap.get?_push_of_some _ q) (Nat.le_refl _) (dt_empty s.heap I.big)
  have hl : [some k].length = [v].length := rfl
  rw [arm_eval_Dict, zip_pairTrees [some k] [v] X.env pos rfl rfl, dictDisplay_pairs (pairTrees [some k] [v] X.env pos) (by intro h; have := pairTrees_length [some k] [v] X.env pos rfl rfl; rw [h] at this; cases this) (by rw [pairTrees_length [some k] [v] X.env pos rfl rfl]; exact Nat.succ_lt_succ (Nat.zero_lt_succ _))]
  refine wpAny_bind (wpAny_standAt (wpAny_bind (wpAny_subDictH (knd := tupleKind (mixKind X.prog X.w)) (Q := fun d s' => wpAny (model X.prog X.w) X.A (pure (Value.ref d)) (EP X pins σ Q) X.xe s') ?_ (by rw [pairTrees_length [some k] [v] X.env pos rfl rfl]; exact Nat.succ_le_succ (Nat.zero_le _)) ?_)))
  · show X.A.units < cLine
    exact hr.units0
  refine pairTrees_cons_walk (thn (hk.run pins _ σ _ _ I1 (q _ hn)) fun u s1 ⟨x, H1, I1, rx, q1⟩ => thn (hv.run pins s1 σ H1 _ I1 q1) fun w2 s2 ⟨y, H2, I2, ry, e, b, ks, ex, eb, q2⟩ => pairTrees_nil_walk ?_)
  subst ex
  cases (show u = Value.ref b from rx)
  obtain ⟨z, hd, xs, r0, dd⟩ := dt_of I2.hok e
  cases r0
  refine ⟨[(ks, b, w2)], ⟨rfl, rfl, key_of I2.hok eb, trivial⟩, dd, fun h' tk dd' hs => wpAny_pure ⟨.ref s.heap.objs.size, _, ?_, rfl, q2⟩⟩
  obtain ⟨q', es, ep, hq, h2, h3, h4, _, h5⟩ := dd'
  refine d_write I2 (by rw [e]; exact True.intro) hs ⟨q', hq⟩ ⟨by rw [sizeLine_eq]; exact Nat.succ_le_succ (Nat.zero_le _), hd, [(ks, b, w2)], ?_, q', es, ep, hq, h2, h3, h4, h5⟩
  refine .cons ⟨rfl, ?_, ry⟩ .nil
  show upd H2 s.heap.objs.size _ b = _
  rw [upd_ne (ne_of eb e (fun z => nomatch z))]
  exact eb
end

/-! a dict that is not changed any more -/
def tFrz (td : TE) : TE := fun σ H Q => td σ H fun x H1 => ∃ d u, x = .ref d ∧ H1 d = some u ∧ Mut (some u) ∧ ∀ od, Q x (upd H1 d (.frz od u))
theorem pe_frz {X : Cx} {e : Expr} {td : TE} (h : PE X e td) : PE X e (tFrz td) := by
  refine ⟨fun pins s σ H Q I q => ?_⟩
  refine wpAny_mono (h.run pins s σ H _ I q) (fun u s1 ⟨x, H1, I1, rx, d, o, ex, hd, mu, q1⟩ => ?_) fun _ _ e => e
  obtain ⟨od, I2⟩ := I1.lock hd mu
  exact ⟨x, _, I2, rx, q1 od⟩

/-! ### a def as it is called -/
structure FnX (P : Program) (w : World) (K : PySem.W.Frag) (mg : Str → Option Value) (base : Heap) (k : Nat) (a : Addr) (ps : List Str) (sp : Sp) : Prop where
  ex : ∃ fd, FnOk P w K mg base CX0 k a fd ps sp ∧ Binds K fd ps []
  kp : PySem.W.keepIn K (.ref a) = true
structure FnY (P : Program) (w : World) (K : PySem.W.Frag) (mg : Str → Option Value) (base : Heap) (k : Nat) (a : Addr) (ps : List Str) (sp : Sp) : Prop where
  ex : ∃ fd, FnG P w K mg base CX0 k a fd ps sp ∧ Binds K fd ps []
  kp : PySem.W.keepIn K (.ref a) = true
abbrev DefOf (K : PySem.W.Frag) (x qual : Str) (st : Stmt) (a : Addr) : Prop := ∃ fd, FunD K x qual (defArgs st) (defBody st) (defScope st) [] [] a fd
section
variable {X : Cx} {k lvl : Nat} {a C : Addr} {ps : List Str} {sp : Sp} {x m : Str} {p pos apos : Pos} {e o : Expr} {es : List Expr} {ta : TE} {t : TA}
theorem pe_cal (F : FnX X.prog X.w X.K X.mg X.base k a ps sp) (hm : X.mg x = some (.ref a)) (hr : Room lvl X.A) (hl : k ≤ lvl) (hg : Gl X x) (ha : PA X (e :: es) t) (hdb : (x == ("__debug__" : Str)) = false := by decide)
    (he : starEach (e :: es) X.env = (false, eval e X.env) :: starEach es X.env := by rfl) (hpl : (backTo pos (starEach es X.env)).any (·.1) = false := by rfl) : PE X (.Call (.Name x p) (e :: es) [] pos) (tCall sp [] E0 t) := by
  obtain ⟨fd, F1, b⟩ := F.ex
  exact pe_call F1 (hr.mono hl) hg hm F.kp b .nil pass0 ha hdb he hpl
theorem pe_calG (F : FnY X.prog X.w X.K X.mg X.base k a ps sp) (hm : X.mg x = some (.ref a)) (hr : Room lvl X.A) (hl : k ≤ lvl) (gu : X.A.guards = some []) (hg : Gl X x) (ha : PA X (e :: es) t) (hdb : (x == ("__debug__" : Str)) = false := by decide)
    (he : starEach (e :: es) X.env = (false, eval e X.env) :: starEach es X.env := by rfl) (hpl : (backTo pos (starEach es X.env)).any (·.1) = false := by rfl) : PE X (.Call (.Name x p) (e :: es) [] pos) (tCall sp [] E0 t) := by
  obtain ⟨fd, F1, b⟩ := F.ex
  exact pe_callG F1 (hr.mono hl) gu hg hm F.kp b pass0 ha hdb he hpl
theorem pe_met {pl : Sem Bool} (F : FnX X.prog X.w X.K X.mg X.base k a ps sp) (c : Cls X.K C) (hm : Meth X.K C m a) (hr : Room lvl X.A) (hl : k ≤ lvl) (ho : PE X o ta) (ha : PA X (e :: es) t)
    (hst : starEach (e :: es) X.env = (false, eval e X.env) :: starEach es X.env := by rfl) (hpl : (backTo pos (starEach es X.env)).any (·.1) = false := by rfl)
    (ht : eval (.Call (.Attribute o m apos) (e :: es) [] pos) X.env = (do
      let ov ← eval o X.env
      standAt apos.atName
      let (f, first) ← holding [ov] (getMethod ov m pl)
      callWith pos f first (backTo pos (starEach (e :: es) X.env)) (backToKw pos (keywordEach [] X.env))) := by rfl) : PE X (.Call (.Attribute o m apos) (e :: es) [] pos) (tMeth C m sp [] E0 ta t) := by
  obtain ⟨fd, F1, b⟩ := F.ex
  exact pe_meth (pl := pl) ho c hm F1 (hr.mono hl) b .nil pass0 ha hst hpl ht
theorem pe_met0 {pl : Sem Bool} (F : FnX X.prog X.w X.K X.mg X.base k a ps sp) (c : Cls X.K C) (hm : Meth X.K C m a) (hr : Room lvl X.A) (hl : k ≤ lvl) (ho : PE X o ta)
    (ht : eval (.Call (.Attribute o m apos) [] [] pos) X.env = (do
      let ov ← eval o X.env
      standAt apos.atName
      let (f, first) ← holding [ov] (getMethod ov m pl)
      callWith pos f first (backTo pos (starEach [] X.env)) (backToKw pos (keywordEach [] X.env))) := by rfl) : PE X (.Call (.Attribute o m apos) [] [] pos) (tMeth C m sp [] E0 ta tNil) := by
  obtain ⟨fd, F1, b⟩ := F.ex
  exact pe_meth0 (pl := pl) ho c hm F1 (hr.mono hl) b .nil pass0 ht
theorem pe_mak (F : FnX X.prog X.w X.K X.mg X.base k a ps sp) (M : Mk X.K C a) (hm : X.mg x = some (.ref C)) (hr : Room lvl X.A) (hl : k + 1 ≤ lvl) (hg : Gl X x) (ha : PA X (e :: es) t) (hdb : (x == ("__debug__" : Str)) = false := by decide)
    (he : starEach (e :: es) X.env = (false, eval e X.env) :: starEach es X.env := by rfl) (hpl : (backTo pos (starEach es X.env)).any (·.1) = false := by rfl) : PE X (.Call (.Name x p) (e :: es) [] pos) (tMake C sp [] E0 t) := by
  obtain ⟨fd, F1, b⟩ := F.ex
  exact pe_make M F1 (hr.mono hl) hg hm b .nil pass0 ha hdb he hpl
end
section
variable {P : Program} {w : World} {K : PySem.W.Frag} {mg : Str → Option Value} {base : Heap} {k : Nat} {a : Addr} {x qual : Str} {st : Stmt} {N ps : List Str} {sp : Sp} {tr : TS}
theorem FnX.of (D : DefOf K x qual st a) (S : FnScope N ps (defScope st)) (len : ∀ vs H Q E, sp vs H Q E → vs.length = ps.length)
    (hb : ∀ (kV doc pm : Value) (an : Option Addr) (cdv ct : Value) (us : List Value), us.length = ps.length → bindArgs (PySem.W.fnOf x qual (defArgs st) (defBody st) (defScope st) .none kV doc pm an cdv ct) ⟨us, []⟩ = pure (ps.zip us))
    (pure_ : ∀ vs H Q E, sp vs H Q E → tr { nx := fun _ H' => Q .non H', rt := Q } (start N vs) H)
    (h : ∀ (fd : FuncData) (cdv : Value) (A : Around) (outer : List Env) (s : Shared) (H : Hp) (E : XK), Room k (A.deeper (envOfC qual (defScope st) s.heap.objs.size a cdv)) → PSs (cxOf CX0 P w K mg base N qual (defScope st) a cdv A outer s H E).nox (defBody st) tr) :
    FnX P w K mg base (k + 1) a ps sp := by
  obtain ⟨fd, F⟩ := D
  exact ⟨⟨fd, F.ok S len fun cdv A outer s H vs Q E hr h0 => ⟨tr, PSs.nox (h fd cdv A outer s H E hr), pure_ vs H Q E h0⟩, F.bindsN hb⟩, F.kp⟩
theorem FnY.of (D : DefOf K x qual st a) (S : FnScope N ps (defScope st)) (len : ∀ vs H Q E, sp vs H Q E → vs.length = ps.length)
    (hb : ∀ (kV doc pm : Value) (an : Option Addr) (cdv ct : Value) (us : List Value), us.length = ps.length → bindArgs (PySem.W.fnOf x qual (defArgs st) (defBody st) (defScope st) .none kV doc pm an cdv ct) ⟨us, []⟩ = pure (ps.zip us))
    (pure_ : ∀ vs H Q E, sp vs H Q E → tr { nx := fun _ H' => Q .non H', rt := Q } (start N vs) H)
    (h : ∀ (fd : FuncData) (cdv : Value) (A : Around) (outer : List Env) (s : Shared) (H : Hp) (E : XK), Room k (A.deeper (envOfC qual (defScope st) s.heap.objs.size a cdv)) → A.guards = some [] → PSs (cxOf CX0 P w K mg base N qual (defScope st) a cdv A outer s H E).nox (defBody st) tr) :
    FnY P w K mg base (k + 1) a ps sp := by
  obtain ⟨fd, F⟩ := D
  exact ⟨⟨fd, fdG F S len fun cdv A outer s H vs Q E hr gu h0 => ⟨tr, PSs.nox (h fd cdv A outer s H E hr gu), pure_ vs H Q E h0⟩, F.bindsN hb⟩, F.kp⟩
end
end Pk

/-! Bounds, instances, isinstance, chains, calls of methods: evaluation. -/
namespace Pk
open PySem L2
open Enc (enc dep)
/-- a bound: its column, its way, its value -/
structure Bd where
  c : Int
  w : Wy
  v : Int
  deriving DecidableEq
abbrev Sd := Int × Wy
instance : Enc Bd := ⟨fun b => .tuple [.int b.c, .str b.w.s, .int b.v], 1, fun b => by
    have h := Enc.lay b.w
    have h' : (PyData.str b.w.s).canLay0 = true := h
    simp [PyData.canLay0, PyData.canLayAll0] at h' ⊢
    exact h', fun b => by simp [PyData.depth, PyData.depthAll], fun x y => by
    have h := Enc.inj x.w y.w
    have h' : PyData.eqv (.str x.w.s) (.str y.w.s) = true ↔ x.w = y.w := h
    cases x; cases y
    simp only [PyData.eqv, PyData.eqvAll, Bool.and_eq_true, Bd.mk.injEq] at h' ⊢
    rw [h']
    simp, fun x y h => by
    injection h with h
    injection h with h1 h
    injection h with h2 h
    injection h with h3 _
    have e : x.w = y.w := Enc.inj2 x.w y.w h2
    cases x; cases y
    injection h1 with h1
    injection h3 with h3
    simp_all⟩
instance : Alk Bd := ⟨fun x y => by simp [Enc.enc, PySem.W.alike, PySem.W.alikeAll]⟩
section
variable {C : MI} {K : PySem.W.Frag} {σ : L2.St} {B : Hp} {R S : Rp} {te ta tb tc : TE} {t : TA} {Rs : List Rp} {v : V}
theorem is_bd {b : Bd} : (Is K b).P v B ↔ (TupR [Is K b.c, Is K b.w, Is K b.v]).P v B := ⟨fun h => by
    cases h with
    | tup h1 h2 =>
      cases h2 with
      | cons r t =>
        cases t with
        | cons r' t =>
          cases t with
          | cons r3 t => cases t; exact ⟨_, _, rfl, h1, .cons r (.cons r' (.cons r3 .nil))⟩, fun ⟨a, vs, h1, h2, h3⟩ => by
    subst h1
    cases h3 with
    | cons r t =>
      cases t with
      | cons r' t =>
        cases t with
        | cons r3 t => cases t; exact .tup h2 (.cons r (.cons r' (.cons r3 .nil)))⟩
/-- bound[:2] -/
theorem ev_sl2 {b : Bd} (h : Ev C te σ B (Is K b)) : Ev C (tSl (rSlA K) te tNoPart (tPart (tC (.int 2)))) σ B (Is K (b.c, b.w)) :=
  (ev_slT (h.le fun _ _ => is_bd.mp) eo_none (eo_some (ev_int (K := K)))).le fun _ _ r => is_pair.mpr r
/-- side + (value,) -/
theorem ev_side {s : Sd} {i : Int} (h : Ev C ta σ B (Is K s)) (h' : Ev C tb σ B (Is K i)) : Ev C (tOp (rCatA K) ta (tTup (tCons tb tNil))) σ B (Is K (Bd.mk s.1 s.2 i)) :=
  (ev_catT (h.le fun _ _ => is_pair.mp) (ev_tup (ea_cons h' ea_nil) (by simp)) (by simp)).le fun _ _ r => is_bd.mpr r
theorem ev_un {f : Int → Int} {i : Int} (h : Ev C ta σ B (Is K i)) : Ev C (tUn (rU fun i => .int (f i)) ta) σ B (Is K (f i)) := fun B1 H1 e k Q q =>
  h B1 H1 e k _ fun v B2 H2 s r => ⟨i, is_int.mp r, q _ B2 H2 s (.int _)⟩
/-! instances -/
def InsR (Cl : Addr) (fs : List (Str × Rp)) : Rp := ⟨fun v B => ∃ a dx vs, v = .ref a ∧ B a = some (.ins Cl dx ((fs.map Prod.fst).zip vs)) ∧ Args (fs.map Prod.snd) vs B, fun e ⟨a, dx, vs, h1, h2, h3⟩ => ⟨a, dx, vs, h1, e _ _ h2, h3.mono e⟩⟩
theorem args_lookup {f : Str} {R : Rp} : ∀ {fs : List (Str × Rp)} {vs : List V}, Args (fs.map Prod.snd) vs B → fs.lookup f = some R → ∃ w, ((fs.map Prod.fst).zip vs).lookup f = some w ∧ R.P w B
  | [], _, _, h => by cases h
  | (g, S) :: fs, _, a, h => by
    cases a with
    | @cons _ w _ vs r t =>
      rw [List.lookup_cons] at h
      rw [List.map_cons, List.zip_cons_cons, List.lookup_cons]
      cases q : f == g with
      | true => rw [q] at h; cases h; exact ⟨w, rfl, r⟩
      | false => rw [q] at h; exact args_lookup t h
theorem args_nolookup {f : Str} : ∀ {fs : List (Str × Rp)} {vs : List V}, fs.lookup f = none → ((fs.map Prod.fst).zip vs).lookup f = none
  | [], _, _ => rfl
  | (g, S) :: fs, [], _ => rfl
  | (g, S) :: fs, w :: vs, h => by
    rw [List.lookup_cons] at h
    rw [List.map_cons, List.zip_cons_cons, List.lookup_cons]
    cases q : f == g with
    | true => rw [q] at h; cases h
    | false => rw [q] at h; exact args_nolookup h
theorem ev_fld {Cl : Addr} {fs : List (Str × Rp)} {f : Str} (hc : Cls K Cl) (hn : NoAttr K Cl f) (h : Ev C te σ B (InsR Cl fs)) (hl : fs.lookup f = some R) : Ev C (tFld K te f) σ B R := fun B1 H1 e k Q q =>
  h B1 H1 e k _ fun v B2 H2 s ⟨a, dx, vs, h1, h2, h3⟩ => by
    obtain ⟨w, w1, w2⟩ := args_lookup h3 hl
    exact ⟨a, Cl, dx, _, w, h1, s.ok.sub _ _ h2, hc, hn, w1, q w B2 H2 s w2⟩
theorem ev_meth {ι : Type} {p : Pm ι} {Cl : Addr} {fs : List (Str × Rp)} {m : Str} (x : ι) (h : Ev C te σ B (InsR Cl fs)) (ha : EvA C t σ B Rs) (hl : fs.lookup m = none) (hx : p.args x = InsR Cl fs :: Rs) (hp : p.pre x) (hn : p.need x C := by trivial) :
    Ev C (tMeth Cl m p.sp [] E0 te t) σ B (p.res x) := fun B1 H1 e k Q q =>
  h B1 H1 e k _ fun v B2 H2 s r => by
    obtain ⟨a, dx, vs, h1, h2, h3⟩ := id r
    refine ⟨a, dx, _, h1, s.ok.sub _ _ h2, args_nolookup hl, ?_⟩
    refine ha B2 H2 (e.trans s.bb) s.ok _ fun ws B3 H3 s3 r3 => ?_
    rw [List.append_nil]
    exact ⟨C, B3, x, s3.ok, hn, by rw [hx]; exact .cons (Rp.mono _ s3.bb r) r3, hp, fun v B4 H4 s4 r4 => q v B4 H4 (s.trans (s3.trans s4)) r4⟩
/-! a <= x <= b -/
theorem ev_chain {i j l : Int} (h1 : Ev C ta σ B (Is K i)) (h2 : Ev C tb σ B (Is K j)) (h3 : Ev C tc σ B (Is K l)) : Ev C (tChain rLeI rLeI ta tb tc) σ B (Is K (decide (i ≤ j) && decide (j ≤ l))) := fun B1 H1 e k Q q =>
  h1 B1 H1 e k _ fun v B2 H2 s2 r2 => h2 B2 H2 (e.trans s2.bb) s2.ok _ fun w B3 H3 s3 r3 => by
    rw [is_int.mp r2, is_int.mp r3]
    refine ⟨i, j, rfl, rfl, decide (i ≤ j), rfl, ?_⟩
    cases q1 : decide (i ≤ j) with
    | true =>
      rw [if_pos rfl]
      refine h3 B3 H3 (e.trans (s2.bb.trans s3.bb)) s3.ok _ fun z B4 H4 s4 r4 => ?_
      rw [is_int.mp r4]
      exact ⟨j, l, rfl, rfl, q _ B4 H4 (s2.trans (s3.trans s4)) (is_bool.mpr (by rw [q1]; rfl))⟩
    | false =>
      rw [if_neg Bool.false_ne_true]
      exact q _ B3 H3 (s2.trans s3) (is_bool.mpr (by rw [q1]; rfl))
/-! isinstance -/
def ValR (w : V) : Rp := ⟨fun v _ => v = w, fun _ h => h⟩
theorem ev_isi {n : String} {t : Value} {b : Bool} (h : Ev C te σ B R) (ht : ∀ v B H, Ex B H → R.P v B → TyX K H v t) (hb : PySem.W.kitOne K t (.type n) = some b) : Ev C (tCB (rIsi K) (tCons te (tCons (tC (.ty n)) tNil))) σ B (Is K b) :=
  ev_cb (ea_cons h (ea_cons (ev_c (R := ValR (.ty n)) fun _ => rfl) ea_nil)) fun vs B1 H1 e k a Q q => by
  cases a with
  | @cons _ x _ _ r t' =>
    cases t' with
    | @cons _ y _ _ r' t' =>
      cases t'
      have e' : y = .ty n := r'
      subst e'
      exact ⟨x, .ty n, t, .type n, b, rfl, .ty n, ht x B1 H1 k.sub r, hb, q _ B1 H1 k.refl (.bl b)⟩
theorem ev_isIntInt {i : Int} (h : Ev C te σ B (Is K i)) : Ev C (tCB (rIsi K) (tCons te (tCons (tC (.ty "int")) tNil))) σ B (Is K true) := ev_isi h (t := .type "int") (fun v B H _ r => by rw [is_int.mp r]; exact .base (.int i)) rfl
theorem ev_isIntBool {i : Int} (h : Ev C te σ B (Is K i)) : Ev C (tCB (rIsi K) (tCons te (tCons (tC (.ty "bool")) tNil))) σ B (Is K false) := ev_isi h (t := .type "int") (fun v B H _ r => by rw [is_int.mp r]; exact .base (.int i)) rfl
theorem ev_isList {Rs : List Rp} (h : Ev C te σ B (LstR Rs)) : Ev C (tCB (rIsi K) (tCons te (tCons (tC (.ty "list")) tNil))) σ B (Is K true) := ev_isi h (t := .type "list") (fun v B H e r => by
  obtain ⟨a, vs, h1, h2, _⟩ := r
  subst h1
  exact .base (.lst (e _ _ h2))) rfl
end
end Pk

/-! Looks at what may change: values that are told; lists of the body's own; while. -/
namespace Pk
open PySem L2
open Enc (enc dep)
/-- at this heap, the value is told -/
def EvH (C : MI) (te : TE) (σ : L2.St) (B H : Hp) (v : V) : Prop := ∀ Q : VK, (∀ H2, Stp C B H B H2 → Q v H2) → te σ H Q
section
variable {C : MI} {K : PySem.W.Frag} {σ : L2.St} {B0 H0 B H : Hp} {R R1 R2 R3 : Rp} {te ta tb : TE} {tt : TT} {tu tw tz : TS} {D : Ends} {b : Bool} {α β : Type} {Rs : List Rp} {i j m : Nat} {v : V}
theorem Stp.down {T B2 H2 : Hp} (k : Ok C B H) (s : Stp C T H B2 H2) (e : Ex B T) : Stp C B H B H2 :=
  ⟨⟨fun a o q => s.hh a o (fun ma => by rw [k.off a ma] at q; cases q) (k.sub a o q), k.off, s.ok.liv, s.ok.inv⟩, .refl _, s.hh, fun _ _ h => h⟩
theorem Ev.at (h : Ev C te σ B R) (k : Ok C B H) (hv : ∀ w B, R.P w B → w = v) : EvH C te σ B H v := fun Q q => h B H (.refl _) k _ fun w B2 H2 s r => by rw [hv w B2 r]; exact q H2 (s.drop k)
theorem int_val {i : Int} : ∀ w B, (Is K i).P w B → w = .int i := fun _ _ h => is_int.mp h
theorem nat_val {i : Nat} : ∀ w B, (Is K i).P w B → w = .int i := fun _ _ h => is_nat.mp h
theorem bool_val {i : Bool} : ∀ w B, (Is K i).P w B → w = .bl i := fun _ _ h => is_bool.mp h
variable {Ra : α → Rp} {l : Addr} {xs : List α}
/-- an own list is looked at -/
theorem Acc.peek (a : Acc C H0 Ra l xs B H) (k : Ok C B H) (h : ∀ T, Ex B T → Ok C T H → (LstR (xs.map Ra)).P (.ref l) T → Ev C te σ T R) (hv : ∀ w B, R.P w B → w = v) : EvH C te σ B H v := fun Q q => by
  obtain ⟨T, k2, e2, r⟩ := a.look k
  exact h T e2 k2 r T H (.refl _) k2 _ fun w B2 H2 s rw' => by rw [hv w B2 rw']; exact q H2 (s.down k e2)
theorem s_appV {x : α} (a : Acc C H0 Ra l xs B H) (hx : σ[i]? = some (some (.ref l))) (h : EvH C te σ B H v) (S : Stp C B0 H0 B H) (hp : ∀ B, (Ra x).P v B) (hl : xs.length < 16000000)
    (k : ∀ H3, Stp C B0 H0 B H3 → Acc C H0 Ra l (xs ++ [x]) B H3 → D.nx σ H3) : tDrop (tBM K "list" rAppend (tVar i) (tCons te tNil)) D σ H := by
  refine ⟨.ref l, hx, ?_⟩
  obtain ⟨vs1, g1, _⟩ := a.is
  refine ⟨.inl ⟨rfl, _, rd_l g1⟩, ?_⟩
  refine h _ fun H2 s2 => ?_
  have a2 := a.step s2
  obtain ⟨vs, h1, h2⟩ := a2.is
  refine ⟨l, vs, v, rfl, rfl, h1, ?_, k _ ((S.trans s2).loc a.new a2.off a.nm) ⟨a.new, a2.off, a.nm, vs ++ [v], upd_same, ?_⟩⟩
  · rw [← h2.pkLen, List.length_map]; exact Nat.lt_of_lt_of_le hl (by decide)
  · rw [List.map_append]; exact Paired.pkApp h2 (.cons (hp B) .nil)
theorem q_appV {x : α} (a : Acc C H0 Ra l xs B H) (hx : σ[i]? = some (some (.ref l))) (h : EvH C te σ B H v) (S : Stp C B0 H0 B H) (hp : ∀ B, (Ra x).P v B) (hl : xs.length < 16000000)
    (k : ∀ H3, Stp C B0 H0 B H3 → Acc C H0 Ra l (xs ++ [x]) B H3 → tz D σ H3) : tSeq (tDrop (tBM K "list" rAppend (tVar i) (tCons te tNil))) tz D σ H :=
  s_appV (D := { D with nx := tz D }) a hx h S hp hl k
/-- the end: return the own list -/
theorem s_retAcc (a : Acc C H0 Ra l xs B H) (hx : σ[i]? = some (some (.ref l))) (S : Stp C B0 H0 B H) (k : ∀ B2, Stp C B0 H0 B2 H → (LstR (xs.map Ra)).P (.ref l) B2 → D.rt (.ref l) H) : tRet (tVar i) D σ H := by
  obtain ⟨B2, S2, e2, r, _⟩ := a.frz S
  exact ⟨.ref l, hx, k B2 S2 r⟩
/-- data lists -/
theorem ev_lcMD {wi : TI} {g : TG} {vs : List Nat} [Enc β] {Ri : α → Rp} {xs : List α} {J : α → L2.St → L2.St → Hp → Prop} (f : α → β) (hi : EvI C wi σ B (xs.map Ri)) (hn : xs.length ≤ 16000000) (hg : ∀ x, GOk g (Ri x) (J x))
    (he : ∀ x σ2 B', x ∈ xs → Ex B B' → J x (wipe σ vs) σ2 B' → wipe σ2 vs = wipe σ vs ∧ Ev C te σ2 B' (Is K (f x))) : Ev C (tLc wi g tYes te vs) σ B (Is K (xs.map f)) :=
  (ev_lcM (Ro := Is K) f hi hn hg he).le fun _ _ => lst_is
theorem ev_lcFD {wi : TI} {g : TG} {vs : List Nat} [Enc β] {Ri : α → Rp} {xs : List α} {J : α → L2.St → L2.St → Hp → Prop} (p : α → Bool) (f : α → β) (hi : EvI C wi σ B (xs.map Ri)) (hn : xs.length ≤ 16000000) (hg : ∀ x, GOk g (Ri x) (J x))
    (he : ∀ x σ2 B', x ∈ xs → Ex B B' → J x (wipe σ vs) σ2 B' → wipe σ2 vs = wipe σ vs ∧ EvT C tt σ2 B' (p x) ∧ (p x = true → Ev C te σ2 B' (Is K (f x)))) : Ev C (tLc wi g tt te vs) σ B (Is K ((xs.filter p).map f)) :=
  (ev_lcF (Ro := Is K) p f hi hn hg he).le fun _ _ => lst_is
/-- nats as ints -/
theorem is_natL {ns : List Nat} {v : V} : (Is K ns).P v B ↔ (Is K (ns.map fun n : Nat => (n : Int))).P v B := by
  show Dq K B v (enc ns) ↔ Dq K B v (enc _)
  have e : enc (ns.map fun n : Nat => (n : Int)) = enc ns := by
    show PyData.list ((ns.map fun n : Nat => (n : Int)).map enc) = PyData.list (ns.map enc)
    rw [List.map_map]; rfl
  rw [e]
theorem is_natT {ns : List Nat} {v : V} : (Is K (Tu.mk ns)).P v B ↔ (Is K (Tu.mk (ns.map fun n : Nat => (n : Int)))).P v B := by
  show Dq K B v (enc _) ↔ Dq K B v (enc _)
  have e : enc (Tu.mk (ns.map fun n : Nat => (n : Int))) = enc (Tu.mk ns) := by
    show PyData.tuple ((ns.map fun n : Nat => (n : Int)).map enc) = PyData.tuple (ns.map enc)
    rw [List.map_map]; rfl
  rw [e]
theorem bitAnd_nat (a b : Nat) : Builtin.bitAnd (a : Int) (b : Int) = ((a &&& b : Nat) : Int) := by
  unfold Builtin.bitAnd
  rw [decide_eq_true (by omega : (0 : Int) ≤ a), decide_eq_true (by omega : (0 : Int) ≤ b)]
  simp
theorem ev_andN {a b : Nat} (ha : Ev C ta σ B (Is K a)) (hb : Ev C tb σ B (Is K b)) : Ev C (tOp rAndI ta tb) σ B (Is K (a &&& b)) := by
  have h := ev_i (K := K) (g := fun i j => Builtin.bitAnd i j) (i := (a : Int)) (j := (b : Int)) ha hb
  rw [bitAnd_nat] at h
  exact h
theorem ev_natI {a : Nat} (h : Ev C ta σ B (Is K a)) : Ev C ta σ B (Is K (a : Int)) := h
/-- the two, the three that a zip gives -/
theorem zipR {γ : Type} {Rb : β → Rp} : ∀ (xs : List α) (ys : List β), List.zipWith (fun R R' => TupR [R, R']) (xs.map Ra) (ys.map Rb) = (xs.zip ys).map fun p => TupR [Ra p.1, Rb p.2]
  | [], _ => by simp
  | _ :: _, [] => by simp
  | x :: xs, y :: ys => by simp [zipR (γ := γ) xs ys]
end
end Pk

/-! zip of lists and tuples, loops over data, keys of a display of ints. -/
namespace Pk
open PySem L2
open Enc (enc dep)
section
variable {C : MI} {K : PySem.W.Frag} {σ : L2.St} {B0 H0 B H : Hp} {R R1 R2 R3 : Rp} {te ta tb : TE} {t : TA} {tt : TT} {tu tw tz : TS} {D : Ends} {b : Bool} {α β γ : Type} {Rs Rs' Rs3 : List Rp} {i j m : Nat} {v : V}
def SqR : Bool → List Rp → Rp
  | true, Rs => LstR Rs
  | false, Rs => TupR Rs
theorem sqR_at {b : Bool} {Rs : List Rp} {v : V} (h : (SqR b Rs).P v B) : ∃ a vs, v = .ref a ∧ Args Rs vs B ∧ ∀ H, Ex B H → Sq K b H a vs := by
  cases b with
  | true => obtain ⟨a, vs, h1, h2, h3⟩ := h; exact ⟨a, vs, h1, h3, fun H e => rd_l (e _ _ h2)⟩
  | false => obtain ⟨a, vs, h1, h2, h3⟩ := h; exact ⟨a, vs, h1, h3, fun H e => rd_t (e _ _ h2)⟩
theorem ei_zipM {b1 b2 : Bool} (h : EvA C t σ B [SqR b1 Rs, SqR b2 Rs']) : EvI C (iZipM K b1 b2 t) σ B (List.zipWith (fun R R' => TupR [R, R']) Rs Rs') := fun B1 H1 e k R q => h B1 H1 e k _ fun vs B2 H2 s r => by
  cases r with
  | cons r t =>
    cases t with
    | cons r' t =>
      cases t
      obtain ⟨a, xs, h1, h3, h2⟩ := sqR_at (K := K) r
      obtain ⟨c, ys, h1', h3', h2'⟩ := sqR_at (K := K) r'
      subst h1 h1'
      refine ⟨a, c, xs, ys, rfl, h2 _ s.ok.sub, h2' _ s.ok.sub, q _ B2 H2 s fun B3 e3 => ⟨fun H => Sq K b1 H a xs ∧ Sq K b2 H c ys, fun H3 e4 => ⟨h2 _ (e3.trans e4), h2' _ (e3.trans e4)⟩, fun i H hi g => ?_, fun H g => ?_, fun i H x H' R hR k3 y => ?_⟩⟩
      · rw [List.length_zipWith, h3.pkLen, h3'.pkLen] at hi
        exact ⟨xs, ys, xs[i]'(by omega), ys[i]'(by omega), g.1, g.2, by simp, by simp⟩
      · refine ⟨xs, ys, g.1, g.2, ?_, ?_, ?_⟩ <;> rw [List.length_zipWith, h3.pkLen, h3'.pkLen] <;> omega
      · obtain ⟨T, u, z, e1, e2, e4, e5, e6⟩ := y
        obtain ⟨Ra, Rb, g1, g2, rfl⟩ := zipWith_get hR
        obtain ⟨u', f1, f2⟩ := h3.pkGet g1
        obtain ⟨z', f3, f4⟩ := h3'.pkGet g2
        have e5' := e5 xs (h2 _ (e3.trans k3.sub))
        have e6' := e6 ys (h2' _ (e3.trans k3.sub))
        rw [f1] at e5'; cases e5'
        rw [f3] at e6'; cases e6'
        subst e1 e4
        exact pair_new k3 e2 (Ra.mono e3 f2) (Rb.mono e3 f4)
/-- over data -/
theorem ei_zipMD {b1 b2 : Bool} {Ra : α → Rp} {Rb : β → Rp} {xs : List α} {ys : List β} (h : EvA C t σ B [SqR b1 (xs.map Ra), SqR b2 (ys.map Rb)]) : EvI C (iZipM K b1 b2 t) σ B ((xs.zip ys).map fun p => TupR [Ra p.1, Rb p.2]) := by
  have g := ei_zipM (K := K) h
  rw [zipR (γ := Unit)] at g
  exact g
theorem zip3_get {xs : List α} {ys : List β} {zs : List γ} {i : Nat} {c : α × β × γ} (h : (xs.zip (ys.zip zs))[i]? = some c) : xs[i]? = some c.1 ∧ ys[i]? = some c.2.1 ∧ zs[i]? = some c.2.2 := by
  rw [List.getElem?_zip_eq_some] at h
  have h2 := List.getElem?_zip_eq_some.mp h.2
  exact ⟨h.1, h2.1, h2.2⟩
theorem triple_new {B H : Hp} {T : Addr} {x y z : V} {R R' R3 : Rp} (k : Ok C B H) (hn : H T = none) (hx : R.P x B) (hy : R'.P y B) (hz : R3.P z B) : ∃ B', Stp C B H B' (upd H T (.tup [x, y, z])) ∧ (TupR [R, R', R3]).P (.ref T) B' :=
  have e : Ex B (upd B T (.tup [x, y, z])) := .new (k.sub.un hn)
  ⟨_, k.new hn, T, [x, y, z], rfl, upd_same, .cons (R.mono e hx) (.cons (R'.mono e hy) (.cons (R3.mono e hz) .nil))⟩
theorem ei_zipM3 {b1 b2 b3 : Bool} {Ra : α → Rp} {Rb : β → Rp} {Rc : γ → Rp} {xs : List α} {ys : List β} {zs : List γ} (h : EvA C t σ B [SqR b1 (xs.map Ra), SqR b2 (ys.map Rb), SqR b3 (zs.map Rc)]) :
    EvI C (iZipM3 K b1 b2 b3 t) σ B ((xs.zip (ys.zip zs)).map fun p => TupR [Ra p.1, Rb p.2.1, Rc p.2.2]) := fun B1 H1 e k R q => h B1 H1 e k _ fun vs B2 H2 s r => by
  cases r with
  | cons r t =>
    cases t with
    | cons r' t =>
      cases t with
      | cons r3 t =>
        cases t
        obtain ⟨a, us, h1, h3, h2⟩ := sqR_at (K := K) r
        obtain ⟨c, ws, h1', h3', h2'⟩ := sqR_at (K := K) r'
        obtain ⟨d, ss, h1'', h3'', h2''⟩ := sqR_at (K := K) r3
        subst h1 h1' h1''
        have n1 := h3.pkLen
        have n2 := h3'.pkLen
        have n3 := h3''.pkLen
        rw [List.length_map] at n1 n2 n3
        have hlen : ((xs.zip (ys.zip zs)).map fun p => TupR [Ra p.1, Rb p.2.1, Rc p.2.2]).length = min us.length (min ws.length ss.length) := by
          rw [List.length_map, List.length_zip, List.length_zip, n1, n2, n3]
        refine ⟨a, c, d, us, ws, ss, rfl, h2 _ s.ok.sub, h2' _ s.ok.sub, h2'' _ s.ok.sub, q _ B2 H2 s fun B3 e3 => ⟨fun H => Sq K b1 H a us ∧ Sq K b2 H c ws ∧ Sq K b3 H d ss, fun H3 e4 => ⟨h2 _ (e3.trans e4), h2' _ (e3.trans e4), h2'' _ (e3.trans e4)⟩, fun i H hi g => ?_, fun H g => ?_, fun i H x H' R hR k3 y => ?_⟩⟩
        · rw [hlen] at hi
          exact ⟨us, ws, ss, us[i]'(by omega), ws[i]'(by omega), ss[i]'(by omega), g.1, g.2.1, g.2.2, by simp, by simp, by simp⟩
        · refine ⟨us, ws, ss, g.1, g.2.1, g.2.2, ?_, ?_, ?_, ?_⟩ <;> rw [hlen] <;> omega
        · obtain ⟨T, x1, x2, x3, e1, e2, e4, e5, e6, e7⟩ := y
          rw [List.getElem?_map] at hR
          cases hq : (xs.zip (ys.zip zs))[i]? with
          | none => rw [hq] at hR; cases hR
          | some p =>
            rw [hq] at hR
            cases hR
            obtain ⟨g1, g2, g3⟩ := zip3_get hq
            obtain ⟨u1, f1, f2⟩ := h3.pkGet (show (xs.map Ra)[i]? = some (Ra p.1) by rw [List.getElem?_map, g1]; rfl)
            obtain ⟨u2, f3, f4⟩ := h3'.pkGet (show (ys.map Rb)[i]? = some (Rb p.2.1) by rw [List.getElem?_map, g2]; rfl)
            obtain ⟨u3, f5, f6⟩ := h3''.pkGet (show (zs.map Rc)[i]? = some (Rc p.2.2) by rw [List.getElem?_map, g3]; rfl)
            have e5' := e5 us (h2 _ (e3.trans k3.sub))
            have e6' := e6 ws (h2' _ (e3.trans k3.sub))
            have e7' := e7 ss (h2'' _ (e3.trans k3.sub))
            rw [f1] at e5'; cases e5'
            rw [f3] at e6'; cases e6'
            rw [f5] at e7'; cases e7'
            subst e1 e4
            exact triple_new k3 e2 (Rp.mono _ e3 f2) (Rp.mono _ e3 f4) (Rp.mono _ e3 f6)
/-- a loop over items of one kind, told by what has gone by -/
theorem s_forD {wi : TI} {g : TG} {xs : List α} {Ri : α → Rp} {J : α → L2.St → L2.St → Hp → Prop} (hi : EvI C wi σ B (xs.map Ri)) (S : Stp C B0 H0 B H) (hg : ∀ x, GOk g (Ri x) (J x)) (Pv : List α → L2.St → Hp → Hp → Prop)
    (h0 : ∀ B1 H1, Stp C B0 H0 B1 H1 → Stp C B H B1 H1 → Pv [] σ B1 H1)
    (hs : ∀ pre x post σ1 B1 H1 B2 H2, xs = pre ++ x :: post → Stp C B0 H0 B1 H1 → Ex B B1 → Pv pre σ1 B1 H1 → Stp C B1 H1 B2 H2 → ∀ σ2, J x σ1 σ2 B2 →
      tu { D with nx := fun σ H => ∃ B, Stp C B0 H0 B H ∧ Ex B1 B ∧ Pv (pre ++ [x]) σ B H, ct := fun σ H => ∃ B, Stp C B0 H0 B H ∧ Ex B1 B ∧ Pv (pre ++ [x]) σ B H, bk := D.nx } σ2 H2)
    (hd : ∀ σ1 B1 H1, Stp C B0 H0 B1 H1 → Ex B B1 → Pv xs σ1 B1 H1 → D.nx σ1 H1) : tFor wi g tu D σ H := by
  cases xs with
  | nil =>
    exact s_for (J := fun _ _ _ _ => True) hi S (fun n R h => by simp at h) (fun n => Pv []) h0 (fun n σ1 B1 H1 B2 H2 hn => by simp at hn) hd
  | cons x0 xs0 =>
    refine s_for (J := fun i => J ((x0 :: xs0).getD i x0)) hi S (fun n R h => ?_) (fun n => Pv ((x0 :: xs0).take n)) (by simpa using h0) (fun n σ1 B1 H1 B2 H2 hn S1 e1 p s2 σ2 j => ?_) (fun σ1 B1 H1 S1 e1 p => hd σ1 B1 H1 S1 e1 (by
      rw [List.length_map] at p
      rwa [List.take_of_length_le (Nat.le_refl _)] at p))
    · rw [List.getElem?_map] at h
      cases hq : (x0 :: xs0)[n]? with
      | none => rw [hq] at h; cases h
      | some z =>
        rw [hq] at h; cases h
        have e : (x0 :: xs0).getD n x0 = z := by simp only [List.getD, hq, Option.getD_some]
        rw [e]; exact hg z
    · rw [List.length_map] at hn
      have e : (x0 :: xs0).getD n x0 = (x0 :: xs0)[n] := by simp only [List.getD, List.getElem?_eq_getElem hn, Option.getD_some]
      rw [e] at j
      have g := hs ((x0 :: xs0).take n) (x0 :: xs0)[n] ((x0 :: xs0).drop (n + 1)) σ1 B1 H1 B2 H2 (by rw [← List.drop_eq_getElem_cons hn, List.take_append_drop]) S1 e1 p s2 σ2 j
      rw [List.take_succ_eq_append_getElem hn]
      exact g
theorem q_forD {wi : TI} {g : TG} {xs : List α} {Ri : α → Rp} {J : α → L2.St → L2.St → Hp → Prop} (hi : EvI C wi σ B (xs.map Ri)) (S : Stp C B0 H0 B H) (hg : ∀ x, GOk g (Ri x) (J x)) (Pv : List α → L2.St → Hp → Hp → Prop)
    (h0 : ∀ B1 H1, Stp C B0 H0 B1 H1 → Stp C B H B1 H1 → Pv [] σ B1 H1)
    (hs : ∀ pre x post σ1 B1 H1 B2 H2, xs = pre ++ x :: post → Stp C B0 H0 B1 H1 → Ex B B1 → Pv pre σ1 B1 H1 → Stp C B1 H1 B2 H2 → ∀ σ2, J x σ1 σ2 B2 →
      tu { D with nx := fun σ H => ∃ B, Stp C B0 H0 B H ∧ Ex B1 B ∧ Pv (pre ++ [x]) σ B H, ct := fun σ H => ∃ B, Stp C B0 H0 B H ∧ Ex B1 B ∧ Pv (pre ++ [x]) σ B H, bk := tz D } σ2 H2)
    (hd : ∀ σ1 B1 H1, Stp C B0 H0 B1 H1 → Ex B B1 → Pv xs σ1 B1 H1 → tz D σ1 H1) : tSeq (tFor wi g tu) tz D σ H :=
  s_forD (D := { D with nx := tz D }) hi S hg Pv h0 hs hd
theorem snoc_ind {P : List α → Prop} (h0 : P []) (hs : ∀ xs x, P xs → P (xs ++ [x])) : ∀ xs, P xs := fun xs => by
  have h : ∀ ys : List α, P ys.reverse := fun ys => by
    induction ys with
    | nil => exact h0
    | cons y ys ih => rw [List.reverse_cons]; exact hs _ _ ih
  have := h xs.reverse
  rwa [List.reverse_reverse] at this
/-- the different ones, in the order of their first places -/
def difs [DecidableEq α] (xs : List α) : List α := xs.foldl (fun acc x => if x ∈ acc then acc else acc ++ [x]) []
theorem difs_snoc [DecidableEq α] (xs : List α) (x : α) : difs (xs ++ [x]) = if x ∈ difs xs then difs xs else difs xs ++ [x] := by
  unfold difs; rw [List.foldl_append]; rfl
theorem difs_mem [DecidableEq α] (xs : List α) : ∀ x, x ∈ difs xs ↔ x ∈ xs := by
  refine snoc_ind (P := fun xs => ∀ x, x ∈ difs xs ↔ x ∈ xs) (fun x => Iff.rfl) (fun xs y ih => ?_) xs
  · 
    intro x
    rw [difs_snoc]
    by_cases h : y ∈ difs xs
    · rw [if_pos h, ih]
      have := (ih y).mp h
      simp only [List.mem_append, List.mem_singleton]
      exact ⟨.inl, fun z => z.elim id fun e => by subst e; exact this⟩
    · rw [if_neg h]; simp only [List.mem_append, List.mem_singleton, ih]
theorem difs_nodup [DecidableEq α] (xs : List α) : (difs xs).Nodup := by
  refine snoc_ind (P := fun xs => (difs xs).Nodup) List.nodup_nil (fun xs y ih => ?_) xs
  · 
    rw [difs_snoc]
    by_cases h : y ∈ difs xs
    · rw [if_pos h]; exact ih
    · rw [if_neg h]; exact List.nodup_append.mpr ⟨ih, by simp, fun a ha b hb e => by rw [List.mem_singleton] at hb; subst hb; subst e; exact h ha⟩
theorem difs_len [DecidableEq α] (xs : List α) : (difs xs).length ≤ xs.length := by
  refine snoc_ind (P := fun xs => (difs xs).length ≤ xs.length) (Nat.le_refl _) (fun xs y ih => ?_) xs
  · 
    rw [difs_snoc]
    by_cases h : y ∈ difs xs
    · rw [if_pos h]; simp; omega
    · rw [if_neg h]; simp; omega
def nk (n : Nat) : Key := .inl (n : Int)
theorem nk_inj {a b : Nat} (h : nk a = nk b) : a = b := by
  unfold nk at h; injection h with h; omega
theorem putK_keys {κ : Type} [DecidableEq κ] (kvs : List (κ × V)) (k : κ) (v : V) : (putK kvs k v).map Prod.fst = if k ∈ kvs.map Prod.fst then kvs.map Prod.fst else kvs.map Prod.fst ++ [k] := by
  unfold putK
  have e : (kvs.any fun kv => decide (kv.1 = k)) = true ↔ k ∈ kvs.map Prod.fst := by simp
  by_cases h : k ∈ kvs.map Prod.fst
  · rw [if_pos h, if_pos (e.mpr h), List.map_map]
    apply List.map_congr_left
    intro p _
    show (if p.1 = k then (p.1, v) else p).1 = p.1
    split <;> rfl
  · rw [if_neg h, if_neg (fun z => h (e.mp z))]; simp
theorem nk_mem {n : Nat} {l : List Nat} : nk n ∈ l.map nk ↔ n ∈ l := by
  rw [List.mem_map]
  exact ⟨fun ⟨a, h1, h2⟩ => nk_inj h2 ▸ h1, fun h => ⟨n, h, rfl⟩⟩
/-- list({x: e for x in xs}): the different ones -/
theorem ev_dcKeys {tv : TE} {xs : List Nat} (h : Ev C te σ B (Is K xs)) (hn : xs.length ≤ 16000000) (hv : ∀ σ B, Ev C tv σ B AnyR) (hi : i < σ.length) : Ev C (tCB rListD (tCons (tDc (iList K te) (gName i) tYes (tVar i) tv [i]) tNil)) σ B (Is K (difs xs)) := by
  intro B1 H1 e k Q q
  unfold tCB tCons tDc tNil
  refine ei_listD h B1 H1 e k _ ?_
  intro Jt B2 H2 s2 hJ D hD
  have hD1 : H1 D = none := by
    cases z : H1 D with
    | none => rfl
    | some o => exact absurd hD (s2.live (by rw [z]; simp))
  have nM : ¬ C.M D := s2.ok.fresh hD
  have hlen : (xs.map (Is K)).length = xs.length := List.length_map ..
  refine ⟨fun n m H => m = xs.length - n ∧ n ≤ xs.length ∧ ∃ B' kvs, Stp C B1 H1 B' H ∧ Ex B2 B' ∧ B' D = none ∧ H D = some (.dK kvs) ∧ kvs.map Prod.fst = (difs (xs.take n)).map nk,
    ⟨xs.length, by simp, Nat.zero_le _, B2, [], s2.loc hD1 (s2.ok.sub.un hD) nM, .refl _, s2.ok.sub.un hD, upd_same, by simp [difs]⟩, ?_⟩
  rintro n m H ⟨rfl, hn', B', kvs, s, eb, hb, hl, hk⟩
  obtain ⟨G, g1, g2, g3, g4⟩ := hJ B' eb
  rw [hlen] at g2 g3
  by_cases hlt : n < xs.length
  · refine .inr ⟨g2 n H hlt (g1 H s.ok.sub), fun H' => ∃ B' kvs, Stp C B1 H1 B' H' ∧ Ex B2 B' ∧ B' D = none ∧ H' D = some (.dK kvs) ∧ kvs.map Prod.fst = (difs (xs.take (n + 1))).map nk, fun H' p' => ⟨xs.length - (n + 1), by omega, rfl, hlt, p'⟩, fun x H' y => ?_⟩
    obtain ⟨B3, s3, r3⟩ := g4 n H x H' (Is K xs[n]) (by simp [hlt]) s.ok y
    have ex : x = .int ((xs[n] : Nat) : Int) := is_nat.mp r3
    subst ex
    refine ⟨by simp [wipe], ?_⟩
    unfold tYes
    dsimp only
    rw [if_pos rfl]
    refine ⟨.int ((xs[n] : Nat) : Int), by simp [wipe, hi], ?_⟩
    refine hv _ _ B3 H' (.refl _) s3.ok _ fun z B5 H5 s5 _ => ?_
    have st : Stp C B' H B5 H5 := s3.trans s5
    have l5 : H5 D = some (.dK kvs) := st.hh D _ nM hl
    have b5 : B5 D = none := st.nw D (by rw [hl]; trivial) hb
    refine ⟨kvs, nk xs[n], rfl, l5, ?_, B5, _, (s.trans st).loc hD1 b5 nM, eb.trans st.bb, b5, upd_same, ?_⟩
    · have h1 : kvs.length = (difs (xs.take n)).length := by rw [← List.length_map (f := Prod.fst), hk, List.length_map]
      have h2 := difs_len (xs.take n)
      rw [List.length_take] at h2
      rw [h1]
      exact Nat.lt_of_le_of_lt h2 (Nat.lt_of_lt_of_le (by omega : min n xs.length < 16000000 + 1) (by decide))
    · rw [putK_keys, hk, List.take_succ_eq_append_getElem hlt, difs_snoc]
      by_cases hm : xs[n] ∈ difs (xs.take n)
      · rw [if_pos hm, if_pos (nk_mem.mpr hm)]
      · rw [if_neg hm, if_neg (fun z => hm (nk_mem.mp z)), List.map_append]; rfl
  · have en : n = xs.length := by omega
    subst en
    refine .inl ⟨g3 H (g1 H s.ok.sub), D, kvs, rfl, hl, fun p hp => ?_⟩
    refine q _ _ _ (s.trans (s.ok.new hp)) (is_lst.mpr ⟨p, _, rfl, upd_same, ?_⟩)
    rw [List.take_of_length_le (Nat.le_refl _)] at hk
    have e2 : (kvs.map fun kv => kV kv.1) = (difs xs).map fun n : Nat => V.int (n : Int) := by
      have : (kvs.map fun kv => kV kv.1) = (kvs.map Prod.fst).map kV := by rw [List.map_map]; rfl
      rw [this, hk, List.map_map]; rfl
    rw [e2]
    exact args_nats.mpr rfl
end
end Pk

/-! Lists that are new: their addresses were not known before. -/
namespace PySem
theorem Paired.pkImp' {α β : Type} {F G : α → β → Prop} : ∀ {l : List α} {m : List β}, Paired F l m → (∀ a b, b ∈ m → F a b → G a b) → Paired G l m
  | _, _, .nil, _ => .nil
  | _, _, .cons r t, h => .cons (h _ _ List.mem_cons_self r) (Paired.pkImp' t fun a b hb => h a b (List.mem_cons_of_mem _ hb))
end PySem
namespace Pk
open PySem L2
open Enc (enc dep)
def NewL (B0 : Hp) (Rs : List Rp) : Rp := ⟨fun v B => ∃ a vs, v = .ref a ∧ B0 a = none ∧ B a = some (.lst vs) ∧ Args Rs vs B, fun e ⟨a, vs, h1, h0, h2, h3⟩ => ⟨a, vs, h1, h0, e _ _ h2, h3.mono e⟩⟩
section
variable {C : MI} {K : PySem.W.Frag} {σ : L2.St} {B0 H0 B H B1 B' : Hp} {Rs : List Rp} {R : Rp} {te : TE} {wi : TI} {g : TG} {tt : TT} {vs : List Nat} {α β : Type}
theorem newL_le : (NewL B0 Rs).le (LstR Rs) := fun v B ⟨a, vs, h1, _, h2, h3⟩ => ⟨a, vs, h1, h2, h3⟩
theorem newL_ex (e : Ex B0 B1) : (NewL B1 Rs).le (NewL B0 Rs) := fun v B ⟨a, vs, h1, h0, h2, h3⟩ => ⟨a, vs, h1, e.un h0, h2, h3⟩
theorem newL_is [Enc α] {xs : List α} : (NewL B0 (xs.map (Is K))).le (Is K xs) := fun v B h => is_lst.mpr (newL_le v B h)
theorem newL_map {F G : α → Rp} (h : ∀ x, (F x).le (G x)) {xs : List α} : (NewL B0 (xs.map F)).le (NewL B0 (xs.map G)) := fun v B ⟨a, vs, h1, h0, h2, h3⟩ => ⟨a, vs, h1, h0, h2, Args.le h h3⟩
theorem ev_lcIN {items : List Rp} {J : Nat → L2.St → L2.St → Hp → Prop} (p : Nat → Bool) (f : Nat → Rp) (hi : EvI C wi σ B items) (hn : items.length ≤ 16000000)
    (hg : ∀ i R, items[i]? = some R → GOk g R (J i))
    (he : ∀ i σ2 B', i < items.length → Ex B B' → J i (wipe σ vs) σ2 B' → wipe σ2 vs = wipe σ vs ∧ EvT C tt σ2 B' (p i) ∧ (p i = true → Ev C te σ2 B' (f i))) :
    Ev C (tLc wi g tt te vs) σ B (NewL B (kept p f items.length)) := fun B1 H1 e k Q q => hi B1 H1 e k _ fun Jt B2 H2 s2 hJ D hD => by
  let Pv : Nat → Hp → Prop := fun i H => ∃ B' acc, Stp C B1 H1 B' H ∧ Ex B2 B' ∧ B' D = none ∧ H D = some (.lst acc) ∧ Args (kept p f i) acc B'
  have hD1 : H1 D = none := by
    cases h : H1 D with
    | none => rfl
    | some o => exact absurd hD (s2.live (by rw [h]; simp))
  have nM : ¬ C.M D := s2.ok.fresh hD
  refine ⟨fun i m H => m = items.length - i ∧ i ≤ items.length ∧ Pv i H, ⟨items.length, by simp, Nat.zero_le _, B2, [], s2.loc hD1 (s2.ok.sub.un hD) nM, .refl _, s2.ok.sub.un hD, upd_same, .nil⟩, ?_⟩
  rintro i m H ⟨rfl, hi, B', acc, s, eb, hb, hl, ha⟩
  obtain ⟨G, g1, g2, g3, g4⟩ := hJ B' eb
  by_cases hlt : i < items.length
  · refine .inr ⟨g2 i H hlt (g1 H s.ok.sub), Pv (i + 1), fun H' p' => ⟨items.length - (i + 1), by omega, rfl, hlt, p'⟩, fun x H' y => ?_⟩
    obtain ⟨B3, s3, r3⟩ := g4 i H x H' items[i] (by simp [hlt]) s.ok y
    have hD3 : B3 D = none := s3.nw D (by rw [hl]; trivial) hb
    refine hg i items[i] (by simp [hlt]) x B3 H' (wipe σ vs) _ s3.ok.sub r3 fun σ2 j2 => ?_
    obtain ⟨w1, w2, w3⟩ := he i σ2 B3 hlt ((e.trans s2.bb).trans (eb.trans s3.bb)) j2
    refine ⟨w1, w2 B3 H' (.refl _) s3.ok _ fun H3 s4 => ?_⟩
    by_cases hp : p i = true
    · rw [if_pos hp]
      refine w3 hp B3 H3 (.refl _) s4.ok _ fun v B5 H5 s5 r5 => ?_
      have st : Stp C B' H B5 H5 := s3.trans (s4.trans s5)
      have l5 : H5 D = some (.lst acc) := st.hh D _ nM hl
      have b5 : B5 D = none := st.nw D (by rw [hl]; trivial) hb
      refine ⟨acc, l5, ?_, B5, acc ++ [v], (s.trans st).loc hD1 b5 nM, eb.trans st.bb, b5, upd_same, ?_⟩
      · rw [← ha.pkLen]; have := kept_len p f i; exact Nat.lt_of_le_of_lt this (Nat.lt_of_lt_of_le hlt (Nat.le_trans hn (by decide)))
      · rw [kept_succ, if_pos hp]; exact Paired.pkApp (ha.mono st.bb) (.cons r5 .nil)
    · rw [if_neg hp]
      have st : Stp C B' H B3 H3 := s3.trans s4
      exact ⟨B3, acc, s.trans st, eb.trans st.bb, hD3, st.hh D _ nM hl, by rw [kept_succ, if_neg hp]; exact ha.mono st.bb⟩
  · have ei : i = items.length := by omega
    subst ei
    refine .inl ⟨g3 H (g1 H s.ok.sub), ?_⟩
    exact q (.ref D) (upd B' D (.lst acc)) H (s.frz hD1 hb nM hl) ⟨D, acc, rfl, e.un (k.sub.un hD1), upd_same, ha.mono (.new hb)⟩
theorem ev_lcFN {Ri : α → Rp} {Ro : β → Rp} {xs : List α} {J : α → L2.St → L2.St → Hp → Prop} (p : α → Bool) (f : α → β) (hi : EvI C wi σ B (xs.map Ri)) (hn : xs.length ≤ 16000000) (hg : ∀ x, GOk g (Ri x) (J x))
    (he : ∀ x σ2 B', x ∈ xs → Ex B B' → J x (wipe σ vs) σ2 B' → wipe σ2 vs = wipe σ vs ∧ EvT C tt σ2 B' (p x) ∧ (p x = true → Ev C te σ2 B' (Ro (f x)))) :
    Ev C (tLc wi g tt te vs) σ B (NewL B (((xs.filter p).map f).map Ro)) := by
  cases xs with
  | nil =>
    have h := ev_lcIN (C := C) (g := g) (tt := tt) (te := te) (vs := vs) (J := fun _ _ _ _ => True) (fun _ => false) (fun _ => AnyR) hi (by simp) (fun i R h => by simp at h) (fun i σ2 B' hi => by simp at hi)
    exact h
  | cons x0 xs0 =>
    have h := ev_lcIN (C := C) (g := g) (tt := tt) (te := te) (vs := vs) (J := fun i => J ((x0 :: xs0).getD i x0)) (fun i => p ((x0 :: xs0).getD i x0)) (fun i => Ro (f ((x0 :: xs0).getD i x0))) hi (by simpa using hn) (fun i R h => by
        rw [List.getElem?_map] at h
        cases hq : (x0 :: xs0)[i]? with
        | none => rw [hq] at h; cases h
        | some z =>
          rw [hq] at h; cases h
          have e : (x0 :: xs0).getD i x0 = z := by simp only [List.getD, hq, Option.getD_some]
          rw [e]; exact hg z) (fun i σ2 B' hi eb j => he _ σ2 B' (by
            rw [List.length_map] at hi
            simp only [List.getD, List.getElem?_eq_getElem hi, Option.getD_some]
            exact List.getElem_mem hi) eb j)
    rw [List.length_map, kept_map Ro (x0 :: xs0) p f x0 _ (Nat.le_refl _), List.take_length] at h
    exact h
theorem ev_lcMN {Ri : α → Rp} {Ro : β → Rp} {xs : List α} {J : α → L2.St → L2.St → Hp → Prop} (f : α → β) (hi : EvI C wi σ B (xs.map Ri)) (hn : xs.length ≤ 16000000) (hg : ∀ x, GOk g (Ri x) (J x))
    (he : ∀ x σ2 B', x ∈ xs → Ex B B' → J x (wipe σ vs) σ2 B' → wipe σ2 vs = wipe σ vs ∧ Ev C te σ2 B' (Ro (f x))) : Ev C (tLc wi g tYes te vs) σ B (NewL B ((xs.map f).map Ro)) := by
  have h := ev_lcFN (Ro := Ro) (fun _ => true) f hi hn hg fun x σ2 B' hx eb j => ⟨(he x σ2 B' hx eb j).1, et_yes, fun _ => (he x σ2 B' hx eb j).2⟩
  rw [show xs.filter (fun _ => true) = xs from List.filter_eq_self.mpr fun _ _ => rfl] at h
  exact h
theorem args_pairR {Ro : α → Rp} [Enc α] (hle : ∀ x, (Ro x).le (Is K x)) {xs : List α} {vs : List V} (h : Args (xs.map Ro) vs B) {H : Hp} (e : Ex B H) : Paired (fun x b => Dp K H x (enc b) ∧ (Ro b).P x B) vs xs := by
  induction xs generalizing vs with
  | nil => cases h; exact .nil
  | cons x xs ih =>
    cases h with
    | cons r t => exact .cons ⟨dq_dp e _ _ (hle x _ _ r), r⟩ (ih t)
theorem pair_argsR {Ro : α → Rp} {xs : List α} {vs : List V} (h : Paired (fun x b => (Ro b).P x B) vs xs) : Args (xs.map Ro) vs B := by
  induction xs generalizing vs with
  | nil => cases h; exact .nil
  | cons x xs ih =>
    cases h with
    | cons r t => exact .cons r (ih t)
theorem ev_sortN [Enc α] [Alk α] {Ro : α → Rp} (hle : ∀ x, (Ro x).le (Is K x)) {xs : List α} (h : Ev C te σ B (LstR (xs.map Ro))) (so : PySem.W.Sortable (xs.map enc)) (hd : dep α ≤ 60 := by decide) : Ev C (tCB (SrtIn K false) (tCons te tNil)) σ B (NewL B ((srt α false xs).map Ro)) := ev_cb (ea_cons h ea_nil) fun vs B1 H1 e k a Q q => by
  cases a with
  | cons r t =>
    cases t
    obtain ⟨p, ys, rfl, h2, h3⟩ := r
    refine ⟨α, enc, p, ys, xs, fun v b => (Ro b).P v B1, rfl, rd_l (k.sub _ _ h2), args_pairR hle h3 k.sub, fun d hd d' hd' => ?_, so, fun b _ => Nat.le_trans (Enc.depth b) hd, fun l zs hl pz => q _ _ _ (k.new hl) ⟨l, zs, rfl, e.un (k.sub.un hl), upd_same, (pair_argsR pz).mono (.new (k.sub.un hl))⟩⟩
    obtain ⟨b, _, rfl⟩ := List.mem_map.mp hd
    obtain ⟨b', _, rfl⟩ := List.mem_map.mp hd'
    exact Alk.ali b b'
end
/-! ### promises whose result is new -/
structure PmN (ι : Type) where
  n : Nat
  need : ι → MI → Prop := fun _ _ => True
  args : ι → List Rp
  pre : ι → Prop := fun _ => True
  res : ι → Hp → Rp
  mono : ∀ x B B', Ex B B' → (res x B').le (res x B)
  ln : ∀ x, (args x).length = n := by intro _; rfl
def PmN.sp {ι : Type} (p : PmN ι) : Sp := fun vs H Q _ => ∃ (C : MI) (B : Hp) (x : ι), Ok C B H ∧ p.need x C ∧ Args (p.args x) vs B ∧ p.pre x ∧ ∀ v B2 H2, Stp C B H B2 H2 → (p.res x B).P v B2 → Q v H2
theorem PmN.len {ι : Type} (p : PmN ι) {m : Nat} (h : p.n = m) : ∀ vs H Q E, p.sp vs H Q E → vs.length = m := fun vs H Q E ⟨C, B, x, _, _, a, _, _⟩ => by rw [← a.pkLen, p.ln, h]
section
variable {C : MI} {σ : L2.St} {B : Hp} {t : TA} {E : XK} {ι : Type} {p : PmN ι}
theorem ev_callN (x : ι) (h : EvA C t σ B (p.args x)) (hp : p.pre x) (hn : p.need x C := by trivial) : Ev C (tCall p.sp [] E t) σ B (p.res x B) := fun B1 H1 e k Q q =>
  h B1 H1 e k _ fun vs B2 H2 s r => by
    rw [List.append_nil]
    exact ⟨C, B2, x, s.ok, hn, r, hp, fun v B3 H3 s3 r3 => q v B3 H3 (s.trans s3) (p.mono x _ _ (e.trans s.bb) _ _ r3)⟩
end
section
variable {C : MI} {K : PySem.W.Frag} {σ : L2.St} {B : Hp} {Rs : List Rp} {ta te : TE} {t : TA} {E : XK} {ι : Type} {p : PmN ι}
theorem ev_methN {Cl : Addr} {fs : List (Str × Rp)} {m : Str} (x : ι) (h : Ev C te σ B (InsR Cl fs)) (ha : EvA C t σ B Rs) (hl : fs.lookup m = none) (hx : p.args x = InsR Cl fs :: Rs) (hp : p.pre x) (hn : p.need x C := by trivial) :
    Ev C (tMeth Cl m p.sp [] E te t) σ B (p.res x B) := fun B1 H1 e k Q q =>
  h B1 H1 e k _ fun ov B2 H2 s2 ⟨a, dx, vs, h1, h2, h3⟩ => by
    refine ⟨a, dx, _, h1, s2.ok.sub _ _ h2, args_nolookup hl, ?_⟩
    refine ha B2 H2 (e.trans s2.bb) s2.ok _ fun us B3 H3 s3 r3 => ?_
    rw [List.append_nil]
    refine ⟨C, B3, x, s3.ok, hn, ?_, hp, fun v B4 H4 s4 r4 => q v B4 H4 (s2.trans (s3.trans s4)) (p.mono x _ _ (e.trans (s2.bb.trans s3.bb)) _ _ r4)⟩
    rw [hx]
    exact .cons ⟨a, dx, vs, h1, s3.bb _ _ h2, h3.mono s3.bb⟩ r3
end
/-! ### a base without some addresses -/
open Classical in
noncomputable def remS (B : Hp) (P : Addr → Prop) : Hp := fun a => if P a then none else B a
theorem remS_in {B : Hp} {P : Addr → Prop} {a : Addr} (h : P a) : remS B P a = none := by unfold remS; rw [if_pos h]
theorem remS_out {B : Hp} {P : Addr → Prop} {a : Addr} (h : ¬ P a) : remS B P a = B a := by unfold remS; rw [if_neg h]
theorem remS_ex {B : Hp} {P : Addr → Prop} : Ex (remS B P) B := fun a o q => by
  by_cases h : P a
  · rw [remS_in h] at q; cases q
  · rw [remS_out h] at q; exact q
theorem ex_remS {B B2 : Hp} {P : Addr → Prop} (e : Ex B B2) (h : ∀ a, P a → B a = none) : Ex B (remS B2 P) := fun a o q => by
  have n : ¬ P a := fun p => by rw [h a p] at q; cases q
  rw [remS_out n]; exact e a o q
section
variable {C : MI} {K : PySem.W.Frag} {B H B' B2 H2 : Hp}
theorem Stp.back (s : Stp C B H B2 H2) (e1 : Ex B B') (e2 : Ex B' B2) : Stp C B H B' H2 := by
  refine ⟨⟨e2.trans s.ok.sub, fun a m => ?_, s.ok.liv, s.ok.inv⟩, e1, s.hh, fun a n b => ?_⟩
  · cases h : B' a with
    | none => rfl
    | some o => have := e2 a o h; rw [s.ok.off a m] at this; cases this
  · cases h : B' a with
    | none => rfl
    | some o => have := e2 a o h; rw [s.nw a n b] at this; cases this
end
/-- no list stands in such a value -/
structure NoLst (K : PySem.W.Frag) (β : Type) [Enc β] : Prop where
  ref : ∀ (x : β) (B : Hp) b ys, (Is K x).P (.ref b) B → B b ≠ some (.lst ys)
  rem : ∀ (x : β) v (B : Hp) (P : Addr → Prop), (Is K x).P v B → (∀ a, P a → ∃ ys, B a = some (.lst ys)) → (Is K x).P v (remS B P)
theorem noLst_bd {K : PySem.W.Frag} : NoLst K Bd := by
  constructor
  · intro x B b ys h
    obtain ⟨a, vs, h1, h2, _⟩ := is_bd.mp h
    cases h1
    rw [h2]; exact fun z => nomatch z
  · intro x v B P h hP
    obtain ⟨a, vs, h1, h2, h3⟩ := is_bd.mp h
    obtain _ | @⟨_, u0, _, _, z0, _ | @⟨_, u1, _, _, z1, _ | @⟨_, u2, _, _, z2, _ | _⟩⟩⟩ := h3
    refine is_bd.mpr ⟨a, _, h1, ?_, .cons (is_int.mpr (is_int.mp z0)) (.cons (is_way.mpr (is_way.mp z1)) (.cons (is_int.mpr (is_int.mp z2)) .nil))⟩
    rw [remS_out fun p => by obtain ⟨ys, e⟩ := hP a p; rw [h2] at e; cases e]
    exact h2
/-- levels: the first one's lists are new, and nothing else's -/
def SepR (K : PySem.W.Frag) {β : Type} [Enc β] (B0 : Hp) (L : List (List (List β))) : Rp := ⟨fun v B => ∃ a l0 us xr B' L0, v = .ref a ∧ B a = some (.lst (.ref l0 :: xr)) ∧ B l0 = some (.lst us) ∧ Ex B0 B' ∧ Ex B' B ∧ B' a = none ∧ B' l0 = none ∧ l0 ≠ a ∧
    L = L0 :: L.tail ∧ Args (L.tail.map (Is K)) xr B' ∧ Paired (fun (s : List β) u => ∃ b ys, u = .ref b ∧ B' b = none ∧ b ≠ a ∧ b ≠ l0 ∧ B b = some (.lst ys) ∧ Args (s.map (Is K)) ys B') L0 us,
  fun e ⟨a, l0, us, xr, B', L0, h1, h2, h3, h4, h5, h6, h7, h8, h9, h10, h11⟩ => ⟨a, l0, us, xr, B', L0, h1, e _ _ h2, e _ _ h3, h4, h5.trans e, h6, h7, h8, h9, h10, h11.pkImp fun s u ⟨b, ys, g1, g2, g3, g4, g5, g6⟩ => ⟨b, ys, g1, g2, g3, g4, e _ _ g5, g6⟩⟩⟩
section
variable {C : MI} {K : PySem.W.Frag} {σ : L2.St} {B B0 B1 : Hp} {te : TE} {wi : TI} {g : TG} {vs : List Nat} {α β : Type} [Enc β]
theorem sepR_ex (e : Ex B0 B1) (L : List (List (List β))) : (SepR K B1 L).le (SepR K B0 L) := fun v B ⟨a, l0, us, xr, B', L0, h1, h2, h3, h4, h5⟩ => ⟨a, l0, us, xr, B', L0, h1, h2, h3, e.trans h4, h5⟩
theorem sepR_is {L : List (List (List β))} : (SepR K B0 L).le (Is K L) := fun v B ⟨a, l0, us, xr, B', L0, h1, h2, h3, h4, h5, h6, h7, h8, h9, h10, h11⟩ => by
  rw [h9]
  refine is_lst.mpr ⟨a, _, h1, h2, .cons (is_lst.mpr ⟨l0, us, rfl, h3, ?_⟩) ?_⟩
  · exact Paired.pkMap.mpr (h11.pkImp fun s u ⟨b, ys, g1, _, _, _, g5, g6⟩ => is_lst.mpr ⟨b, ys, g1, g5, g6.mono h5⟩)
  · exact Args.mono h5 h10
theorem ev_lcSep (hβ : NoLst K β) {Ri : α → Rp} {J : α → L2.St → L2.St → Hp → Prop} (x0 : α) (xs : List α) (f : α → List (List β)) (hi : EvI C wi σ B ((x0 :: xs).map Ri)) (hn : (x0 :: xs).length ≤ 16000000) (hg : ∀ x, GOk g (Ri x) (J x))
    (he : ∀ x σ2 B', x ∈ x0 :: xs → Ex B B' → J x (wipe σ vs) σ2 B' → wipe σ2 vs = wipe σ vs ∧ Ev C te σ2 B' (NewL B' ((f x).map fun s => NewL B' (s.map (Is K))))) :
    Ev C (tLc wi g tYes te vs) σ B (SepR K B ((x0 :: xs).map f)) := fun B1 H1 e k Q q => hi B1 H1 e k _ fun Jt B2 H2 s2 hJ D hD => by
  let Pn : Nat → Hp → Hp → Prop := fun n B' H => ∃ l0 us acc, H D = some (.lst (.ref l0 :: acc)) ∧ Args ((xs.take n).map fun x => Is K (f x)) acc B' ∧ B' l0 = none ∧ ¬ C.M l0 ∧ l0 ≠ D ∧ H l0 = some (.lst us) ∧ H1 l0 = none ∧
    Paired (fun (s : List β) u => ∃ b ys, u = .ref b ∧ B' b = none ∧ ¬ C.M b ∧ b ≠ D ∧ b ≠ l0 ∧ H b = some (.lst ys) ∧ H1 b = none ∧ Args (s.map (Is K)) ys B') (f x0) us
  let Pv : Nat → Hp → Prop := fun i H => ∃ B', Stp C B1 H1 B' H ∧ Ex B2 B' ∧ B' D = none ∧ (match i with
    | 0 => H D = some (.lst [])
    | n + 1 => Pn n B' H)
  have hD1 : H1 D = none := by
    cases h : H1 D with
    | none => rfl
    | some o => exact absurd hD (s2.live (by rw [h]; simp))
  have nM : ¬ C.M D := s2.ok.fresh hD
  have hL : ((x0 :: xs).map Ri).length = xs.length + 1 := by simp
  have hn : xs.length + 1 ≤ 16000000 := by simpa using hn
  refine ⟨fun i m H => m = xs.length + 1 - i ∧ i ≤ xs.length + 1 ∧ Pv i H, ⟨xs.length + 1, by simp, Nat.zero_le _, B2, s2.loc hD1 (s2.ok.sub.un hD) nM, .refl _, s2.ok.sub.un hD, upd_same⟩, ?_⟩
  rintro i m H ⟨rfl, hi, B', s, eb, hb, hPn⟩
  obtain ⟨G, g1, g2, g3, g4⟩ := hJ B' eb
  rw [hL] at g2 g3
  by_cases hlt : i < xs.length + 1
  · refine .inr ⟨g2 i H hlt (g1 H s.ok.sub), Pv (i + 1), fun H' p' => ⟨xs.length + 1 - (i + 1), by omega, rfl, hlt, p'⟩, fun x H' y => ?_⟩
    have hxi : ((x0 :: xs).map Ri)[i]? = some (Ri ((x0 :: xs)[i]'(by simpa using hlt))) := by rw [List.getElem?_map, List.getElem?_eq_getElem (by simpa using hlt)]; rfl
    obtain ⟨B3, s3, r3⟩ := g4 i H x H' _ hxi s.ok y
    have hlD : ∃ z, H D = some (.lst z) := by
      cases i with
      | zero => exact ⟨_, hPn⟩
      | succ n => obtain ⟨l0, us, acc, h, _⟩ := hPn; exact ⟨_, h⟩
    obtain ⟨zz, hzD⟩ := hlD
    have hD3 : B3 D = none := s3.nw D (by rw [hzD]; trivial) hb
    refine hg _ x B3 H' (wipe σ vs) _ s3.ok.sub r3 fun σ2 j2 => ?_
    obtain ⟨w1, w3⟩ := he _ σ2 B3 (List.getElem_mem (by simpa using hlt)) ((e.trans s2.bb).trans (eb.trans s3.bb)) j2
    refine ⟨w1, et_yes B3 H' (.refl _) s3.ok _ fun H3 s4 => ?_⟩
    rw [if_pos rfl]
    refine w3 B3 H3 (.refl _) s4.ok _ fun v B5 H5 s5 r5 => ?_
    have st : Stp C B' H B5 H5 := s3.trans (s4.trans s5)
    have sa : Stp C B3 H' B5 H5 := s4.trans s5
    have l5 : H5 D = some (.lst zz) := st.hh D _ nM hzD
    have b5 : B5 D = none := st.nw D (by rw [hzD]; trivial) hb
    obtain ⟨l0, us, rfl, n3, hl0, hus⟩ := r5
    refine ⟨zz, l5, ?_, ?_⟩
    · have : zz.length ≤ i := by
        cases i with
        | zero => rw [show H D = some (.lst []) from hPn] at hzD; cases hzD; simp
        | succ n =>
          obtain ⟨l0', us', acc, h, ha, _⟩ := hPn
          rw [h] at hzD; cases hzD
          have := ha.pkLen
          rw [List.length_map, List.length_take] at this
          simp only [List.length_cons]; omega
      exact Nat.lt_of_le_of_lt this (Nat.lt_of_lt_of_le hlt (Nat.le_trans hn (by decide)))
    cases i with
    | zero =>
      rw [show H D = some (.lst []) from hPn] at hzD
      cases hzD
      have hus' : Paired (fun (s : List β) u => ∃ b ys, u = .ref b ∧ B3 b = none ∧ B5 b = some (.lst ys) ∧ Args (s.map (Is K)) ys B5) (f x0) us := by
        have := Paired.pkMap.mp hus
        exact this.pkImp fun s u ⟨b, ys, h1, h0, h2, h3⟩ => ⟨b, ys, h1, h0, h2, h3⟩
      let P : Addr → Prop := fun a => a = l0 ∨ ∃ b, V.ref b ∈ us ∧ a = b
      have hin : ∀ b, V.ref b ∈ us → B3 b = none ∧ (∃ ys, B5 b = some (.lst ys)) ∧ b ≠ l0 := by
        intro b hb'
        obtain ⟨i', hi'⟩ := List.getElem?_of_mem hb'
        obtain ⟨sx, _, b', ys, h1, h2, h3, h4⟩ := hus'.pkGetR hi'
        cases h1
        refine ⟨h2, ⟨ys, h3⟩, fun z => ?_⟩
        subst z
        rw [hl0] at h3
        cases h3
        have h5 := h4.pkGetR (i := i') (by simpa using hi')
        obtain ⟨R, h6, h7⟩ := h5
        rw [List.getElem?_map] at h6
        cases hq : sx[i']? with
        | none => rw [hq] at h6; cases h6
        | some d => rw [hq] at h6; cases h6; exact hβ.ref d B5 b us h7 hl0
      have hP3 : ∀ a, P a → B3 a = none := by
        rintro a (rfl | ⟨b, hb', rfl⟩)
        · exact n3
        · exact (hin _ hb').1
      have hP5 : ∀ a, P a → ∃ ys, B5 a = some (.lst ys) := by
        rintro a (rfl | ⟨b, hb', rfl⟩)
        · exact ⟨us, hl0⟩
        · exact (hin _ hb').2.1
      have e35 : Ex B3 (remS B5 P) := ex_remS s5.bb hP3
      have st' : Stp C B' H (remS B5 P) H5 := st.back (s3.bb.trans e35) remS_ex
      have dP : ¬ P D := by
        intro p; obtain ⟨ys, h⟩ := hP5 D p; rw [b5] at h; cases h
      have bD : remS B5 P D = none := by rw [remS_out dP]; exact b5
      have ne0 : l0 ≠ D := fun z => dP (.inl z.symm)
      have new1 : ∀ b, B3 b = none → B5 b ≠ none → (∃ ys, B5 b = some (.lst ys)) → H1 b = none := by
        intro b h3 h5 ⟨ys, h5'⟩
        cases hq : H1 b with
        | none => rfl
        | some o =>
          exfalso
          -- there before: known then or not
          have sx : Stp C B1 H1 B3 H' := s.trans s3
          have hB1 : B1 b = none := by
            cases hh : B1 b with
            | none => rfl
            | some o' => have := sx.bb b o' hh; rw [h3] at this; cases this
          have m : ¬ C.M b := fun m => by have := s5.ok.off b m; rw [h5'] at this; cases this
          have := s5.ok.sub b _ h5'
          have h55 := (sx.trans sa).hh b o m hq
          rw [this] at h55
          cases h55
          have h6 := sa.nw b (by rw [sx.hh b _ m hq]; trivial) h3
          rw [h5'] at h6; cases h6
      have nmm : ∀ b, (∃ ys, B5 b = some (.lst ys)) → ¬ C.M b := fun b ⟨ys, h⟩ m => by have := s5.ok.off b m; rw [h] at this; cases this
      refine ⟨remS B5 P, (s.trans st').loc hD1 bD nM, (eb.trans s3.bb).trans e35, bD, l0, us, [], by rw [upd_same]; rfl, .nil, remS_in (.inl rfl), nmm l0 ⟨us, hl0⟩, ne0, by rw [upd_ne ne0]; exact s5.ok.sub _ _ hl0, new1 l0 n3 (by rw [hl0]; simp) ⟨us, hl0⟩, ?_⟩
      have : ∀ (fs : List (List β)) (ws : List V), (∀ w ∈ ws, w ∈ us) → Paired (fun (s : List β) u => ∃ b ys, u = .ref b ∧ B3 b = none ∧ B5 b = some (.lst ys) ∧ Args (s.map (Is K)) ys B5) fs ws →
          Paired (fun (s : List β) u => ∃ b ys, u = .ref b ∧ remS B5 P b = none ∧ ¬ C.M b ∧ b ≠ D ∧ b ≠ l0 ∧ upd H5 D (.lst [.ref l0]) b = some (.lst ys) ∧ H1 b = none ∧ Args (s.map (Is K)) ys (remS B5 P)) fs ws := by
        intro fs
        induction fs with
        | nil => intro ws _ h; cases h; exact .nil
        | cons s0 fs ih =>
          intro ws hws h
          cases h with
          | cons r t =>
            obtain ⟨b, ys, rfl, h2, h3, h4⟩ := r
            have hbu : V.ref b ∈ us := hws _ List.mem_cons_self
            have hbD : b ≠ D := fun z => by subst z; rw [b5] at h3; cases h3
            refine .cons ⟨b, ys, rfl, remS_in (.inr ⟨b, hbu, rfl⟩), nmm b ⟨ys, h3⟩, hbD, (hin b hbu).2.2, by rw [upd_ne hbD]; exact s5.ok.sub _ _ h3, new1 b h2 (by rw [h3]; simp) ⟨ys, h3⟩, ?_⟩ (ih _ (fun w hw => hws w (List.mem_cons_of_mem _ hw)) t)
            exact Paired.pkMap.mpr ((Paired.pkMap.mp h4).pkImp fun d v hv => hβ.rem d v B5 P hv hP5)
      exact this _ _ (fun w hw => hw) hus'
    | succ n =>
      obtain ⟨l0', us', acc, h, ha, hb0, hm0, hne0, hl0', hn0, hP⟩ := hPn
      rw [h] at hzD; cases hzD
      have hxn : n < xs.length := by omega
      refine ⟨B5, (s.trans st).loc hD1 b5 nM, eb.trans st.bb, b5, l0', us', acc ++ [.ref l0], by rw [upd_same]; rfl, ?_, st.nw l0' (by rw [hl0']; trivial) hb0, hm0, hne0, by rw [upd_ne hne0]; exact st.hh _ _ hm0 hl0', hn0, hP.pkImp fun s u ⟨b, ys, f1, f2, f3, f4, f5, f6, f7, f8⟩ => ⟨b, ys, f1, st.nw b (by rw [f6]; trivial) f2, f3, f4, f5, by rw [upd_ne f4]; exact st.hh _ _ f3 f6, f7, f8.mono st.bb⟩⟩
      rw [List.take_succ_eq_append_getElem hxn, List.map_append]
      refine Paired.pkApp (ha.mono st.bb) (.cons ?_ .nil)
      have : (x0 :: xs)[n + 1]'(by simpa using hlt) = xs[n] := rfl
      rw [← this]
      exact is_lst.mpr ⟨l0, us, rfl, hl0, Args.le (fun s => newL_is) hus⟩
  · have ei : i = xs.length + 1 := by omega
    subst ei
    refine .inl ⟨g3 H (g1 H s.ok.sub), ?_⟩
    obtain ⟨l0, us, acc, h, ha, hb0, hm0, hne0, hl0, hn0, hP⟩ := hPn
    rw [List.take_of_length_le (Nat.le_refl _)] at ha
    let P : Addr → Prop := fun a => a = D ∨ a = l0 ∨ V.ref a ∈ us
    have hin : ∀ b, V.ref b ∈ us → B' b = none ∧ ¬ C.M b ∧ H1 b = none := by
      intro b hb'
      obtain ⟨i', hi'⟩ := List.getElem?_of_mem hb'
      obtain ⟨sx, _, b', ys, h1, h2, h3, h4, h5, h6, h7, h8⟩ := hP.pkGetR hi'
      cases h1; exact ⟨h2, h3, h7⟩
    have hPB : ∀ a, P a → B' a = none ∧ ¬ C.M a ∧ H1 a = none := by
      rintro a (rfl | rfl | h)
      · exact ⟨hb, nM, hD1⟩
      · exact ⟨hb0, hm0, hn0⟩
      · exact hin a h
    -- the base with them
    let T : Hp := fun a => open Classical in if P a then H a else B' a
    have tin : ∀ a, P a → T a = H a := fun a p => if_pos p
    have tout : ∀ a, ¬ P a → T a = B' a := fun a p => if_neg p
    have eT : Ex B' T := fun a o h' => by
      have n : ¬ P a := fun p => by rw [(hPB a p).1] at h'; cases h'
      rw [tout a n]; exact h'
    have sT : Stp C B1 H1 T H := ⟨⟨fun a o h' => by
        by_cases p : P a
        · rw [tin a p] at h'; exact h'
        · rw [tout a p] at h'; exact s.ok.sub a o h', fun a ma => by
        rw [tout a fun p => (hPB a p).2.1 ma]; exact s.ok.off a ma, s.ok.liv, s.ok.inv⟩, s.bb.trans eT, s.hh, fun a n b => by
        rw [tout a fun p => by rw [(hPB a p).2.2] at n; exact n]; exact s.nw a n b⟩
    refine q (.ref D) T H sT ⟨D, l0, us, acc, B', f x0, rfl, by rw [tin D (.inl rfl)]; exact h, by rw [tin l0 (.inr (.inl rfl))]; exact hl0, (e.trans s.bb), eT, hb, hb0, hne0, rfl, ?_, hP.pkImp' ?_⟩
    · show Args ((xs.map f).map (Is K)) acc B'
      rw [List.map_map]; exact ha
    · intro s u hu ⟨b, ys, f1, f2, f3, f4, f5, f6, f7, f8⟩
      subst f1
      exact ⟨b, ys, rfl, f2, f4, f5, by rw [tin b (.inr (.inr hu))]; exact f6, f8⟩
end
end Pk

/-! Dicts of the body's own. -/
namespace Pk
open PySem L2
open Enc (enc dep)
/-- k: v is put in if k is not there -/
def putN {α ν : Type} [DecidableEq α] (st : List (α × ν)) (k : α) (v : ν) : List (α × ν) := if k ∈ st.map Prod.fst then st else st ++ [(k, v)]
theorem putN_len {α ν : Type} [DecidableEq α] (st : List (α × ν)) (k : α) (v : ν) : (putN st k v).length ≤ st.length + 1 := by
  unfold putN; split <;> simp
structure AccD {α κ ν : Type} (C : MI) (H0 : Hp) (mk : List (κ × V) → HO) (kf : α → κ) (Rv : ν → Rp) (l : Addr) (st : List (α × ν)) (B H : Hp) : Prop where
  new : H0 l = none
  off : B l = none
  nm : ¬ C.M l
  nt : ∀ kvs, NTup (some (mk kvs))
  is : ∃ kvs, H l = some (mk kvs) ∧ kvs.map Prod.fst = st.map (fun p => kf p.1) ∧ Args (st.map fun p => Rv p.2) (kvs.map Prod.snd) B
def ik (h : List Int) : List Key := h.map Sum.inl
theorem ik_inj : ∀ {a b : List Int}, ik a = ik b → a = b
  | [], [], _ => rfl
  | [], _ :: _, h => by cases h
  | _ :: _, [], h => by cases h
  | x :: a, y :: b, h => by
    injection h with h1 h2
    injection h1 with h1
    rw [h1, ik_inj h2]
section
variable {C : MI} {K : PySem.W.Frag} {σ : L2.St} {B0 H0 B H B2 H2 : Hp} {te ta tb : TE} {tu tw tz : TS} {D : Ends} {α κ ν : Type} {i j m : Nat} {v : V} {mk : List (κ × V) → HO} {kf : α → κ} {Rv : ν → Rp} {l : Addr} {st : List (α × ν)}
theorem AccD.step (a : AccD C H0 mk kf Rv l st B H) (s : Stp C B H B2 H2) : AccD C H0 mk kf Rv l st B2 H2 := by
  obtain ⟨kvs, h1, h2, h3⟩ := a.is
  exact ⟨a.new, s.nw l (by rw [h1]; exact a.nt kvs) a.off, a.nm, a.nt, kvs, s.hh l _ a.nm h1, h2, h3.mono s.bb⟩
theorem AccD.far {p : Addr} {o : HO} (a : AccD C H0 mk kf Rv l st B H) (h : l ≠ p) : AccD C H0 mk kf Rv l st B (upd H p o) := by
  obtain ⟨kvs, h1, h2, h3⟩ := a.is
  exact ⟨a.new, a.off, a.nm, a.nt, kvs, by rw [upd_ne h]; exact h1, h2, h3⟩
theorem AccD.far2 {p : Addr} {o : HO} (a : AccD C H0 mk kf Rv l st B H) (h : l ≠ p) (b : B p = none) : AccD C H0 mk kf Rv l st (upd B p o) (upd H p o) := by
  obtain ⟨kvs, h1, h2, h3⟩ := a.is
  exact ⟨a.new, by rw [upd_ne h]; exact a.off, a.nm, a.nt, kvs, by rw [upd_ne h]; exact h1, h2, h3.mono (.new b)⟩
theorem args_lenD (a : AccD C H0 mk kf Rv l st B H) : ∃ kvs, H l = some (mk kvs) ∧ kvs.length = st.length ∧ kvs.map Prod.fst = st.map (fun p => kf p.1) := by
  obtain ⟨kvs, h1, h2, h3⟩ := a.is
  exact ⟨kvs, h1, by have := congrArg List.length h2; simpa using this, h2⟩
variable [DecidableEq α] [DecidableEq κ]
theorem valV_iff {kvs : List (κ × V)} {k : κ} : (valV kvs k).isSome = true ↔ k ∈ kvs.map Prod.fst := by
  unfold valV
  rw [Option.isSome_map, List.find?_isSome, List.mem_map]
  exact ⟨fun ⟨p, h1, h2⟩ => ⟨p, h1, of_decide_eq_true h2⟩, fun ⟨p, h1, h2⟩ => ⟨p, h1, decide_eq_true h2⟩⟩
theorem kf_mem (inj : ∀ a b, kf a = kf b → a = b) {x : α} : kf x ∈ st.map (fun p => kf p.1) ↔ x ∈ st.map Prod.fst := by
  rw [List.mem_map, List.mem_map]
  exact ⟨fun ⟨p, h1, h2⟩ => ⟨p, h1, inj _ _ h2⟩, fun ⟨p, h1, h2⟩ => ⟨p, h1, by rw [h2]⟩⟩
theorem putK_new {kvs : List (κ × V)} {k : κ} {v : V} (h : k ∉ kvs.map Prod.fst) : putK kvs k v = kvs ++ [(k, v)] := by
  unfold putK
  rw [if_neg]
  intro z
  rw [List.any_eq_true] at z
  obtain ⟨p, hp, e⟩ := z
  exact h (List.mem_map.mpr ⟨p, hp, of_decide_eq_true e⟩)
/-- a new key -/
theorem AccD.put {x : α} {y : ν} {kvs : List (κ × V)} (a : AccD C H0 mk kf Rv l st B H) (inj : ∀ a b, kf a = kf b → a = b) (imk : ∀ a b, mk a = mk b → a = b) (h : H l = some (mk kvs)) (hx : x ∉ st.map Prod.fst) (hy : (Rv y).P v B) :
    AccD C H0 mk kf Rv l (st ++ [(x, y)]) B (upd H l (mk (putK kvs (kf x) v))) := by
  obtain ⟨kvs', h1, h2, h3⟩ := a.is
  rw [h] at h1
  have e := imk _ _ (Option.some.inj h1)
  subst e
  have hn : kf x ∉ kvs.map Prod.fst := by rw [h2]; exact fun z => hx ((kf_mem inj).mp z)
  refine ⟨a.new, a.off, a.nm, a.nt, _, upd_same, ?_, ?_⟩
  · rw [putK_new hn, List.map_append, List.map_append, h2]; rfl
  · rw [putK_new hn, List.map_append, List.map_append]; exact Paired.pkApp h3 (.cons hy .nil)
end
section
variable {C : MI} {K : PySem.W.Frag} {σ : L2.St} {B0 H0 B H B2 H2 : Hp} {te ta tb : TE} {tu tw tz : TS} {D : Ends} {α κ ν : Type} {i j m : Nat} {v : V} {Rv : ν → Rp} {l : Addr} {st : List (List Int × ν)} {sk : List (Nat × ν)}
theorem key_val {h : List Int} {v : V} (p : (Is K (Tu.mk h)).P v B) : ∃ b, v = .ref b ∧ B b = some (.tup ((ik h).map kV)) := by
  obtain ⟨b, vs, h1, h2, h3⟩ := is_tup.mp p
  have e : vs = h.map V.int := args_ints.mp h3
  subst e
  exact ⟨b, h1, by rw [h2]; unfold ik; rw [List.map_map]; rfl⟩
theorem val_key {h : List Int} {b : Addr} (e : B b = some (.tup ((ik h).map kV))) : (Is K (Tu.mk h)).P (.ref b) B := is_tup.mpr ⟨b, _, rfl, e, by
  have : (ik h).map kV = h.map V.int := by unfold ik; rw [List.map_map]; rfl
  rw [this]; exact args_ints.mpr rfl⟩
theorem dT_inj : ∀ a b : List (List Key × V), HO.dT a = HO.dT b → a = b := fun _ _ h => by injection h
theorem dK_inj : ∀ a b : List (Key × V), HO.dK a = HO.dK b → a = b := fun _ _ h => by injection h
abbrev AccT (C : MI) (H0 : Hp) (Rv : ν → Rp) (l : Addr) (st : List (List Int × ν)) (B H : Hp) : Prop := AccD C H0 HO.dT ik Rv l st B H
abbrev AccK (C : MI) (H0 : Hp) (Rv : ν → Rp) (l : Addr) (st : List (Nat × ν)) (B H : Hp) : Prop := AccD C H0 HO.dK nk Rv l st B H
theorem q_newT (S : Stp C B0 H0 B H) (k : ∀ l, H l = none → Stp C B0 H0 B (upd H l (.dT [])) → AccT C H0 Rv l [] B (upd H l (.dT [])) → tz D (σ.set i (some (.ref l))) (upd H l (.dT []))) : tSeq (tAsg tDNewT (gName i)) tz D σ H := fun l hl => by
  have h0 : H0 l = none := by
    cases q : H0 l with
    | none => rfl
    | some o => exact absurd hl (S.live (by rw [q]; simp))
  exact k l hl (S.loc h0 (S.ok.sub.un hl) (S.ok.fresh hl)) ⟨h0, S.ok.sub.un hl, S.ok.fresh hl, fun _ => trivial, [], upd_same, rfl, .nil⟩
theorem q_newK (S : Stp C B0 H0 B H) (k : ∀ l, H l = none → Stp C B0 H0 B (upd H l (.dK [])) → AccK C H0 Rv l [] B (upd H l (.dK [])) → tz D (σ.set i (some (.ref l))) (upd H l (.dK []))) : tSeq (tAsg tDNewK (gName i)) tz D σ H := fun l hl => by
  have h0 : H0 l = none := by
    cases q : H0 l with
    | none => rfl
    | some o => exact absurd hl (S.live (by rw [q]; simp))
  exact k l hl (S.loc h0 (S.ok.sub.un hl) (S.ok.fresh hl)) ⟨h0, S.ok.sub.un hl, S.ok.fresh hl, fun _ => trivial, [], upd_same, rfl, .nil⟩
/-- {key: v} -/
theorem q_disp1T {h : List Int} {y : ν} (hk : Ev C ta σ B (Is K (Tu.mk h))) (hv : Ev C tb σ B (Rv y)) (S : Stp C B0 H0 B H)
    (k : ∀ l B2 H2, Stp C B0 H0 B2 H2 → Ex B B2 → AccT C H0 Rv l [(h, y)] B2 H2 → tz D (σ.set i (some (.ref l))) H2) : tSeq (tAsg (tDisp1T ta tb) (gName i)) tz D σ H := fun p hp => by
  have h0 : H0 p = none := by
    cases q : H0 p with
    | none => rfl
    | some o => exact absurd hp (S.live (by rw [q]; simp))
  have nm := S.ok.fresh hp
  have S1 : Stp C B0 H0 B (upd H p (.dT [])) := S.loc h0 (S.ok.sub.un hp) nm
  have A1 : AccT C H0 Rv p [] B (upd H p (.dT [])) := ⟨h0, S.ok.sub.un hp, nm, fun _ => trivial, [], upd_same, rfl, .nil⟩
  refine hk B _ (.refl _) S1.ok _ fun x B2 H2 s2 r2 => hv B2 H2 s2.bb s2.ok _ fun z B3 H3 s3 r3 => ?_
  have A3 := (A1.step s2).step s3
  obtain ⟨kvs, g1, g2, g3⟩ := A3.is
  have e : kvs = [] := by cases kvs with
    | nil => rfl
    | cons a b => cases g2
  subst e
  obtain ⟨b, e1, e2⟩ := key_val (Rp.mono _ s3.bb r2)
  refine ⟨g1, b, ik h, e1, s3.ok.sub _ _ e2, ?_⟩
  have A4 : AccT C H0 Rv p ([] ++ [(h, y)]) B3 (upd H3 p (.dT (putK [] (ik h) z))) := A3.put (fun _ _ => ik_inj) dT_inj g1 (by simp) r3
  exact k p B3 _ ((S1.trans (s2.trans s3)).loc A4.new A4.off A4.nm) (s2.bb.trans s3.bb) A4
/-- key not in d -/
theorem et_ninT {h : List Int} {ty : TE} (a : AccT C H0 Rv l st B H) (k : Ok C B H) (hy : ∀ Q : VK, (∀ y, (Is K (Tu.mk h)).P y B → Q y H) → ty σ H Q) (hx : σ[i]? = some (some (.ref l))) (Q : Bool → Hp → Prop) (q : Q (decide (h ∉ st.map Prod.fst)) H) : (tB (tDNotIn ty (tVar i))) σ H Q := by
  refine hy _ fun y hy => ?_
  obtain ⟨kvs, g1, g2, g3⟩ := a.is
  obtain ⟨b, e1, e2⟩ := key_val hy
  refine ⟨.ref l, hx, l, valV kvs (ik h), rfl, .inr ⟨kvs, ik h, b, .inl g1, e1, k.sub _ _ e2, rfl⟩, _, rfl, ?_⟩
  have this : (!(valV kvs (ik h)).isSome) = decide (h ∉ st.map Prod.fst) := by
    have vs := valV_iff (kvs := kvs) (k := ik h)
    rw [g2, kf_mem (fun _ _ => ik_inj)] at vs
    by_cases z : h ∈ st.map Prod.fst
    · rw [vs.mpr z, decide_eq_false (fun n => n z)]; rfl
    · rw [decide_eq_true z]
      cases e : (valV kvs (ik h)).isSome with
      | true => exact absurd (vs.mp e) z
      | false => rfl
  rw [this]
  exact q
/-- the pairs of a dict that is not changed any more -/
theorem s_forT {g : TG} {xs : List (List Int × ν)} {J : (List Int × ν) → L2.St → L2.St → Hp → Prop} (a : AccT C H0 Rv l xs B H) (hx : σ[i]? = some (some (.ref l))) (S : Stp C B0 H0 B H) (hg : ∀ x : List Int × ν, GOk g (TupR [Is K (Tu.mk x.1), Rv x.2]) (J x)) (Pv : List (List Int × ν) → L2.St → Hp → Hp → Prop)
    (h0 : ∀ o, Stp C B0 H0 (upd B l o) (upd H l o) → ∀ B1 H1, Stp C B0 H0 B1 H1 → Stp C (upd B l o) (upd H l o) B1 H1 → Pv [] σ B1 H1)
    (hs : ∀ pre x post σ1 B1 H1 B2 H2, xs = pre ++ x :: post → Stp C B0 H0 B1 H1 → Ex B B1 → Pv pre σ1 B1 H1 → Stp C B1 H1 B2 H2 → ∀ σ2, J x σ1 σ2 B2 →
      tu { D with nx := fun σ H => ∃ B, Stp C B0 H0 B H ∧ Ex B1 B ∧ Pv (pre ++ [x]) σ B H, ct := fun σ H => ∃ B, Stp C B0 H0 B H ∧ Ex B1 B ∧ Pv (pre ++ [x]) σ B H, bk := D.nx } σ2 H2)
    (hd : ∀ σ1 B1 H1, Stp C B0 H0 B1 H1 → Ex B B1 → Pv xs σ1 B1 H1 → D.nx σ1 H1) : tFor (iItemsT (tFrz (tVar i))) g tu D σ H := by
  obtain ⟨kvs, g1, g2, g3⟩ := a.is
  refine ⟨.ref l, hx, l, _, rfl, g1, trivial, fun od => ⟨l, od, kvs, rfl, upd_same, ?_⟩⟩
  have S' : Stp C B0 H0 (upd B l (.frz od (.dT kvs))) (upd H l (.frz od (.dT kvs))) := (S.loc a.new a.off a.nm).frz a.new a.off a.nm upd_same
  have eB : Ex B (upd B l (.frz od (.dT kvs))) := .new a.off
  have nl : kvs.length = xs.length := by have := congrArg List.length g2; simpa using this
  refine s_forD (Ri := fun x : List Int × ν => TupR [Is K (Tu.mk x.1), Rv x.2]) (wi := fun σ H R => R (ItiT l od kvs) H) ?_ S' hg Pv (h0 _ S') (fun pre x post σ1 B1 H1 B2 H2 hx S1 e1 => hs pre x post σ1 B1 H1 B2 H2 hx S1 (eB.trans e1)) (fun σ1 B1 H1 S1 e1 => hd σ1 B1 H1 S1 (eB.trans e1))
  intro B1 H1 e1 k1 R q
  have hl1 := e1 l _ upd_same
  refine q _ B1 H1 k1.refl fun B3 e3 => ⟨fun H => H l = some (.frz od (.dT kvs)), fun H3 e4 => e4 _ _ (e3 _ _ hl1), fun n H hn gH => ⟨gH, by rw [List.length_map] at hn; omega⟩, fun H gH => ⟨gH, by rw [List.length_map]; omega⟩, fun n H x H' R hR k3 y => ?_⟩
  obtain ⟨T, p, kk, w, y1, y2, rfl, y4, rfl⟩ := y
  rw [List.getElem?_map] at hR
  cases hq : xs[n]? with
  | none => rw [hq] at hR; cases hR
  | some z =>
    rw [hq] at hR
    cases hR
    have ek : kk = ik z.1 := by
      have h1 : (kvs.map Prod.fst)[n]? = some kk := by rw [List.getElem?_map, y1]; rfl
      rw [g2, List.getElem?_map, hq] at h1
      exact (Option.some.inj h1).symm
    subst ek
    obtain ⟨w', f1, f2⟩ := Paired.pkGet g3 (show (xs.map fun p => Rv p.2)[n]? = some (Rv z.2) by rw [List.getElem?_map, hq]; rfl)
    rw [List.getElem?_map, y1] at f1
    cases f1
    obtain ⟨B4, s4, e4⟩ := k3.tup y2
    obtain ⟨B5, s5, r5⟩ := pair_new (R := Is K (Tu.mk z.1)) (R' := Rv z.2) s4.ok y4 (val_key e4) (Rp.mono _ ((eB.trans e1).trans (e3.trans s4.bb)) f2)
    exact ⟨B5, s4.trans s5, r5⟩
theorem q_forT {g : TG} {xs : List (List Int × ν)} {J : (List Int × ν) → L2.St → L2.St → Hp → Prop} (a : AccT C H0 Rv l xs B H) (hx : σ[i]? = some (some (.ref l))) (S : Stp C B0 H0 B H) (hg : ∀ x : List Int × ν, GOk g (TupR [Is K (Tu.mk x.1), Rv x.2]) (J x)) (Pv : List (List Int × ν) → L2.St → Hp → Hp → Prop)
    (h0 : ∀ o, Stp C B0 H0 (upd B l o) (upd H l o) → ∀ B1 H1, Stp C B0 H0 B1 H1 → Stp C (upd B l o) (upd H l o) B1 H1 → Pv [] σ B1 H1)
    (hs : ∀ pre x post σ1 B1 H1 B2 H2, xs = pre ++ x :: post → Stp C B0 H0 B1 H1 → Ex B B1 → Pv pre σ1 B1 H1 → Stp C B1 H1 B2 H2 → ∀ σ2, J x σ1 σ2 B2 →
      tu { D with nx := fun σ H => ∃ B, Stp C B0 H0 B H ∧ Ex B1 B ∧ Pv (pre ++ [x]) σ B H, ct := fun σ H => ∃ B, Stp C B0 H0 B H ∧ Ex B1 B ∧ Pv (pre ++ [x]) σ B H, bk := tz D } σ2 H2)
    (hd : ∀ σ1 B1 H1, Stp C B0 H0 B1 H1 → Ex B B1 → Pv xs σ1 B1 H1 → tz D σ1 H1) : tSeq (tFor (iItemsT (tFrz (tVar i))) g tu) tz D σ H :=
  s_forT (D := { D with nx := tz D }) a hx S hg Pv h0 hs hd
/-- d.setdefault(n, v) -/
theorem s_setd {n : Nat} {y : ν} (a : AccK C H0 Rv l sk B H) (hx : σ[i]? = some (some (.ref l))) (hk : EvH C ta σ B H (.int (n : Int))) (hv : ∀ H2, Stp C B H B H2 → ∀ Q : VK, (∀ w B3 H3, Stp C B H2 B3 H3 → (Rv y).P w B3 → Q w H3) → tb σ H2 Q) (S : Stp C B0 H0 B H) (hl : sk.length < 16000000)
    (k : ∀ B2 H3, Stp C B0 H0 B2 H3 → Ex B B2 → (∀ p o, p ≠ l → ¬ C.M p → H p = some o → H3 p = some o) → (∀ p, p ≠ l → NTup (H p) → B p = none → B2 p = none) → AccK C H0 Rv l (putN sk n y) B2 H3 → D.nx σ H3) : tDrop (tDSetd (tVar i) ta tb) D σ H := by
  refine ⟨.ref l, hx, l, rfl, ?_, ?_⟩
  · obtain ⟨kvs, g1, _, _⟩ := a.is; exact .inl ⟨kvs, .inl g1⟩
  refine hk _ fun H2 s2 => hv H2 s2 _ fun w B3 H3 s3 r3 => ?_
  have A3 := (a.step s2).step s3
  obtain ⟨kvs, g1, g2, g3⟩ := A3.is
  have nl : kvs.length = sk.length := by have := congrArg List.length g2; simpa using this
  have vs := valV_iff (kvs := kvs) (k := nk n)
  rw [g2, kf_mem (fun _ _ => nk_inj)] at vs
  refine ⟨kvs, nk n, g1, rfl, by rw [nl]; exact Nat.lt_of_lt_of_le hl (by decide), fun u hu => ?_, fun hu => ?_⟩
  · have hm : n ∈ sk.map Prod.fst := vs.mp (by rw [hu]; rfl)
    refine k B3 H3 (S.trans (s2.trans s3)) s3.bb (fun p o _ m q => (s2.trans s3).hh p o m q) (fun p _ q b => (s2.trans s3).nw p q b) ?_
    unfold putN; rw [if_pos hm]; exact A3
  · have hm : n ∉ sk.map Prod.fst := fun z => by
      have := vs.mpr z
      rw [hu] at this
      cases this
    refine k B3 _ ((S.trans (s2.trans s3)).loc A3.new A3.off A3.nm) s3.bb (fun p o hp m q => by rw [upd_ne hp]; exact (s2.trans s3).hh p o m q) (fun p _ q b => (s2.trans s3).nw p q b) ?_
    unfold putN; rw [if_neg hm]; exact A3.put (fun _ _ => nk_inj) dK_inj g1 hm r3
end
end Pk

/-! Looks that are taken back; instances and lists that a callee changes. -/
namespace Pk
open PySem L2
open Enc (enc dep)
def rem (B : Hp) (x : Addr) : Hp := fun a => if a = x then none else B a
theorem rem_ne {B : Hp} {x a : Addr} (h : a ≠ x) : rem B x a = B a := if_neg h
theorem rem_same {B : Hp} {x : Addr} : rem B x x = none := if_pos rfl
section
variable {C : MI} {K : PySem.W.Frag} {σ : L2.St} {B0 H0 B H B2 H2 B' H' T : Hp} {te ta tb : TE} {t : TA} {tu tw tz : TS} {D : Ends} {R R' S : Rp} {i j m : Nat} {v : V} {x l : Addr} {o : HO}
theorem Stp.rem (s : Stp C (upd B x o) H B2 H2) (b : B x = none) (nm : ¬ C.M x) : Stp C B H (rem B2 x) H2 :=
  ⟨⟨fun a u q => by
      by_cases h : a = x
      · subst h; rw [rem_same] at q; cases q
      · rw [rem_ne h] at q; exact s.ok.sub a u q, fun a ma => by
      by_cases h : a = x
      · subst h; exact rem_same
      · rw [rem_ne h]; exact s.ok.off a ma, s.ok.liv, s.ok.inv⟩, fun a u q => by
      have h : a ≠ x := fun h => by subst h; rw [b] at q; cases q
      rw [rem_ne h]; exact s.bb a u (by rw [upd_ne h]; exact q), s.hh, fun a n q => by
      by_cases h : a = x
      · subst h; exact rem_same
      · rw [rem_ne h]; exact s.nw a n (by rw [upd_ne h]; exact q)⟩
theorem ex_rem (e : Ex B B2) (b : B x = none) : Ex B (rem B2 x) := fun a u q => by
  have h : a ≠ x := fun h => by subst h; rw [b] at q; cases q
  rw [rem_ne h]; exact e a u q
/-- no list, no tuple -/
def NSeq : HO → Prop
  | .lst _ => False
  | .tup _ => False
  | _ => True
mutual
theorem dq_rem (h : B x = some o) (n : NSeq o) : ∀ (d : PyData) (v : V), Dq K B v d → Dq K (rem B x) v d
  | .none, _, h => by cases h; exact .non
  | .bool _, _, h => by cases h; exact .bl _
  | .int _, _, h => by cases h; exact .int _
  | .str _, _, h => by cases h; exact .str _
  | .list ds, _, q => by
    cases q with
    | lst h1 h2 => exact .lst (by rw [rem_ne fun z => by subst z; rw [h1] at h; cases h; exact n]; exact h1) (dqAll_rem h n ds _ h2)
  | .tuple ds, _, q => by
    cases q with
    | tup h1 h2 => exact .tup (by rw [rem_ne fun z => by subst z; rw [h1] at h; cases h; exact n]; exact h1) (dqAll_rem h n ds _ h2)
  | .dict _, _, h => by cases h
theorem dqAll_rem (h : B x = some o) (n : NSeq o) : ∀ (ds : List PyData) (vs : List V), DqAll K B vs ds → DqAll K (rem B x) vs ds
  | [], _, h => by cases h; exact .nil
  | d :: ds, _, q => by
    cases q with
    | cons h1 h2 => exact .cons (dq_rem h n d _ h1) (dqAll_rem h n ds _ h2)
end
theorem is_rem {α : Type} [Enc α] {y : α} (h : B x = some o) (n : NSeq o) (r : (Is K y).P v B) : (Is K y).P v (rem B x) := dq_rem h n _ _ r
/-- all but what stands at addresses of P is kept -/
structure StpX (C : MI) (P : Addr → Prop) (B H B' H' : Hp) : Prop where
  ok : Ok C B' H'
  bb : Ex B B'
  hh : ∀ a o, ¬ P a → ¬ C.M a → H a = some o → H' a = some o
  nw : ∀ a, NTup (H a) → B a = none → B' a = none
  kp : ∀ a, P a → NTup (H' a)
theorem Stp.toX {P : Addr → Prop} (s : Stp C B H B2 H2) (h : ∀ a, P a → NTup (H a)) : StpX C P B H B2 H2 := ⟨s.ok, s.bb, fun a o _ m q => s.hh a o m q, s.nw, fun a p => s.ntup (h a p)⟩
theorem StpX.ntup {P : Addr → Prop} (s : StpX C P B H B2 H2) {a : Addr} (h : NTup (H a)) : NTup (H2 a) := by
  by_cases p : P a
  · exact s.kp a p
  · by_cases m : C.M a
    · exact C.nt _ _ s.ok.inv m
    · cases q : H a with
      | none => rw [q] at h; exact h.elim
      | some o => rw [s.hh a o p m q, ← q]; exact h
theorem StpX.trans {P : Addr → Prop} (s : StpX C P B H B2 H2) (t : StpX C P B2 H2 B' H') : StpX C P B H B' H' :=
  ⟨t.ok, s.bb.trans t.bb, fun a o p m h => t.hh a o p m (s.hh a o p m h), fun a h b => t.nw a (s.ntup h) (s.nw a h b), t.kp⟩
theorem StpX.then {P : Addr → Prop} (s : StpX C P B H B2 H2) (t : Stp C B2 H2 B' H') : StpX C P B H B' H' := s.trans (t.toX s.kp)
theorem StpX.put {P : Addr → Prop} (s : StpX C P B H B2 H2) (p : P x) (b : B2 x = none) (m : ¬ C.M x) (n : NTup (some o)) : StpX C P B H B2 (upd H2 x o) :=
  ⟨s.ok.loc b m, s.bb, fun a u q ma h => by rw [upd_ne fun z => by subst z; exact q p]; exact s.hh a u q ma h, s.nw, fun a pa => by
    by_cases h : a = x
    · subst h; rw [upd_same]; exact n
    · rw [upd_ne h]; exact s.kp a pa⟩
theorem StpX.loc {P : Addr → Prop} (s : StpX C P B H B2 H2) (h0 : H x = none) (b : B2 x = none) (m : ¬ C.M x) (n : NTup (some o)) : StpX C P B H B2 (upd H2 x o) :=
  ⟨s.ok.loc b m, s.bb, fun a u q ma h => by rw [upd_ne (ne_of_none h h0)]; exact s.hh a u q ma h, s.nw, fun a pa => by
    by_cases h : a = x
    · subst h; rw [upd_same]; exact n
    · rw [upd_ne h]; exact s.kp a pa⟩
/-- the callee's changes are of the caller's own objects -/
theorem Stp.thenX {P : Addr → Prop} (S : Stp C B0 H0 B H) (s : StpX C P B H B2 H2) (h : ∀ a, P a → H0 a = none) : Stp C B0 H0 B2 H2 :=
  ⟨s.ok, S.bb.trans s.bb, fun a o m q => s.hh a o (fun p => by rw [h a p] at q; cases q) m (S.hh a o m q), fun a n b => s.nw a (S.ntup n) (S.nw a n b)⟩
theorem Stp.new0 (S : Stp C B0 H0 B H) (h : H l = none) : H0 l = none := by
  cases q : H0 l with
  | none => rfl
  | some o => exact absurd h (S.live (by rw [q]; simp))
/-! at this heap -/
def EvAt (C : MI) (te : TE) (σ : L2.St) (B H : Hp) (R : Rp) : Prop := ∀ Q : VK, (∀ v B2 H2, Stp C B H B2 H2 → R.P v B2 → Q v H2) → te σ H Q
theorem Ev.here (h : Ev C te σ B R) (k : Ok C B H) : EvAt C te σ B H R := fun Q q => h B H (.refl _) k Q q
theorem q_asgA (h : EvAt C te σ B H R) (S : Stp C B0 H0 B H) (k : ∀ v B2 H2, Stp C B0 H0 B2 H2 → Stp C B H B2 H2 → R.P v B2 → tz D (σ.set i (some v)) H2) : tSeq (tAsg te (gName i)) tz D σ H :=
  h _ fun v B2 H2 s r => k v B2 H2 (S.trans s) s r
theorem ea_call1 {ι : Type} {p : Pm ι} (y : ι) (h : EvAt C te σ B H R) (ha : p.args y = [R]) (hp : p.pre y) (hn : p.need y C := by trivial) : EvAt C (tCall p.sp [] E0 (tCons te tNil)) σ B H (p.res y) := fun Q q =>
  h _ fun v B2 H2 s r => by
    show p.sp ([v] ++ []) H2 Q E0
    exact ⟨C, B2, y, s.ok, hn, by rw [ha]; exact .cons r .nil, hp, fun v B3 H3 s3 r3 => q v B3 H3 (s.trans s3) r3⟩
theorem ea_cat {α : Type} [Enc α] {xs ys : List α} {w : V} (hx : σ[i]? = some (some w)) (r : (Is K xs).P w B) (h : EvAt C te σ B H (Is K ys)) (hl : xs.length + ys.length ≤ 16000000) : EvAt C (tOp rCat (tVar i) te) σ B H (Is K (xs ++ ys)) := fun Q q =>
  ⟨w, hx, h _ fun y B2 H2 s r2 => by
    obtain ⟨a, vs, h1, h2, h3⟩ := is_lst.mp (Rp.mono _ s.bb r)
    obtain ⟨b, us, g1, g2, g3⟩ := is_lst.mp r2
    refine ⟨a, b, vs, us, h1, g1, s.ok.sub _ _ h2, s.ok.sub _ _ g2, ?_, fun p hp => q _ _ _ (s.trans (s.ok.new hp)) (is_lst.mpr ⟨p, _, rfl, upd_same, ?_⟩)⟩
    · rw [← h3.pkLen, ← g3.pkLen, List.length_map, List.length_map]; exact Nat.le_trans hl (by decide)
    · rw [List.map_append]; exact Args.mono (Ex.new (s.ok.sub.un hp)) (Paired.pkApp h3 g3)⟩
/-- list(d) of an own dict -/
theorem ea_keys {ν : Type} {Rv : ν → Rp} {sk : List (Nat × ν)} (a : AccK C H0 Rv l sk B H) (hx : σ[i]? = some (some (.ref l))) (k : Ok C B H) : EvAt C (tCB rListD (tCons (tVar i) tNil)) σ B H (Is K (sk.map Prod.fst)) := fun Q q => by
  obtain ⟨kvs, h1, h2, h3⟩ := a.is
  refine ⟨.ref l, hx, l, kvs, rfl, h1, fun p hp => q _ _ _ (k.new hp) (is_lst.mpr ⟨p, _, rfl, upd_same, ?_⟩)⟩
  have e2 : (kvs.map fun kv => kV kv.1) = (sk.map Prod.fst).map fun n : Nat => V.int (n : Int) := by
    have : (kvs.map fun kv => kV kv.1) = (kvs.map Prod.fst).map kV := by rw [List.map_map]; rfl
    rw [this, h2, List.map_map, List.map_map]; rfl
  rw [e2]
  exact args_nats.mpr rfl
/-- the pairs of a fresh dict -/
theorem s_forKE {ν : Type} {Rv : ν → Rp} {g : TG} {xs : List (Nat × ν)} {J : (Nat × ν) → L2.St → L2.St → Hp → Prop} (hte : ∀ Q' : VK, (∀ d B2 H2, Stp C B H B2 H2 → AccK C H Rv d xs B2 H2 → Q' (.ref d) H2) → te σ H Q') (S : Stp C B0 H0 B H)
    (hg : ∀ x : Nat × ν, GOk g (TupR [Is K x.1, Rv x.2]) (J x)) (Pv : List (Nat × ν) → L2.St → Hp → Hp → Prop)
    (h0 : ∀ B1 H1, Stp C B0 H0 B1 H1 → Ex B B1 → (∀ p o, ¬ C.M p → H p = some o → H1 p = some o) → (∀ p, NTup (H p) → B p = none → B1 p = none) → Pv [] σ B1 H1)
    (hs : ∀ pre x post σ1 B1 H1 B2 H2, xs = pre ++ x :: post → Stp C B0 H0 B1 H1 → Ex B B1 → Pv pre σ1 B1 H1 → Stp C B1 H1 B2 H2 → ∀ σ2, J x σ1 σ2 B2 →
      tu { D with nx := fun σ H => ∃ B, Stp C B0 H0 B H ∧ Ex B1 B ∧ Pv (pre ++ [x]) σ B H, ct := fun σ H => ∃ B, Stp C B0 H0 B H ∧ Ex B1 B ∧ Pv (pre ++ [x]) σ B H, bk := D.nx } σ2 H2)
    (hd : ∀ σ1 B1 H1, Stp C B0 H0 B1 H1 → Ex B B1 → Pv xs σ1 B1 H1 → D.nx σ1 H1) : tFor (iItems (tFrz te)) g tu D σ H := by
  show te σ H _
  refine hte _ fun l B5 H5 s5 a => ?_
  obtain ⟨kvs, g1, g2, g3⟩ := a.is
  refine ⟨l, _, rfl, g1, trivial, fun od => ⟨l, od, kvs, rfl, upd_same, ?_⟩⟩
  have n0 : H0 l = none := S.new0 a.new
  have S5 := S.trans s5
  have S' : Stp C B0 H0 (upd B5 l (.frz od (.dK kvs))) (upd H5 l (.frz od (.dK kvs))) := (S5.loc n0 a.off a.nm).frz n0 a.off a.nm upd_same
  have s' : Stp C B H (upd B5 l (.frz od (.dK kvs))) (upd H5 l (.frz od (.dK kvs))) := (s5.loc a.new a.off a.nm).frz a.new a.off a.nm upd_same
  have eB : Ex B5 (upd B5 l (.frz od (.dK kvs))) := .new a.off
  have nl : kvs.length = xs.length := by have := congrArg List.length g2; simpa using this
  refine s_forD (Ri := fun x : Nat × ν => TupR [Is K x.1, Rv x.2]) (wi := fun σ H R => R (Iti l od kvs) H) ?_ S' hg Pv (fun B1 H1 S1 s1 => h0 B1 H1 S1 ((s5.bb.trans eB).trans s1.bb) (fun p o m q => (s'.trans s1).hh p o m q) (fun p n b => (s'.trans s1).nw p n b)) (fun pre x post σ1 B1 H1 B2 H2 hx S1 e1 => hs pre x post σ1 B1 H1 B2 H2 hx S1 ((s5.bb.trans eB).trans e1)) (fun σ1 B1 H1 S1 e1 => hd σ1 B1 H1 S1 ((s5.bb.trans eB).trans e1))
  intro B1 H1 e1 k1 R q
  have hl1 := e1 l _ upd_same
  refine q _ B1 H1 k1.refl fun B3 e3 => ⟨fun H => H l = some (.frz od (.dK kvs)), fun H3 e4 => e4 _ _ (e3 _ _ hl1), fun n H hn gH => ⟨gH, by rw [List.length_map] at hn; omega⟩, fun H gH => ⟨gH, by rw [List.length_map]; omega⟩, fun n H x H' R hR k3 y => ?_⟩
  obtain ⟨T, kk, w, y1, rfl, y4, rfl⟩ := y
  rw [List.getElem?_map] at hR
  cases hq : xs[n]? with
  | none => rw [hq] at hR; cases hR
  | some z =>
    rw [hq] at hR
    cases hR
    have ek : kk = nk z.1 := by
      have h1 : (kvs.map Prod.fst)[n]? = some kk := by rw [List.getElem?_map, y1]; rfl
      rw [g2, List.getElem?_map, hq] at h1
      exact (Option.some.inj h1).symm
    subst ek
    obtain ⟨w', f1, f2⟩ := Paired.pkGet g3 (show (xs.map fun p => Rv p.2)[n]? = some (Rv z.2) by rw [List.getElem?_map, hq]; rfl)
    rw [List.getElem?_map, y1] at f1
    cases f1
    exact pair_new (R := Is K z.1) (R' := Rv z.2) k3 y4 (is_nat.mpr rfl) (Rp.mono _ ((eB.trans e1).trans e3) f2)
end
end Pk

/-! Values known in part; own lists as they are made. -/
namespace Pk
open PySem L2
open Enc (enc dep)
section
variable {C : MI} {K : PySem.W.Frag} {σ : L2.St} {B0 H0 B H : Hp} {R R' S : Rp} {te ta tb : TE} {t : TA} {tt : TT} {tu tw tz : TS} {D : Ends} {b : Bool} {α β : Type} {Ra : α → Rp} {p : α → Prop} {F : α → Rp} {l : Addr} {xs : List α} {i j m : Nat} {v : V} {r : R2} {Rs : List Rp}
theorem rv_some (h : ∀ x, p x → RV C r R (F x) B S) : RV C r R (SomeR p F) B S := fun x y B1 H1 e k hx ⟨z, hz, hy⟩ Q q => h z hz x y B1 H1 e k hx hy Q q
theorem rv_someL (h : ∀ x, p x → RV C r (F x) R B S) : RV C r (SomeR p F) R B S := fun x y B1 H1 e k ⟨z, hz, hx⟩ hy Q q => h z hz x y B1 H1 e k hx hy Q q
theorem RV.le (h : RV C r R R' B S) {S' : Rp} (l : S.le S') : RV C r R R' B S' := fun x y B1 H1 e k hx hy Q q => h x y B1 H1 e k hx hy Q fun v B2 H2 s rr => q v B2 H2 s (l _ _ rr)
theorem some_le {q : α → Prop} (h : ∀ x, p x → q x) : (SomeR p F).le (SomeR q F) := fun v B ⟨x, h1, h2⟩ => ⟨x, h x h1, h2⟩
theorem some_in {x : α} (h : p x) : (F x).le (SomeR p F) := fun v B r => ⟨x, h, r⟩
theorem rv_ixL {i : Int} (h : atI Rs i = some R) : RV C (rIxL K) (LstR Rs) (Is K i) B R := fun x y B1 H1 _ k ⟨a, vs, hx, hq, hv⟩ hy Q q => by
  obtain ⟨w, h1, h2⟩ := atI_at hv h
  exact ⟨a, vs, i, w, hx, is_int.mp hy, .inl (.inl (k.sub _ _ hq)), h1, q _ B1 H1 k.refl h2⟩
/-- i + x, x known in part -/
theorem ev_addS {i : Int} {p q : Int → Prop} (ha : Ev C ta σ B (Is K i)) (hb : Ev C tb σ B (SomeR p (Is K))) (h : ∀ x, p x → q (i + x)) : Ev C (tOp rAddI ta tb) σ B (SomeR q (Is K)) :=
  ev_op ha hb (rv_some fun x hx => (rv_I0 (K := K) (g := fun i j => .int (i + j)) (S := Is K (i + x)) fun _ => .int _).le (some_in (F := Is K) (h x hx)))
theorem args_some : ∀ {ys : List β} {vs : List V}, Args (ys.map fun _ => SomeR p Ra) vs B → ∃ zs : List α, zs.length = ys.length ∧ (∀ z ∈ zs, p z) ∧ Args (zs.map Ra) vs B
  | [], _, h => by cases h; exact ⟨[], rfl, by simp, Paired.nil⟩
  | y :: ys, _, h => by
    cases h with
    | cons r t =>
      obtain ⟨x, h1, h2⟩ := r
      obtain ⟨zs, h3, h4, h5⟩ := args_some t
      exact ⟨x :: zs, by simp [h3], fun z hz => by
        rcases List.mem_cons.mp hz with rfl | hz
        · exact h1
        · exact h4 z hz, .cons h2 h5⟩
/-- a comprehension of values known in part -/
theorem ev_lcS {wi : TI} {g : TG} {vs : List Nat} {Ri : β → Rp} {ys : List β} {J : β → L2.St → L2.St → Hp → Prop} (hi : EvI C wi σ B (ys.map Ri)) (hn : ys.length ≤ 16000000) (hg : ∀ x, GOk g (Ri x) (J x))
    (he : ∀ x σ2 B', x ∈ ys → Ex B B' → J x (wipe σ vs) σ2 B' → wipe σ2 vs = wipe σ vs ∧ Ev C te σ2 B' (SomeR p Ra)) : Ev C (tLc wi g tYes te vs) σ B (SomeR (fun zs : List α => zs.length = ys.length ∧ ∀ z ∈ zs, p z) fun zs => LstR (zs.map Ra)) :=
  (ev_lcM (Ro := fun _ : β => SomeR p Ra) id hi hn hg he).le fun v B ⟨a, us, h1, h2, h3⟩ => by
    rw [List.map_id] at h3
    obtain ⟨zs, g1, g2, g3⟩ := args_some h3
    exact ⟨zs, ⟨g1, g2⟩, a, us, h1, h2, g3⟩
theorem ev_lcSD [Enc α] {wi : TI} {g : TG} {vs : List Nat} {Ri : β → Rp} {ys : List β} {J : β → L2.St → L2.St → Hp → Prop} (hi : EvI C wi σ B (ys.map Ri)) (hn : ys.length ≤ 16000000) (hg : ∀ x, GOk g (Ri x) (J x))
    (he : ∀ x σ2 B', x ∈ ys → Ex B B' → J x (wipe σ vs) σ2 B' → wipe σ2 vs = wipe σ vs ∧ Ev C te σ2 B' (SomeR p (Is K))) : Ev C (tLc wi g tYes te vs) σ B (SomeR (fun zs : List α => zs.length = ys.length ∧ ∀ z ∈ zs, p z) (Is K)) :=
  (ev_lcS hi hn hg he).le fun v B ⟨zs, h, r⟩ => ⟨zs, h, is_lst.mpr r⟩
/-! flat values -/
def Flat (R : Rp) : Prop := ∀ v B B', R.P v B → R.P v B'
theorem flat_int {p : Int → Prop} : Flat (SomeR p (Is K)) := fun v B B' ⟨x, h, r⟩ => ⟨x, h, is_int.mpr (is_int.mp r)⟩
theorem Acc.peekF (a : Acc C H0 Ra l xs B H) (k : Ok C B H) (h : ∀ T, Ex B T → (LstR (xs.map Ra)).P (.ref l) T → Ev C te σ T R) (fl : Flat R) : EvAt C te σ B H R := fun Q q => by
  obtain ⟨T, k2, e2, r⟩ := a.look k
  exact h T e2 r T H (.refl _) k2 _ fun w B2 H2 s rw' => q w B H2 (s.down k e2) (fl _ _ _ rw')
/-- an item of an own list -/
theorem acc_ix (a : Acc C H0 Ra l xs B H) (hx : σ[i]? = some (some (.ref l))) (h : EvAt C te σ B H (SomeR (fun i : Int => 0 ≤ i ∧ i < xs.length) (Is K))) : EvAt C (tOp (rIxL K) (tVar i) te) σ B H (SomeR (fun x => x ∈ xs) Ra) := fun Q q =>
  ⟨.ref l, hx, h _ fun w B2 H2 s ⟨n, hn, r⟩ => by
    have a2 := a.step s
    obtain ⟨vs, g1, g2⟩ := a2.is
    have hlt : n.toNat < xs.length := by omega
    obtain ⟨z, z1, z2⟩ := g2.pkGet (show (xs.map Ra)[n.toNat]? = some (Ra xs[n.toNat]) by simp [hlt])
    have hvl : vs.length = xs.length := by rw [← g2.pkLen, List.length_map]
    exact ⟨l, vs, n, z, rfl, is_int.mp r, rd_l g1, by rw [atI_nn' hn.1 (by rw [hvl]; exact hn.2)]; exact z1, q z B2 H2 s ⟨xs[n.toNat], List.getElem_mem hlt, z2⟩⟩⟩
where
  atI_nn' {α : Type} {xs : List α} {i : Int} (h0 : 0 ≤ i) (h : i < xs.length) : atI xs i = xs[i.toNat]? := by
    unfold atI ixN
    rw [if_pos h0, if_pos h]
    rfl
/-- the last one -/
theorem acc_last {y : α} (a : Acc C H0 Ra l (xs ++ [y]) B H) (k : Ok C B H) (hx : σ[i]? = some (some (.ref l))) : EvAt C (tOp (rIxL K) (tVar i) (tUn rNeg (tC (.int 1)))) σ B H (Ra y) := fun Q q => by
  obtain ⟨vs, g1, g2⟩ := a.is
  have hvl : vs.length = xs.length + 1 := by rw [← g2.pkLen]; simp
  obtain ⟨z, z1, z2⟩ := g2.pkGet (show ((xs ++ [y]).map Ra)[xs.length]? = some (Ra y) by simp)
  refine ⟨.ref l, hx, 1, rfl, l, vs, -1, z, rfl, rfl, rd_l g1, ?_, q z B H k.refl z2⟩
  unfold atI ixN
  rw [if_neg (by decide), if_pos (by rw [hvl]; omega)]
  show vs[(-1 + (vs.length : Int)).toNat]? = _
  rw [hvl, show (-1 + ((xs.length + 1 : Nat) : Int)).toNat = xs.length by omega]
  exact z1
/-- x.append(e), e known in part -/
theorem s_appS (a : Acc C H0 Ra l xs B H) (hx : σ[i]? = some (some (.ref l))) (h : EvAt C te σ B H (SomeR p Ra)) (S : Stp C B0 H0 B H) (hl : xs.length < 16000000)
    (k : ∀ x B2 H2 H3, p x → Stp C B0 H0 B2 H3 → Stp C B H B2 H2 → (∀ p o, p ≠ l → H2 p = some o → H3 p = some o) → Acc C H0 Ra l (xs ++ [x]) B2 H3 → D.nx σ H3) : tDrop (tBM K "list" rAppend (tVar i) (tCons te tNil)) D σ H := by
  obtain ⟨vs1, g1, _⟩ := a.is
  refine ⟨.ref l, hx, .inl ⟨rfl, _, rd_l g1⟩, h _ fun w B2 H2 s2 ⟨x, hp, r2⟩ => ?_⟩
  have a2 := a.step s2
  obtain ⟨vs, h1, h2⟩ := a2.is
  refine ⟨l, vs, w, rfl, rfl, h1, ?_, k x B2 H2 _ hp ((S.trans s2).loc a.new a2.off a.nm) s2 (fun p o hp q => by rw [upd_ne hp]; exact q) ⟨a.new, a2.off, a.nm, vs ++ [w], upd_same, ?_⟩⟩
  · rw [← h2.pkLen, List.length_map]; exact Nat.lt_of_lt_of_le hl (by decide)
  · rw [List.map_append]; exact Paired.pkApp h2 (.cons r2 .nil)
/-- x.insert(i, e) -/
theorem s_ins {x : α} (a : Acc C H0 Ra l xs B H) (hx : σ[i]? = some (some (.ref l))) (h : EvAt C ta σ B H (SomeR (fun i : Int => 0 ≤ i ∧ i ≤ xs.length) (Is K))) (he : Ev C te σ B (Ra x)) (S : Stp C B0 H0 B H) (hl : xs.length < 16000000)
    (k : ∀ n B2 H3, Stp C B0 H0 B2 H3 → Ex B B2 → Acc C H0 Ra l (xs.take n ++ [x] ++ xs.drop n) B2 H3 → D.nx σ H3) : tDrop (tBM K "list" rIns (tVar i) (tCons ta (tCons te tNil))) D σ H := by
  obtain ⟨vs1, g1, _⟩ := a.is
  refine ⟨.ref l, hx, .inl ⟨rfl, _, rd_l g1⟩, h _ fun w B2 H2 s2 ⟨n, hn, r2⟩ => he B2 H2 s2.bb s2.ok _ fun u B3 H3 s3 r3 => ?_⟩
  have a3 := (a.step s2).step s3
  obtain ⟨vs, h1, h2⟩ := a3.is
  have en : w = .int n := is_int.mp r2
  subst en
  refine ⟨l, vs, n, u, rfl, rfl, h1, ?_, hn.1, ?_, k n.toNat B3 _ ((S.trans (s2.trans s3)).loc a.new a3.off a.nm) (s2.bb.trans s3.bb) ⟨a.new, a3.off, a.nm, _, upd_same, ?_⟩⟩
  · rw [← h2.pkLen, List.length_map]; exact Nat.lt_of_lt_of_le hl (by decide)
  · have := hn.2; omega
  · rw [List.map_append, List.map_append, List.map_take, List.map_drop]
    exact Paired.pkApp (Paired.pkApp (args_take _ h2) (.cons r3 .nil)) (args_drop _ h2)
/-- x = [e, ..], to be changed -/
theorem q_lstO (h : ∀ Q : List V → Hp → Prop, (∀ us B2 H2, Stp C B H B2 H2 → Args (xs.map Ra) us B2 → Q us H2) → t σ H Q) (S : Stp C B0 H0 B H) (hl : xs.length ≤ 1000)
    (k : ∀ l B2 H3, Stp C B0 H0 B2 H3 → Ex B B2 → Acc C H0 Ra l xs B2 H3 → tz D (σ.set i (some (.ref l))) H3) : tSeq (tAsg (tLst t) (gName i)) tz D σ H :=
  h _ fun us B2 H2 s2 a2 => ⟨by rw [← a2.pkLen, List.length_map]; exact Nat.le_trans hl (by decide), fun l hl2 =>
    k l B2 _ ((S.trans s2).loc ((S.trans s2).new0 hl2) (s2.ok.sub.un hl2) (s2.ok.fresh hl2)) s2.bb ⟨(S.trans s2).new0 hl2, s2.ok.sub.un hl2, s2.ok.fresh hl2, us, upd_same, a2⟩⟩
/-- x = [e for ..], to be changed -/
theorem q_lcO {wi : TI} {g : TG} {vs : List Nat} {Ri : β → Rp} {ys : List β} {J : β → L2.St → L2.St → Hp → Prop} (hi : EvI C wi σ B (ys.map Ri)) (hn : ys.length ≤ 16000000) (hg : ∀ x, GOk g (Ri x) (J x)) (S : Stp C B0 H0 B H)
    (he : ∀ x σ2 B', x ∈ ys → Ex B B' → J x (wipe σ vs) σ2 B' → wipe σ2 vs = wipe σ vs ∧ Ev C te σ2 B' (SomeR p Ra))
    (k : ∀ (zs : List α) l B2 H3, zs.length = ys.length → (∀ z ∈ zs, p z) → Stp C B0 H0 B2 H3 → Ex B B2 → Acc C H0 Ra l zs B2 H3 → tz D (σ.set i (some (.ref l))) H3) : tSeq (tAsg (tLc wi g tYes te vs) (gName i)) tz D σ H := by
  unfold tSeq tAsg tLc
  refine hi B H (.refl _) S.ok _ fun Jt B2 H2 s2 hJ D' hD => ?_
  have hD1 : H D' = none := by
    cases h : H D' with
    | none => rfl
    | some o => exact absurd hD (s2.live (by rw [h]; simp))
  have nM : ¬ C.M D' := s2.ok.fresh hD
  have nl : (ys.map Ri).length = ys.length := List.length_map ..
  refine ⟨fun n m H' => m = ys.length - n ∧ n ≤ ys.length ∧ ∃ B' acc, Stp C B H B' H' ∧ Ex B2 B' ∧ B' D' = none ∧ H' D' = some (.lst acc) ∧ Args ((ys.take n).map fun _ => SomeR p Ra) acc B', ⟨ys.length, by simp, Nat.zero_le _, B2, [], s2.loc hD1 (s2.ok.sub.un hD) nM, .refl _, s2.ok.sub.un hD, upd_same, .nil⟩, ?_⟩
  rintro n m H' ⟨rfl, hn', B', acc, s, eb, hb, hl, ha⟩
  obtain ⟨G, g1, g2, g3, g4⟩ := hJ B' eb
  rw [nl] at g2 g3
  by_cases hlt : n < ys.length
  · refine .inr ⟨g2 n H' hlt (g1 H' s.ok.sub), fun H' => ∃ B' acc, Stp C B H B' H' ∧ Ex B2 B' ∧ B' D' = none ∧ H' D' = some (.lst acc) ∧ Args ((ys.take (n + 1)).map fun _ => SomeR p Ra) acc B', fun H' p' => ⟨ys.length - (n + 1), by omega, rfl, hlt, p'⟩, fun x H'' y => ?_⟩
    obtain ⟨B3, s3, r3⟩ := g4 n H' x H'' (Ri ys[n]) (by simp [hlt]) s.ok y
    refine hg ys[n] x B3 H'' (wipe σ vs) _ s3.ok.sub r3 fun σ2 j2 => ?_
    obtain ⟨w1, w3⟩ := he ys[n] σ2 B3 (List.getElem_mem hlt) (s2.bb.trans (eb.trans s3.bb)) j2
    refine ⟨w1, ?_⟩
    unfold tYes
    dsimp only
    rw [if_pos rfl]
    refine w3 B3 H'' (.refl _) s3.ok _ fun v B5 H5 s5 r5 => ?_
    have st : Stp C B' H' B5 H5 := s3.trans s5
    have l5 : H5 D' = some (.lst acc) := st.hh D' _ nM hl
    have b5 : B5 D' = none := st.nw D' (by rw [hl]; trivial) hb
    refine ⟨acc, l5, ?_, B5, acc ++ [v], (s.trans st).loc hD1 b5 nM, eb.trans st.bb, b5, upd_same, ?_⟩
    · rw [← ha.pkLen, List.length_map, List.length_take]; exact Nat.lt_of_lt_of_le (by omega : min n ys.length < 16000000 + 1) (by decide)
    · rw [List.take_succ_eq_append_getElem hlt, List.map_append]; exact Paired.pkApp (ha.mono st.bb) (.cons r5 .nil)
  · have ei : n = ys.length := by omega
    subst ei
    refine .inl ⟨g3 H' (g1 H' s.ok.sub), ?_⟩
    rw [List.take_of_length_le (Nat.le_refl _)] at ha
    obtain ⟨zs, z1, z2, z3⟩ := args_some ha
    exact k zs D' B' H' z1 z2 (S.trans s) (s2.bb.trans eb) ⟨S.new0 hD1, hb, nM, acc, hl, z3⟩
end
end Pk

/-! range of a number known in part. -/
namespace Pk
open PySem L2
open Enc (enc dep)
section
variable {C : MI} {K : PySem.W.Frag} {σ : L2.St} {B0 H0 B H : Hp} {R : Rp} {te : TE} {t : TA} {tt : TT} {tu tz : TS} {D : Ends} {p : Int → Prop} {i : Nat}
def wiR (n : Int) : TI := fun _ H R => R (Itr 0 n.toNat) H
theorem ei_wiR (n : Int) : EvI C (wiR n) σ B ((rng 0 n.toNat).map (Is K)) := fun B1 H1 e k R q => ei_rngs (K := K) _ 0 n.toNat rfl k q
theorem rng1_some (h : Ev C te σ B (SomeR p (Is K))) (hp : ∀ n, p n → -1000000000000000000 ≤ n ∧ n ≤ 1000000000000000000) (k : Ok C B H) (Q : It → Hp → Prop) (q : ∀ n B2 H2, p n → Stp C B H B2 H2 → Q (Itr 0 n.toNat) H2) : iRng1 (tCons te tNil) σ H Q :=
  h B H (.refl _) k _ fun v B2 H2 s ⟨n, hn, r⟩ => by
    rw [is_int.mp r]
    have := hp n hn
    exact ⟨n, rfl, by omega, by omega, q n B2 H2 hn s⟩
theorem s_forR {g : TG} (h : Ev C te σ B (SomeR p (Is K))) (hp : ∀ n, p n → -1000000000000000000 ≤ n ∧ n ≤ 1000000000000000000) (S : Stp C B0 H0 B H) (k : ∀ n B2 H2, p n → Stp C B0 H0 B2 H2 → Stp C B H B2 H2 → tFor (wiR n) g tu D σ H2) : tFor (iRng1 (tCons te tNil)) g tu D σ H :=
  rng1_some h hp S.ok _ fun n B2 H2 hn s => k n B2 H2 hn (S.trans s) s
theorem q_forR {g : TG} (h : Ev C te σ B (SomeR p (Is K))) (hp : ∀ n, p n → -1000000000000000000 ≤ n ∧ n ≤ 1000000000000000000) (S : Stp C B0 H0 B H) (k : ∀ n B2 H2, p n → Stp C B0 H0 B2 H2 → Stp C B H B2 H2 → tSeq (tFor (wiR n) g tu) tz D σ H2) : tSeq (tFor (iRng1 (tCons te tNil)) g tu) tz D σ H :=
  s_forR (D := { D with nx := tz D }) h hp S k
theorem q_lcR {g : TG} {ti : TE} {vs : List Nat} (h : Ev C te σ B (SomeR p (Is K))) (hp : ∀ n, p n → -1000000000000000000 ≤ n ∧ n ≤ 1000000000000000000) (S : Stp C B0 H0 B H) (k : ∀ n B2 H2, p n → Stp C B0 H0 B2 H2 → Stp C B H B2 H2 → tSeq (tAsg (tLc (wiR n) g tt ti vs) (gName i)) tz D σ H2) : tSeq (tAsg (tLc (iRng1 (tCons te tNil)) g tt ti vs) (gName i)) tz D σ H := by
  unfold tSeq tAsg tLc at *
  exact rng1_some h hp S.ok _ fun n B2 H2 hn s => k n B2 H2 hn (S.trans s) s
/-- a loop over a list known in part -/
theorem s_forSL {α : Type} {P : α → Prop} {F : α → Rp} {g : TG} (h : Ev C te σ B (SomeR P F)) (S : Stp C B0 H0 B H) (k : ∀ x v B2 H2, P x → (F x).P v B2 → Stp C B0 H0 B2 H2 → Stp C B H B2 H2 → tFor (iList K (tC v)) g tu D σ H2) : tFor (iList K te) g tu D σ H :=
  h B H (.refl _) S.ok _ fun v B2 H2 s ⟨x, hx, r⟩ => k x v B2 H2 hx r (S.trans s) s
theorem q_forSL {α : Type} {P : α → Prop} {F : α → Rp} {g : TG} (h : Ev C te σ B (SomeR P F)) (S : Stp C B0 H0 B H) (k : ∀ x v B2 H2, P x → (F x).P v B2 → Stp C B0 H0 B2 H2 → Stp C B H B2 H2 → tSeq (tFor (iList K (tC v)) g tu) tz D σ H2) : tSeq (tFor (iList K te) g tu) tz D σ H :=
  s_forSL (D := { D with nx := tz D }) h S k
theorem ev_val {v : V} (r : R.P v B) : Ev C (tC v) σ B R := fun B1 H1 e k Q q => q v B1 H1 k.refl (R.mono e r)
/-- a value drawn, as a statement's value -/
theorem int_flat {p : Int → Prop} {v : V} (r : (SomeR p (Is K)).P v B) : ∃ x, p x ∧ v = .int x := let ⟨x, h, e⟩ := r; ⟨x, h, is_int.mp e⟩
end
end Pk

/-! set of a long list of tuples of ints that has few different ones, sorted of it. -/
namespace Pk
open PySem PySem.Spec PyProof.Rows L2
/-- few different ones -/
def Few (ks : List (Addr × List Int)) : Prop := ∀ L : List (Addr × List Int), (∀ p ∈ L, p ∈ ks) → (L.map Prod.snd).Nodup → L.length < 63
structure Has (ks : List (Addr × List Int)) (i : Nat) (L : List (Addr × List Int)) : Prop where
  sub : ∀ p ∈ L, p ∈ ks.take i
  all : ∀ p ∈ ks.take i, p.2 ∈ L.map Prod.snd
section
variable {ks L L' : List (Addr × List Int)} {i : Nat} {x : Addr × List Int}
theorem tk1 {α : Type} {l : List α} {i : Nat} {x : α} (h : l[i]? = some x) : l.take (i + 1) = l.take i ++ [x] := by
  obtain ⟨h1, h2⟩ := List.getElem?_eq_some_iff.mp h
  rw [List.take_succ_eq_append_getElem h1, h2]
theorem Has.old (g : Has ks i L) (h : ks[i]? = some x) (m : x.2 ∈ L.map Prod.snd) : Has ks (i + 1) L := by
  constructor
  · intro p hp
    rw [tk1 h]; exact List.mem_append.mpr (.inl (g.sub p hp))
  · intro p hp
    rw [tk1 h, List.mem_append, List.mem_singleton] at hp
    rcases hp with z | rfl
    · exact g.all p z
    · exact m
theorem Has.add (g : Has ks i L) (h : ks[i]? = some x) (pm : L'.Perm (x :: L)) : Has ks (i + 1) L' := by
  constructor
  · intro p hp
    rw [tk1 h]
    rcases List.mem_cons.mp (pm.mem_iff.mp hp) with rfl | z
    · exact List.mem_append.mpr (.inr (by simp))
    · exact List.mem_append.mpr (.inl (g.sub p z))
  · intro p hp
    have q := (pm.map Prod.snd).mem_iff (a := p.2)
    rw [q, List.map_cons, List.mem_cons]
    rw [tk1 h, List.mem_append, List.mem_singleton] at hp
    rcases hp with z | rfl
    · exact .inr (g.all p z)
    · exact .inl rfl
end
section
variable {P : Program} {w : World} {A : Around} {E : Value → Shared → Prop} {s : Shared}
/-- the loop of set.update over such a list -/
theorem upd_loop {I : Addr} {fp wr : List Addr} {G : Array GenState → Array GenState → Prop} {n : Nat} {Pv : Nat → Value → Prop} {St : Nat → Shared → Prop} {R : Result → Shared → Prop} (W : WalksS P w A.in1 I fp wr G n Pv St) (S : Addr) (hf : S ∉ fp)
    {ks : List (Addr × List Int)} (few : Few ks) (hn : n = ks.length) (hv : ∀ i v, Pv i v → ∃ p, ks[i]? = some p ∧ v = .ref p.1) (h0 : Heap) (ht : ∀ p ∈ ks, IsT P w h0 p.2 p.1) (z0 : h0.get? S = none) (zw : ∀ b ∈ wr, h0.get? b = none) (un : A.in1.units < cLine) (k : Nat) :
    ∀ (i : Nat) (s : Shared), n - i = k → i ≤ n → St i s → (∀ b o, h0.get? b = some o → s.heap.get? b = some o) → (∃ L es ep t, SetTR P w s.heap S L es ep t ∧ Has ks i L) →
      (∀ s' L es ep t, Moved (S :: wr) G s s' → SetTR P w s'.heap S L es ep t → Has ks n L → (∀ b o, h0.get? b = some o → s'.heap.get? b = some o) → R (.ok (.ret .none)) s') → codeAny (model P w) A (.builtin "set.update.loop" ⟨[.ref S, .ref I], []⟩) R s := by
  have nw : S ∉ wr := fun z => hf (W.sub _ z)
  have up : ∀ b ∈ wr, b ∈ S :: wr := fun b hb => List.mem_cons.mpr (.inr hb)
  have kp : ∀ {s s' : Shared}, Moved wr G s s' → (∀ b o, h0.get? b = some o → s.heap.get? b = some o) → ∀ b o, h0.get? b = some o → s'.heap.get? b = some o := by
    intro s s' mv q b o e
    refine mv.heap b o (fun hb => ?_) (q b o e)
    rw [zw b hb] at e
    cases e
  have inks : ∀ {L : List (Addr × List Int)} {i : Nat}, Has ks i L → ∀ p ∈ L, p ∈ ks := fun g p hp => List.mem_of_mem_take (g.sub p hp)
  induction k with
  | zero =>
    rintro i s e hi st q ⟨L, es, ep, t, hS, g⟩ fin
    obtain rfl : i = n := by omega
    apply codeAny_builtin F.entry_set_update_loop
    rw [Around.under_plainId F.plain_set_update_loop _]
    show wpAny _ A.in1 (pyNext (.ref I) >>= _) _ _ s
    apply wpAny_bind
    apply W.done s _ _ st
    intro s' mv
    have q' := kp mv q
    exact wpAny_pure (fin s' L es ep t (mv.mono up) (hS.keep (fun o e => mv.heap S o nw e) fun p hp => isT_keep (ht p (inks g p hp)) q') g q')
  | succ k ih =>
    rintro i s e hi st q ⟨L, es, ep, t, hS, g⟩ fin
    have lt : i < n := by omega
    apply codeAny_builtin F.entry_set_update_loop
    rw [Around.under_plainId F.plain_set_update_loop _]
    show wpAny _ A.in1 (pyNext (.ref I) >>= _) _ _ s
    apply wpAny_bind
    apply W.item i s _ _ lt st
    intro v s' hP st' mv
    obtain ⟨p, hp, rfl⟩ := hv i v hP
    have q' := kp mv q
    have hS' : SetTR P w s'.heap S L es ep t := hS.keep (fun o e => mv.heap S o nw e) fun r hr => isT_keep (ht r (inks g r hr)) q'
    have hx : IsT P w s'.heap p.2 p.1 := isT_keep (ht p (List.mem_of_getElem? hp)) q'
    show wpAny _ A.in1 (holding [Value.ref p.1] (setAdd S (.ref p.1)) >>= _) _ _ s'
    apply wpAny_bind
    apply wpAny_holding
    unfold setAdd
    apply wpAny_holding
    apply wpAny_bind
    apply wpAny_pyHash_tuple un hx
    have small : L.length + 1 < 64 := by
      have := few L (inks g) hS'.nd
      omega
    apply add_at (s := { s' with toks := s'.toks + (p.2.length + 1) }) hS' hx un small
    intro b h' L' es' ep' t' sb hS2 c1 c2
    have g' : Has ks (i + 1) L' := by
      by_cases c : p.2 ∈ L.map Prod.snd
      · have c1 := c1 c
        subst c1
        exact g.old hp c
      · exact g.add hp (c2 c)
    have q2 : ∀ b o, h0.get? b = some o → h'.get? b = some o := by
      intro b o e
      have nb : b ≠ S := fun z => by subst z; rw [z0] at e; cases e
      exact (sb.2 b nb).trans (q' b o e)
    refine wpAny_pure ⟨plainId_quiet F.plain_set_update_loop _, ?_⟩
    apply ih (i + 1) _ (by omega) lt ?st q2 ⟨L', es', ep', t', hS2, g'⟩ ?fin
    case st =>
      refine W.frame _ s' _ _ st' (Nat.le_add_right _ _) fun b hb o e => ?_
      have nb : b ≠ S := fun z => by subst z; exact hf hb
      rw [sb.2 b nb]; exact e
    case fin =>
      intro s2 L2 es2 ep2 t2 mv2 hS3 g3 q3
      refine fin s2 L2 es2 ep2 t2 (Moved.trans W.gtrans ((mv.mono up).then_heap (Nat.le_add_right _ _) fun b o hb e => ?_) mv2) hS3 g3 q3
      have nb : b ≠ S := fun z => by subst z; exact hb (by simp)
      rw [sb.2 b nb]; exact e
abbrev nset (w : World) : Obj := { cls := .type "set", dict := none, data := .set #[] 0 (.fresh 0 0 (!w.params.followText "set-order")) }
theorem call_setM {l : Addr} {items : Array Value} {ks : List (Addr × List Int)} (few : Few ks) {Q : Value → Shared → Prop} (hh : A.handled = none) (hl : s.heap.IsList l items) (hit : items.toList = ks.map fun p => Value.ref p.1)
    (hk : ∀ p ∈ ks, IsT P w s.heap p.2 p.1) (hu : A.units + 3 < cLine)
    (h : ∀ (h' : Heap) (tk : Nat) L es ep t, SetTR P w h' s.heap.objs.size L es ep t → Has ks ks.length L → (∀ b o, s.heap.get? b = some o → h'.get? b = some o) → Q (.ref s.heap.objs.size) { s with heap := h', toks := tk }) :
    wpAny (model P w) A (call (.type "set") [.ref l]) Q E s := by
  have nitems : items.size = ks.length := by rw [← Array.length_toList, hit, List.length_map]
  obtain ⟨c, tl, hmro⟩ := F.called_set.mro
  have made := F.called_set.made
  have hsub := F.called_set.sub
  apply wpAny_call
  apply codeAny_of_tree
  show wpAny _ _ (callAny (.type "set") _) _ _ _
  refine wpAny_pure ⟨?q0, codeAny_builtin F.entry_type_call ?run⟩
  case q0 => exact Code.quiet_builtin _ (by decide +kernel)
  rw [Around.under_plain (weight_type_call_type "set" [.ref l] []) rfl]
  have k1 := F.called_set.notType
  have k2 := F.called_set.canCreate
  have k3 := F.typeCall_set_1 (.ref l)
  repeat (any_goals (first | wp_step | assumption))
  apply codeAny_mono (code_set_led1 (.ref l) (E := E) (Q₁ := fun obj t => obj = .ref s.heap.objs.size ∧ t = { s with heap := s.heap.push (nset w) }) ⟨rfl, rfl⟩)
  intro r t1 hr
  match r, hr with
  | .error e, hr => exact hr
  | .ok .next, hr => exact hr.elim
  | .ok .brk, hr => exact hr.elim
  | .ok .cont, hr => exact hr.elim
  | .ok (.ret obj), hr =>
    obtain ⟨rfl, rfl⟩ := hr
    have at0 : (s.heap.push (nset w)).get? s.heap.objs.size = some (nset w) := Heap.get?_push_size _ rfl
    have ty : Shared.TypeIs { s with heap := s.heap.push (nset w) } (.ref s.heap.objs.size) "set" := ⟨_, at0, rfl⟩
    have k4 := F.called_set.init.lookup
    have k5 := F.called_set.init.bind (.ref s.heap.objs.size)
    repeat (any_goals (first | wp_step | assumption))
    apply codeAny_mono (codeAny_call_builtin (R := wants (fun r t2 => r = .none ∧ ∃ h' tk L es ep t, t2 = { s with heap := h', toks := tk } ∧ SetTR P w h' s.heap.objs.size L es ep t ∧ Has ks ks.length L ∧ (∀ b o, s.heap.get? b = some o → h'.get? b = some o)) E)
      F.called_set.init.plain F.entry_set_init (check_set_init_1 ty ?body))
    case body =>
      obtain ⟨⟨c1, d1, x1, s1⟩, hol, hcl, nl, hdl⟩ := hl
      simp only at hcl hdl
      subst hcl hdl
      have k6 := F.sub_list_set
      have k7 := F.sub_list_frozenset
      have k8 : (Value.type "list" == Value.type "dict") = false := by decide
      have k9 : (s.heap.push (nset w)).get? l = some { cls := .type "list", dict := d1, data := .seq items nl, slots := s1 } := Heap.get?_push_of_some _ hol
      have hl1 : (s.heap.push (nset w)).IsList l items := ⟨_, k9, rfl, nl, rfl⟩
      have tyl : Shared.TypeIs { s with heap := s.heap.push (nset w) } (.ref l) "list" := ⟨_, k9, rfl⟩
      unfold Builtin.«set.__init__» noKeywords Builtin.Frozenset.updateFrom
      generalize hZ : pyIter = Z
      wp_walk
      subst hZ
      apply wpAny_pyIter_list hl1
      apply wpAny_bind
      apply wpAny_runValue
      have lts : l < s.heap.objs.size := Heap.lt_size hol
      have h3 : A.in1.in1.in1.handled = none := by simp [hh]
      have sz : (s.heap.push (nset w)).objs.size = s.heap.objs.size + 1 := Heap.size_push ..
      have nlI : l ≠ (s.heap.push (nset w)).objs.size := by
        rw [sz]
        exact Nat.ne_of_lt (Nat.lt_succ_of_lt lts)
      have nS : s.heap.objs.size ∉ [(s.heap.push (nset w)).objs.size, l] := by
        rw [sz]
        simp only [List.mem_cons, List.not_mem_nil, or_false, not_or]
        exact ⟨Nat.ne_of_lt (Nat.lt_succ_self _), Nat.ne_of_gt lts⟩
      have val : ∀ (i : Nat) (v : Value), items[i]? = some v → ∃ p, ks[i]? = some p ∧ v = .ref p.1 := by
        intro i v hv
        have q : (ks.map fun p => Value.ref p.1)[i]? = some v := by rw [← hit, Array.getElem?_toList]; exact hv
        rw [List.getElem?_map] at q
        cases hq : ks[i]? with
        | none => rw [hq] at q; cases q
        | some p => rw [hq] at q; cases q; exact ⟨p, rfl, rfl⟩
      have off : ∀ b, s.heap.objs.size ≤ b → s.heap.get? b = none := by
        intro b hb
        cases q : s.heap.get? b with
        | none => rfl
        | some o => exact absurd (Heap.lt_size q) (Nat.not_lt.mpr hb)
      apply upd_loop ((Walks.list h3 _ l nlI items).toS) s.heap.objs.size nS few nitems val s.heap hk (off _ (Nat.le_refl _)) (fun b hb => off b (by rw [List.mem_singleton.mp hb, sz]; exact Nat.le_succ _)) hu (items.size - 0) 0 _ (by omega) (Nat.zero_le _)
        ⟨⟨_, Heap.get?_push_size _ rfl, rfl, rfl⟩, hl1.push _⟩ (fun b o e => Heap.get?_push_of_some _ (Heap.get?_push_of_some _ e)) ?s0 ?fin
      case s0 =>
        exact ⟨[], #[], 0, _, setTR_fresh (Heap.get?_push_of_some _ at0), ⟨fun p hp => (nomatch hp), fun p hp => by simp at hp⟩⟩
      case fin =>
        intro s' L es ep t mv hS' g' kpp
        obtain ⟨h', g2, d', tk', os'⟩ := s'
        obtain rfl : g2 = s.gens := mv.gens
        obtain rfl : d' = s.drawn := mv.drawn
        obtain rfl : os' = s.os := mv.os
        show wpAny _ _ _ _ _ _
        apply wpAny_pure
        show wpAny _ _ (ret Value.none) _ _ _
        rw [nitems] at g'
        exact wpAny_pure ⟨rfl, h', tk', L, es, ep, t, rfl, hS', g', kpp⟩
    intro r2 t2 hr2
    match r2, hr2 with
    | .error e, hr2 => exact hr2
    | .ok .next, hr2 => exact hr2.elim
    | .ok .brk, hr2 => exact hr2.elim
    | .ok .cont, hr2 => exact hr2.elim
    | .ok (.ret r), ⟨e0, h', tk, L, es, ep, t, e1, hS', g', kpp⟩ =>
      subst e0 e1
      repeat (any_goals (first | wp_step | assumption))
      exact h _ _ _ _ _ _ hS' g' kpp
theorem reads_ints {h : Heap} : ∀ {k : List Int} {vs : List Value}, IntsAre vs k → ReadsAll h vs (k.map .int) []
  | _, _, .nil => .nil
  | _, _, .cons n t r => .cons (.int n t) (reads_ints r)
theorem reads_tup {h : Heap} {k : List Int} {b : Addr} (x : IsT P w h k b) : Reads h (.ref b) (.tuple (k.map .int)) [] := by
  obtain ⟨o, items, n, ho, hc, hd, hi⟩ := x
  exact .tuple ho hc hd (reads_ints (ints_of_items hi))
def encT (q : Addr × List Int) : PyData := .tuple (q.2.map .int)
theorem alike_ints : ∀ a b : List Int, PySem.W.alikeAll (a.map .int) (b.map .int) = true
  | [], _ => by simp [PySem.W.alikeAll]
  | _ :: _, [] => by simp [PySem.W.alikeAll]
  | x :: a, y :: b => by simp only [List.map_cons, PySem.W.alikeAll, PySem.W.alike, alike_ints a b, Bool.and_self]
theorem depth_ints : ∀ a : List Int, PyData.depthAll (a.map .int) = 0
  | [] => by simp [PyData.depthAll]
  | x :: a => by simp [PyData.depthAll, PyData.depth, depth_ints a]
theorem each_ref {L : List (Addr × List Int)} : PySem.W.EachIs (fun v b => v = Value.ref b.1) (L.map fun q => Value.ref q.1) L := by
  induction L with
  | nil => exact .nil
  | cons q L ih => exact .cons rfl ih
theorem of_each_ref : ∀ {out : List Value} {L : List (Addr × List Int)}, PySem.W.EachIs (fun v b => v = Value.ref b.1) out L → out = L.map fun q => Value.ref q.1
  | _, _, .nil => rfl
  | _, _, .cons h t => by rw [List.map_cons, ← of_each_ref t, h]
theorem perm_refs {L : List (Addr × List Int)} : ∀ {vs : List Value}, vs.Perm (L.map fun q => Value.ref q.1) → ∃ L1 : List (Addr × List Int), L1.Perm L ∧ vs = L1.map fun q => Value.ref q.1 := by
  intro vs pm
  generalize e : (L.map fun q => Value.ref q.1) = us at pm
  induction pm generalizing L with
  | nil => exact ⟨[], by have : L = [] := by simpa using e
                         rw [this], rfl⟩
  | @cons x l1 l2 h ih =>
    cases L with
    | nil => cases e
    | cons q L =>
      injection e with e1 e2
      have e1 : Value.ref q.1 = x := e1
      obtain ⟨L1, p1, p2⟩ := ih e2
      exact ⟨q :: L1, p1.cons q, by rw [List.map_cons, ← p2, ← e1]⟩
  | @swap x y l =>
    match L, e with
    | q :: r :: L, e =>
      injection e with e1 e2
      injection e2 with e2 e3
      have e1 : Value.ref q.1 = x := e1
      have e2 : Value.ref r.1 = y := e2
      exact ⟨r :: q :: L, .swap q r L, by rw [List.map_cons, List.map_cons, ← e1, ← e2, e3]⟩
  | @trans l1 l2 l3 h1 h2 ih1 ih2 =>
    obtain ⟨L2, p1, p2⟩ := ih2 e
    obtain ⟨L1, p3, p4⟩ := ih1 p2.symm
    exact ⟨L1, p3.trans p1, p4⟩
/-- sorted of such a set -/
theorem sorted_setM {a : Addr} {L : List (Addr × List Int)} {es : Array (Int × Value)} {ep : Nat} {t : SetTable} {Q : Value → Shared → Prop} (R : SetTR P w s.heap a L es ep t) (hh : A.handled = none) (hu : A.units + 20 < cLine) (ne : ∀ p ∈ L, p.2 ≠ [])
    (hQ : ∀ s' p (out : Array Value) (c : Nat) (L1 : List (Addr × List Int)), (∀ b o, s.heap.get? b = some o → s'.heap.get? b = some o) → s'.gens = s.gens → s'.os = s.os → s.heap.objs.size ≤ p → s'.heap.get? p = some (seqObj "list" out c) →
      L1.Perm L → out.toList = (L1.mergeSort (PySem.W.dataLe false encT)).map (fun q => Value.ref q.1) → Q (.ref p) s') : wpAny (model P w) A (call (.builtin "sorted") [.ref a]) Q E s := by
  obtain ⟨o, ho, ex, hd⟩ := R.ob
  have nes := R.size
  have few := R.few
  apply Calls.call_function_entry kind_sorted plain_sorted entry_sorted (args_sorted1 _)
  unfold Builtin.«sorted»
  apply wpAny_bind (m := checkCount "sorted" 1 1 _)
  apply wpAny_pure
  apply wpAny_bind
  apply collect_set (A := A.in1) hh ⟨o, ho, ex.1, hd⟩ R.fits (by unfold scanBound; omega) R.tab.ris R.led
  intro s1 vs k1 hz g1 o1 pm
  have rows : es.toList.map Prod.snd = L.map fun q => Value.ref q.1 := by
    rw [R.rows]
    unfold rowsOf
    rw [List.map_map]
    rfl
  have pm2 : vs.Perm (L.map fun q => Value.ref q.1) := by rw [← rows]; exact pm
  obtain ⟨L1, pL, evs⟩ := perm_refs pm2
  have nL1 : L1.length = L.length := pL.length_eq
  have nvs : vs.length = L.length := by rw [evs, List.length_map, nL1]
  apply wpAny_bind
  refine wpAny_newList ?_ (by rw [nvs, sizeLine_eq]; omega)
  have at1 : (s1.heap.push (seqObj "list" vs.toArray 0)).get? s1.heap.objs.size = some (seqObj "list" vs.toArray 0) := Heap.get?_push_size _ rfl
  have rd : ∀ q ∈ L1, Reads (s1.heap.push (seqObj "list" vs.toArray 0)) (.ref q.1) (encT q) [] := fun q hq => reads_tup (P := P) (w := w) (isT_keep (R.tup q (pL.mem_iff.mp hq)) fun b u e => Heap.get?_push_of_some _ (k1 b u e))
  have each : PySem.W.EachIs (fun v b => v = Value.ref b.1) vs L1 := by rw [evs]; exact each_ref
  have eachR : PySem.W.EachIs (fun v b => ∃ as, Reads (s1.heap.push (seqObj "list" vs.toArray 0)) v (encT b) as ∧ s1.heap.objs.size ∉ as) vs L1 := by
    have : ∀ (L2 : List (Addr × List Int)) (us : List Value), (∀ q ∈ L2, q ∈ L1) → PySem.W.EachIs (fun v b => v = Value.ref b.1) us L2 → PySem.W.EachIs (fun v b => ∃ as, Reads (s1.heap.push (seqObj "list" vs.toArray 0)) v (encT b) as ∧ s1.heap.objs.size ∉ as) us L2 := by
      intro L2 us hs e
      induction e with
      | nil => exact .nil
      | @cons v b us L2 h t ih =>
        refine .cons ⟨[], ?_, by simp⟩ (ih fun q hq => hs q (List.mem_cons_of_mem _ hq))
        rw [h]; exact rd b (hs b List.mem_cons_self)
    exact this L1 vs (fun _ h => h) each
  apply wpAny_bind
  apply wpAny_holding
  apply PySem.W.list_sort_data (s := { s1 with heap := s1.heap.push (seqObj "list" vs.toArray 0) }) (vs := vs) at1 each eachR
  · intro d hd d' hd'
    obtain ⟨b, _, rfl⟩ := List.mem_map.mp hd
    obtain ⟨b', _, rfl⟩ := List.mem_map.mp hd'
    simp only [encT, PySem.W.alike]
    exact alike_ints _ _
  · refine .inl fun d hd => ?_
    obtain ⟨b, hb, rfl⟩ := List.mem_map.mp hd
    have := ne b (pL.mem_iff.mp hb)
    cases q : b.2 with
    | nil => exact absurd q this
    | cons y ys => exact ⟨.int y, ys.map .int, by simp only [encT, q, List.map_cons]⟩
  · rw [nL1, sizeLine_eq]; omega
  · intro b _
    simp only [encT, PyData.depth, depth_ints]
    show A.in1.units + 1 + (0 + 1) < cLine
    show A.units + 1 + 1 + (0 + 1) < cLine
    omega
  intro out nout eo
  obtain ⟨c, hc⟩ := sortedHeap_at (vs := vs) (out := out.toArray) at1
  refine wpAny_pure ⟨_, rfl, hQ _ s1.heap.objs.size out.toArray c L1 (fun b u e => ?_) g1 o1 hz hc pL ?_⟩
  · have q := k1 b u e
    have hlt := Heap.lt_size q
    show (sortedHeap (s1.heap.push (seqObj "list" vs.toArray 0)) s1.heap.objs.size vs out.toArray).get? b = some u
    rw [sortedHeap_old (Nat.ne_of_lt hlt) (Nat.lt_of_lt_of_eq (Nat.lt_succ_of_lt hlt) (size_push' ..).symm)]
    exact Heap.get?_push_of_some _ q
  · exact of_each_ref eo
end
section
variable {X : Cx}
def rSetM (K : PySem.W.Frag) (P : Program) (w : World) : List V → Hp → VK → Prop := fun xs H Q => ∃ (l : Addr) (ks : List (Addr × List Int)), xs = [V.ref l] ∧ SqL K H l (ks.map fun p => V.ref p.1) ∧ (∀ p ∈ ks, SqT K H p.1 (p.2.map V.int)) ∧ Few ks ∧
  ∀ a L, H a = none → (∀ p ∈ L, p ∈ ks) → (∀ p ∈ ks, p.2 ∈ L.map Prod.snd) → (L.map Prod.snd).Nodup → Q (.ref a) (upd H a (SetTO P w a L))
theorem cr_setM (hc : X.calm = true) (hu : X.A.units + 64 < cLine) : CallR X (.type "set") (rSetM X.K X.prog X.w) := by
  rintro pins s σ H xs us Q I r ⟨l, ks, rfl, hl, hk, few, q⟩
  rw [Vals.ref1 r]
  obtain ⟨its, rv, pl, hz⟩ := I.list hl
  apply call_setM few (P := X.prog) (w := X.w) (I.ok.hd hc) pl.isList (by simpa using refs_of_vals rv) (fun p hp => I.isT (hk p hp)) (by omega)
  intro h' tk L es ep t R g k
  refine ⟨.ref s.heap.objs.size, upd H s.heap.objs.size (SetTO X.prog X.w s.heap.objs.size L), I.laid (t' := tk) k (Nat.le_refl _) (setTO_new R.t0), rfl, ?_⟩
  exact q _ L (I.hok.fresh (Nat.le_refl _)) (fun p hp => List.mem_of_mem_take (g.sub p hp)) (fun p hp => g.all p (by rw [List.take_length]; exact hp)) R.nd
def rSrtS (K : PySem.W.Frag) (P : Program) (w : World) : List V → Hp → VK → Prop := fun vs H Q => ∃ (a : Addr) (L : List (Addr × List Int)), vs = [V.ref a] ∧ H a = some (SetTO P w a L) ∧ (∀ p ∈ L, SqT K H p.1 (p.2.map V.int)) ∧ (∀ p ∈ L, p.2 ≠ []) ∧
  ∀ (L1 : List (Addr × List Int)) (p : Addr), L1.Perm L → H p = none → Q (.ref p) (upd H p (.lst ((L1.mergeSort (PySem.W.dataLe false encT)).map fun q => V.ref q.1)))
theorem cr_sortS (hc : X.calm = true) (hu : X.A.units + 64 < cLine) : CallR X (.builtin "sorted") (rSrtS X.K X.prog X.w) := by
  rintro pins s σ H vs us Q I r ⟨a, L, rfl, ha, hk, ne, q⟩
  have T0 : SetT0 X.prog X.w s.heap a L := (I.hok a _ ha).1
  obtain ⟨es, ep, t, R⟩ := T0.full fun p hp => I.isT (hk p hp)
  rw [Vals.ref1 r]
  apply sorted_setM R (I.ok.hd hc) (by omega) ne
  intro s' p out c L1 k g o hp hg pm hout
  have hn : H p = none := I.hok.fresh hp
  have len : ((L1.mergeSort (PySem.W.dataLe false encT)).map fun q => V.ref q.1).length ≤ sizeLine := by
    rw [List.length_map, List.length_mergeSort, pm.length_eq, sizeLine_eq]
    have := R.few
    omega
  have vals : Vals ((L1.mergeSort (PySem.W.dataLe false encT)).map fun q => V.ref q.1) out.toList := by rw [hout]; exact vals_of_refs _
  obtain ⟨h', g', d', tk', os'⟩ := s'
  obtain rfl : g' = s.gens := g
  obtain rfl : os' = s.os := o
  exact ⟨.ref p, _, I.call (ch := []) (Un.laid k hp hn) (I.hok.laid (o := .lst ((L1.mergeSort (PySem.W.dataLe false encT)).map fun q => V.ref q.1)) k hp ⟨len, out.toList, c, vals, hg⟩) I.bare (fun _ z => nomatch z), rfl, q L1 p pm hn⟩
end
end Pk

/-! != of tuples and lists that are equal: of data, of lists of the very same instances. -/
namespace Pk
open PySem PySem.Spec PyProof.Rows L2
/-- equal: as data, or lists of the same objects -/
def EqI (K : PySem.W.Frag) (H : Hp) (x y : V) : Prop := (∃ d, Dp K H x d ∧ Dp K H y d ∧ SeqAt.shaped d = true ∧ PyData.eqv d d = true) ∨
  (∃ l l' us, x = .ref l ∧ y = .ref l' ∧ SqL K H l us ∧ SqL K H l' us ∧ ∀ u ∈ us, ∃ a, u = .ref a) ∨ ∃ a, x = .ref a ∧ y = .ref a
theorem vals_same : ∀ {us : List V} {a b : List Value}, (∀ u ∈ us, ∃ a, u = .ref a) → Vals us a → Vals us b → a = b
  | [], _, _, _, .nil, .nil => rfl
  | u :: us, _, _, h, .cons r1 t1, .cons r2 t2 => by
    obtain ⟨p, rfl⟩ := h u List.mem_cons_self
    rw [vals_same (fun v hv => h v (List.mem_cons_of_mem _ hv)) t1 t2]
    have e1 := (show _ = Value.ref p from r1)
    have e2 := (show _ = Value.ref p from r2)
    rw [e1, e2]
section
variable {X : Cx} {pins : List (Addr × Obj)} {σ : L2.St} {H : Hp} {s : Shared}
theorem eqI_run (I : Inv X pins σ H s) {A : Around} (hu : A.units + 70 < cLine) {x y : V} {v u : Value} (h : EqI X.K H x y) (rx : RelV x v) (ry : RelV y u) : SeqAt.EqAt A s v u true := by
  rcases h with ⟨d, h1, h2, sh, eq⟩ | ⟨l, l', us, rfl, rfl, h1, h2, hr⟩ | ⟨a, rfl, rfl⟩
  · obtain ⟨as, r1⟩ := Dp.reads I d x v h1 rx
    obtain ⟨bs, r2⟩ := Dp.reads I d y u h2 ry
    have hd := SeqAt.depth_of_shaped sh
    have e := SeqAt.eqAt_reads d d A s v u as bs r1 r2 (SeqAt.canLay_of_shaped sh) (SeqAt.canLay_of_shaped sh) (by rw [Nat.min_self]; omega)
    rw [eq] at e
    exact e
  · cases (show v = Value.ref l from rx)
    cases (show u = Value.ref l' from ry)
    by_cases e : l = l'
    · subst e; exact SeqAt.EqAt.same _
    · obtain ⟨a, r1, p1, _⟩ := I.list h1
      obtain ⟨b, r2, p2, _⟩ := I.list h2
      have ab := vals_same hr r1 r2
      subst ab
      have rc := SeqAt.RcAt.lists (A := A) (s := s) (e := fun _ => true) p1.isList p2.isList rfl (by omega) fun j j1 j2 => SeqAt.EqAt.same _
      rw [show ((List.range a.toArray.size).all fun _ => true) = true from List.all_eq_true.mpr fun _ _ => rfl] at rc
      exact SeqAt.EqAt.of_refs e rc
  · cases (show v = Value.ref a from rx)
    cases (show u = Value.ref a from ry)
    exact SeqAt.EqAt.same _
theorem eqI_all (I : Inv X pins σ H s) {A : Around} (hu : A.units + 70 < cLine) : ∀ {xs ys : List V} {us ws : List Value}, Paired (EqI X.K H) xs ys → Vals xs us → Vals ys ws → ∀ j (h1 : j < us.length) (h2 : j < ws.length), SeqAt.EqAt A s us[j] ws[j] true
  | _, _, _, _, .nil, .nil, _, j, h1, _ => absurd h1 (Nat.not_lt_zero j)
  | _, _, _, _, .cons h t, .cons r1 t1, .cons r2 t2, 0, _, _ => eqI_run I hu h r1 r2
  | _, _, _, _, .cons h t, .cons r1 t1, .cons r2 t2, j + 1, h1, h2 => eqI_all I hu t t1 t2 j (Nat.lt_of_succ_lt_succ h1) (Nat.lt_of_succ_lt_succ h2)
/-- (a, b, ..) != (c, d, ..), [a, ..] != [b, ..] of equals -/
def rNeI (K : PySem.W.Frag) : R2 := fun x y H Q => ∃ a b xs ys, x = .ref a ∧ y = .ref b ∧ ((SqT K H a xs ∧ SqT K H b ys) ∨ (SqL K H a xs ∧ SqL K H b ys)) ∧ Paired (EqI K H) xs ys ∧ Q (.bl false) H
theorem op_neI (hu : X.A.units + 80 < cLine) : OpR X (compareOp .NotEq) (rNeI X.K) := by
  rintro pins s σ H x y v u Q I rx ry ⟨a, b, xs, ys, rfl, rfl, hs, hp, q⟩
  cases (show v = Value.ref a from rx)
  cases (show u = Value.ref b from ry)
  have hl := hp.pkLen
  rcases hs with ⟨h1, h2⟩ | ⟨h1, h2⟩
  · obtain ⟨us, r1, ⟨o1, e1, c1, n1, d1⟩, _⟩ := I.tuple h1
    obtain ⟨ws, r2, ⟨o2, e2, c2, n2, d2⟩, _⟩ := I.tuple h2
    have hsz : us.length = ws.length := by rw [← r1.length, ← r2.length]; exact hl
    have rc := SeqAt.RcNeAt.tuples (A := X.A) (s := s) (e := fun _ => true) ⟨o1, e1, c1, n1, d1⟩ ⟨o2, e2, c2, n2, d2⟩ (by omega) fun j j1 j2 => by
      have := eqI_all I (A := X.A.in1) (by show X.A.units + 1 + 70 < cLine; omega) hp r1 r2 j (by simpa using j1) (by simpa using j2)
      simpa using this
    refine rc _ _ _ _ ?_
    have : (!((List.range (min us.toArray.size ws.toArray.size)).all (fun _ => true) && us.toArray.size == ws.toArray.size)) = false := by
      rw [show ((List.range (min us.toArray.size ws.toArray.size)).all fun _ => true) = true from List.all_eq_true.mpr fun _ _ => rfl]
      simp [hsz]
    rw [this]
    exact ⟨.bl false, H, I, rfl, q⟩
  · obtain ⟨us, r1, p1, _⟩ := I.list h1
    obtain ⟨ws, r2, p2, _⟩ := I.list h2
    have hsz : us.length = ws.length := by rw [← r1.length, ← r2.length]; exact hl
    have rc := SeqAt.RcNeAt.lists (A := X.A) (s := s) (e := fun _ => true) p1.isList p2.isList (by simpa using hsz) (by omega) fun j j1 j2 => by
      have := eqI_all I (A := X.A.in1) (by show X.A.units + 1 + 70 < cLine; omega) hp r1 r2 j (by simpa using j1) (by simpa using j2)
      simpa using this
    refine rc _ _ _ _ ?_
    have : (!((List.range us.toArray.size).all (fun _ => true))) = false := by
      rw [show ((List.range us.toArray.size).all fun _ => true) = true from List.all_eq_true.mpr fun _ _ => rfl]; rfl
    rw [this]
    exact ⟨.bl false, H, I, rfl, q⟩
theorem u80 {k : Nat} (r : Room k X.A) : X.A.units + 80 < cLine := by have := r.un; omega
end
end Pk

/-! sorted(x, reverse=b) of a list or a tuple of ints. -/
namespace Pk
open PySem PySem.Spec PyProof.Rows L2
theorem each_int : ∀ {vs : List Value} {ns : List Int}, IntsAre vs ns → PySem.W.EachIs (fun v n => ∃ t, v = Value.int n t) vs ns
  | _, _, .nil => .nil
  | _, _, .cons n t r => .cons ⟨t, rfl⟩ (each_int r)
theorem of_each_int : ∀ {out : List Value} {ns : List Int}, PySem.W.EachIs (fun v n => ∃ t, v = Value.int n t) out ns → Vals (ns.map V.int) out
  | _, _, .nil => .nil
  | _, _, .cons h t => .cons h (of_each_int t)
section
variable {P : Program} {w : World} {A : Around} {E : Value → Shared → Prop} {s : Shared}
theorem sorted_intsB {a : Addr} {T : String} {o : Obj} {vs : List Value} {n : Nat} {ns : List Int} {b : Bool} {Q : Value → Shared → Prop} (hT : T = "list" ∨ T = "tuple") (ho : s.heap.get? a = some o) (hc : o.cls = .type T) (hd : o.data = .seq vs.toArray n) (hi : IntsAre vs ns) (hz : vs.length ≤ sizeLine) (hu : A.units + 20 < cLine)
    (hQ : ∀ s' p (out : Array Value) (c : Nat), (∀ b o, s.heap.get? b = some o → s'.heap.get? b = some o) → s'.gens = s.gens → s'.os = s.os → s.heap.get? p = none → s'.heap.get? p = some (seqObj "list" out c) →
      Vals ((ns.mergeSort (PySem.W.dataLe b PyData.int)).map V.int) out.toList → Q (.ref p) s') : wpAny (model P w) A (call (.builtin "sorted") [.ref a] [(Str.ofString "reverse", .bool b)]) Q E s := by
  have nl : vs.length = ns.length := hi.length
  apply call_function_entry_kw kind_sorted plain_sorted entry_sorted (args_sorted_rev _ _)
  unfold Builtin.«sorted»
  apply wpAny_bind (m := checkCount "sorted" 1 1 _)
  apply wpAny_pure
  apply wpAny_bind
  apply wpAny_collect_seq a hT ho hc hd (hsz := by simpa using hz)
  intro h1 k1
  apply wpAny_bind
  refine wpAny_newList ?_ (by simpa using hz)
  have at1 : (h1.push (seqObj "list" vs.toArray 0)).get? h1.objs.size = some (seqObj "list" vs.toArray 0) := Heap.get?_push_size _ rfl
  have eachR : PySem.W.EachIs (fun v m => ∃ as, Reads (h1.push (seqObj "list" vs.toArray 0)) v (PyData.int m) as ∧ h1.objs.size ∉ as) vs ns := by
    refine (each_int hi).mono fun v m ⟨t, e⟩ => ?_
    rw [e]
    exact ⟨[], .int m t, by simp⟩
  apply wpAny_bind
  apply wpAny_holding
  apply PySem.W.list_sort_rev_data (s := { s with heap := h1.push (seqObj "list" vs.toArray 0) }) (vs := vs) (n := 0) (b := b) at1 (each_int hi) eachR
  · intro d hd d' hd'
    obtain ⟨x, _, rfl⟩ := List.mem_map.mp hd
    obtain ⟨y, _, rfl⟩ := List.mem_map.mp hd'
    simp [PySem.W.alike]
  · refine .inr fun d hd => ?_
    obtain ⟨x, _, rfl⟩ := List.mem_map.mp hd
    exact ⟨by simp, by simp⟩
  · rw [← nl]; exact hz
  · intro x _
    simp only [PyData.depth]
    show A.units + 1 + 1 + 0 < cLine
    omega
  intro out nout eo
  obtain ⟨c, hc2⟩ := sortedHeap_at (vs := vs) (out := out.toArray) at1
  have sz : s.heap.get? h1.objs.size = none := by
    cases q : s.heap.get? h1.objs.size with
    | none => rfl
    | some o => exact absurd (Heap.lt_size (k1 _ _ q)) (Nat.lt_irrefl _)
  refine wpAny_pure ⟨_, rfl, hQ _ h1.objs.size out.toArray c (fun b u e => ?_) rfl rfl sz hc2 (of_each_int eo)⟩
  have q := k1 b u e
  have hlt := Heap.lt_size q
  show (sortedHeap (h1.push (seqObj "list" vs.toArray 0)) h1.objs.size vs out.toArray).get? b = some u
  rw [sortedHeap_old (Nat.ne_of_lt hlt) (Nat.lt_of_lt_of_eq (Nat.lt_succ_of_lt hlt) (size_push' ..).symm)]
  exact Heap.get?_push_of_some _ q
end
def rListT : List V → Hp → VK → Prop := fun xs H Q => ∃ d kvs, xs = [V.ref d] ∧ Rd H d (.dT kvs) ∧ ∀ p bs, H p = none → IsKeys H kvs bs → Q (.ref p) (upd H p (.lst (bs.map V.ref)))
def rSrtB (K : PySem.W.Frag) (b : Bool) : List V → List V → Hp → VK → Prop := fun vs zs H Q => ∃ (a : Addr) (ns : List Int), vs = [V.ref a] ∧ zs = [.bl b] ∧ (H a = some (.lst (ns.map V.int)) ∨ H a = some (.tup (ns.map V.int))) ∧
  ∀ p : Addr, H p = none → Q (.ref p) (upd H p (.lst ((ns.mergeSort (PySem.W.dataLe b PyData.int)).map V.int)))
section
variable {X : Cx}
theorem cr_sortB {b : Bool} (hu : X.A.units + 64 < cLine) : CallRK X (.builtin "sorted") [Str.ofString "reverse"] (rSrtB X.K b) := by
  intro pins s σ H vs zs us ws Q I r rz h
  obtain ⟨a, ns, rfl, rfl, ha, q⟩ := h
  obtain rfl := Vals.ref1 r
  obtain ⟨w1, rfl, e1⟩ := vals1 rz
  obtain rfl : w1 = Value.bool b := e1
  obtain ⟨T, o, its, n, hT, ho, hc, hd, hi, hz⟩ : ∃ (T : String) (o : Obj) (its : List Value) (n : Nat), (T = "list" ∨ T = "tuple") ∧ s.heap.get? a = some o ∧ o.cls = .type T ∧ o.data = .seq its.toArray n ∧ IntsAre its ns ∧ its.length ≤ sizeLine := by
    rcases ha with ha | ha
    · obtain ⟨hz, its, n, rv, hob⟩ := I.hok a _ ha
      exact ⟨"list", _, its, n, .inl rfl, hob, rfl, rfl, rv.ints, by rw [← rv.length]; exact hz⟩
    · obtain ⟨hz, its, rv, o, ho, hc, n, hd⟩ := I.hok a _ ha
      exact ⟨"tuple", o, its, n, .inr rfl, ho, hc, hd, rv.ints, by rw [← rv.length]; exact hz⟩
  have hlen : ((ns.mergeSort (PySem.W.dataLe b PyData.int)).map V.int).length ≤ sizeLine := by
    rw [List.length_map, List.length_mergeSort, ← hi.length]
    exact hz
  apply sorted_intsB hT ho hc hd hi hz (by omega)
  intro s' p out c k g o' hp hg pv
  have hn : H p = none := I.hok.gone hp
  obtain ⟨h', g', d', tk', os'⟩ := s'
  obtain rfl : g' = s.gens := g
  obtain rfl : os' = s.os := o'
  exact ⟨.ref p, _, I.call (ch := []) (Un.laidN k hp hn) (I.hok.laidN (o := .lst ((ns.mergeSort (PySem.W.dataLe b PyData.int)).map V.int)) k hn ⟨hlen, out.toList, c, pv, hg⟩) I.bare (fun _ z => nomatch z), rfl, q p hn⟩
theorem cr_listT (hc : X.calm = true) : CallR X (.type "list") rListT := call_list_dT hc
end
end Pk

/-! sorted(set(rows)) at once. -/
namespace Pk
open PySem PySem.Spec PyProof.Rows L2
section
variable {X : Cx}
def tUp (t : TE) : TE := fun σ H R => ∃ R0 : VK, t σ H R0 ∧ ∀ v H', R0 v H' → R v H'
theorem pe_up {e : Expr} {t : TE} (h : PE X e t) : PE X e (tUp t) := ⟨fun pins s σ H Q I ⟨R0, h0, k⟩ => thn (h.run pins s σ H R0 I h0) fun v s1 ⟨x, H1, I1, r1, q1⟩ => ⟨x, H1, I1, r1, k _ _ q1⟩⟩
def rSS (K : PySem.W.Frag) : V → Hp → VK → Prop := fun x H Q => ∃ (l : Addr) (ks : List (Addr × List Int)), x = V.ref l ∧ SqL K H l (ks.map fun p => V.ref p.1) ∧ (∀ p ∈ ks, SqT K H p.1 (p.2.map V.int)) ∧ Few ks ∧ (∀ p ∈ ks, p.2 ≠ []) ∧
  ∀ (a : Addr) (o : HO) (L : List (Addr × List Int)) (p : Addr), H a = none → p ≠ a → H p = none → (∀ p ∈ L, p ∈ ks) → (∀ p ∈ ks, p.2 ∈ L.map Prod.snd) → (L.map Prod.snd).Nodup →
    Q (.ref p) (upd (upd H a o) p (.lst ((L.mergeSort (PySem.W.dataLe false encT)).map fun q => V.ref q.1)))
def tSS (K : PySem.W.Frag) (t : TE) : TE := fun σ H Q => t σ H fun v H1 => rSS K v H1 Q
theorem sqT_new {K : PySem.W.Frag} {H : Hp} {a b : Addr} {o : HO} {xs : List V} (h : SqT K H b xs) (n : H a = none) : SqT K (upd H a o) b xs := by
  exact h.ext (Ext.upd n)
theorem pe_ss {E : Expr} {t : TE} (he : PE X E (tCB (rSrtS X.K X.prog X.w) (tCons (tCB (rSetM X.K X.prog X.w) (tCons (tUp t) tNil)) tNil))) : PE X E (tSS X.K t) := by
  refine ⟨fun pins s σ H Q I h => ?_⟩
  apply he.run pins s σ H Q I
  refine ⟨_, h, ?_⟩
  rintro v H1 ⟨l, ks, rfl, hl, hk, few, ne, q⟩
  refine ⟨l, ks, rfl, hl, hk, few, fun a L na sub all nd => ⟨a, L, rfl, upd_same .., fun p hp => sqT_new (hk p (sub p hp)) na, fun p hp => ne p (sub p hp), fun L1 p pm hp => ?_⟩⟩
  have pa : p ≠ a := fun z => by subst z; rw [upd_same] at hp; cases hp
  rw [upd_ne pa] at hp
  refine q a _ L1 p na pa hp (fun z hz => sub z (pm.mem_iff.mp hz)) (fun z hz => ((pm.map Prod.snd).mem_iff).mpr (all z hz)) ((pm.map Prod.snd).nodup_iff.mpr nd)
end
end Pk

/-! Returned lists that are changed; != of equals. -/
namespace Pk
open PySem L2
open Enc (enc dep)
section
variable {C : MI} {K : PySem.W.Frag} {σ : L2.St} {B0 H0 B H B2 H2 B' : Hp} {te ta tb : TE} {tz : TS} {D : Ends} {R R1 R2 R3 : Rp} {i j m : Nat} {v : V} {α : Type}
theorem args_val : ∀ (vs : List V) (B : Hp), Args (vs.map ValR) vs B
  | [], _ => .nil
  | _ :: vs, B => .cons rfl (args_val vs B)
theorem val_args : ∀ {vs us : List V} {B : Hp}, Args (vs.map ValR) us B → us = vs
  | [], _, _, h => by cases h; rfl
  | v :: vs, _, _, h => by
    cases h with
    | cons r t => rw [val_args t, show _ = v from r]
theorem q_parR {σ : L2.St} {H : Hp} {t : TA} {tz : TS} {D : Ends} {i j : Nat} (P : V → V → Hp → Prop) (h : ∀ Q' : List V → Hp → Prop, (∀ x y H2, P x y H2 → Q' [x, y] H2) → t σ H Q') (k : ∀ x y H2, P x y H2 → tz D ((σ.set i (some x)).set j (some y)) H2) : tSeq (tPar i j t) tz D σ H :=
  h _ fun x y H2 p => ⟨x, y, rfl, k x y H2 p⟩
theorem atI_last {α : Type} {xs : List α} {y : α} : atI (xs ++ [y]) (-1) = some y := by
  unfold atI ixN
  rw [if_neg (by decide), if_pos (by rw [List.length_append, List.length_singleton]; omega)]
  show (xs ++ [y])[(-1 + ((xs ++ [y]).length : Int)).toNat]? = some y
  rw [List.length_append, List.length_singleton, show (-1 + ((xs.length + 1 : Nat) : Int)).toNat = xs.length by omega]
  simp
/-- what is known now and was not known then is new -/
theorem Stp.isNew {a : Addr} {ys : List V} (s : Stp C B H B2 H2) (h : B a = none) (h2 : B2 a = some (.lst ys)) : H a = none ∧ ¬ C.M a := by
  have nm : ¬ C.M a := fun m => by have := s.ok.off a m; rw [h2] at this; cases this
  refine ⟨?_, nm⟩
  cases q : H a with
  | none => rfl
  | some o =>
    exfalso
    have h3 := s.hh a o nm q
    rw [s.ok.sub a _ h2] at h3
    cases h3
    have := s.nw a (by rw [q]; trivial) h
    rw [h2] at this; cases this
theorem dq_eqI {α : Type} [Enc α] {x : α} {v w : V} {H : Hp} (e : Ex B H) (h1 : (Is K x).P v B) (h2 : (Is K x).P w B) (hd : dep α ≤ 64 := by decide) : EqI K H v w :=
  .inl ⟨enc x, dq_dp e _ _ h1, dq_dp e _ _ h2, Enc.shaped x hd, (Enc.inj x x).mpr rfl⟩
/-- both are told as what is equal -/
def EqR (K : PySem.W.Frag) (R : Rp) : Prop := ∀ v w B H, Ex B H → R.P v B → R.P w B → EqI K H v w
theorem eqR_is {α : Type} [Enc α] {x : α} (hd : dep α ≤ 64 := by decide) : EqR K (Is K x) := fun v w B H e h1 h2 => dq_eqI e h1 h2 hd
theorem eqR_val {us : List V} (h : ∀ u ∈ us, ∃ a, u = .ref a) : EqR K (LstR (us.map ValR)) := fun v w B H e ⟨a, vs, h1, h2, h3⟩ ⟨b, ws, g1, g2, g3⟩ => by
  have := val_args h3
  have := val_args g3
  subst vs ws
  exact .inr (.inl ⟨a, b, us, h1, g1, rd_l (e _ _ h2), rd_l (e _ _ g2), h⟩)
theorem eqR_same (a : Addr) : EqR K (ValR (.ref a)) := fun v w B H e h1 h2 => .inr (.inr ⟨a, h1, h2⟩)
theorem args_eqI : ∀ {Rs : List Rp} {vs ws : List V} {H : Hp}, Ex B H → (∀ R ∈ Rs, EqR K R) → Args Rs vs B → Args Rs ws B → Paired (EqI K H) vs ws
  | [], _, _, _, _, _, h1, h2 => by cases h1; cases h2; exact .nil
  | R :: Rs, _, _, _, e, h, h1, h2 => by
    cases h1 with
    | cons r1 t1 =>
      cases h2 with
      | cons r2 t2 => exact .cons (h R List.mem_cons_self _ _ B _ e r1 r2) (args_eqI e (fun x hx => h x (List.mem_cons_of_mem _ hx)) t1 t2)
theorem ev_neI {Rs : List Rp} (ha : Ev C ta σ B (TupR Rs)) (hb : Ev C tb σ B (TupR Rs)) (h : ∀ R ∈ Rs, EqR K R) : Ev C (tOp (rNeI K) ta tb) σ B (Is K false) :=
  ev_op ha hb fun x y B1 H1 e k ⟨a, vs, h1, h2, h3⟩ ⟨b, ws, g1, g2, g3⟩ Q q => ⟨a, b, vs, ws, h1, g1, .inl ⟨rd_t (k.sub _ _ h2), rd_t (k.sub _ _ g2)⟩, args_eqI k.sub h h3 g3, q _ B1 H1 k.refl (.bl _)⟩
theorem ev_neIL {Rs : List Rp} (ha : Ev C ta σ B (LstR Rs)) (hb : Ev C tb σ B (LstR Rs)) (h : ∀ R ∈ Rs, EqR K R) : Ev C (tOp (rNeI K) ta tb) σ B (Is K false) :=
  ev_op ha hb fun x y B1 H1 e k ⟨a, vs, h1, h2, h3⟩ ⟨b, ws, g1, g2, g3⟩ Q q => ⟨a, b, vs, ws, h1, g1, .inr ⟨rd_l (k.sub _ _ h2), rd_l (k.sub _ _ g2)⟩, args_eqI k.sub h h3 g3, q _ B1 H1 k.refl (.bl _)⟩
theorem q_asg3S {p : α → Prop} {F1 F2 F3 : α → Rp} (h : Ev C te σ B (SomeR p fun x => TupR [F1 x, F2 x, F3 x])) (S : Stp C B0 H0 B H) (k : ∀ x v w u B2 H2, p x → Stp C B0 H0 B2 H2 → Stp C B H B2 H2 → (F1 x).P v B2 → (F2 x).P w B2 → (F3 x).P u B2 → tz D (((σ.set i (some v)).set j (some w)).set m (some u)) H2) :
    tSeq (tAsg te (gTup K 3 (gCons (gName i) (gCons (gName j) (gCons (gName m) gNil))))) tz D σ H :=
  h B H (.refl _) S.ok _ fun v B2 H2 s ⟨x, hx, r⟩ => go_triple (K := K) v B2 H2 σ _ s.ok.sub r fun σ2 ⟨a, b, c, h1, h2, h3, e⟩ => by subst e; exact k x a b c B2 H2 hx (S.trans s) s h1 h2 h3
end
end Pk
namespace Pk
open PySem L2
section
variable {C : MI} {K : PySem.W.Frag} {σ : L2.St} {B : Hp} {te : TE} {R R' : Rp} {α : Type}
theorem Ev.leB (h : Ev C te σ B R) (l : ∀ v B', Ex B B' → R.P v B' → R'.P v B') : Ev C te σ B R' := fun B1 H1 e k Q q => h B1 H1 e k Q fun v B2 H2 s r => q v B2 H2 s (l v B2 (e.trans s.bb) r)
theorem args_any : ∀ (vs : List V) (B : Hp), Args ((vs.map fun _ => ()).map fun _ : Unit => AnyR) vs B
  | [], _ => .nil
  | _ :: vs, B => .cons trivial (args_any vs B)
theorem args_refs : ∀ (bs : List Addr) (B : Hp), Args (bs.map RefR) (bs.map V.ref) B
  | [], _ => .nil
  | _ :: bs, B => .cons rfl (args_refs bs B)
theorem atI0 {α : Type} {x : α} {xs : List α} : atI (x :: xs) 0 = some x := by
  unfold atI ixN
  rw [if_pos (by decide), if_pos (by simp)]
  rfl
theorem cut1 {α : Type} (xs : List α) : cut xs (some 1) none = xs.drop 1 := by
  unfold cut
  rw [show (1 : Int) = ((1 : Nat) : Int) by rfl, HT.sIx_none, HT.sIx_nat, List.take_of_length_le (by rw [List.length_drop]; exact Nat.le_refl _)]
  by_cases h : 1 ≤ xs.length
  · rw [Nat.min_eq_left h]
  · rw [Nat.min_eq_right (by omega), List.drop_of_length_le (by omega), List.drop_of_length_le (by omega)]
end
end Pk

/-! enumerate of a list or a tuple. -/
namespace Pk
open PySem PySem.Spec PyProof.Rows L2
theorem meets_enum1 {v : Value} {o : Obj} {P : Heap → Prop} (B : Begins v o P) : Meets (Builtin.«enumerate.__new__» ⟨[.type "enumerate", v], []⟩) (fun _ R s => P s.heap ∧ R (.ok (.ret (.ref (s.heap.push o).objs.size)))
      { s with heap := (s.heap.push o).push { cls := .type "enumerate", data := .fields #[.none, .bool false, .ref s.heap.objs.size, rawInt 0, .none, .none] } }) :=
  .of_wp fun prog w A R s z => by
    obtain ⟨hp, g, d, tk, os⟩ := s
    obtain ⟨z1, z2⟩ := z
    have hsub := sub_enumerate
    have it1 : ∀ {A' : Around} {E Q : Value → Shared → Prop}, Q (.ref hp.objs.size) ⟨hp.push o, g, d, tk, os⟩ → wpAny (model prog w) A' (pyIter v) Q E ⟨hp, g, d, tk, os⟩ := fun q => B.iter prog w _ _ ⟨hp, g, d, tk, os⟩ _ z1 q
    wp_walk using it1
    refine wpAny_stack_any fun st => wpAny_pure ?_
    split
    · rename_i c _ _ _ _ _
      cases (c == Value.type "enumerate")
      · wp_walk using it1
        exact ⟨_, rfl, z2⟩
      · wp_walk using it1
        exact ⟨_, rfl, z2⟩
    · wp_walk using it1
      exact ⟨_, rfl, z2⟩
theorem enum_starts {prog : Program} {w : World} {A : Around} {E Q : Value → Shared → Prop} {s : Shared} {v : Value} {o : Obj} {P : Heap → Prop} (B : Begins v o P) (z : P s.heap)
    (q : ∀ h', IsEnum h' (s.heap.objs.size + 1) s.heap.objs.size 0 .none → h'.get? s.heap.objs.size = some o → (∀ b u, s.heap.get? b = some u → h'.get? b = some u) → Q (.ref (s.heap.objs.size + 1)) { s with heap := h' }) :
    wpAny (model prog w) A (call (.type "enumerate") [v]) Q E s := by
  apply callType_new F.called_enumerate (by decide) (F.typeCall_enumerate_1 _) (F.newCall_enumerate_1 _) (fun obj => F.args_object_init_2 obj _) F.entry_enumerate_new (meets_enum1 B)
  refine ⟨z, ?_⟩
  have e : (s.heap.push o).objs.size = s.heap.objs.size + 1 := Heap.size_push ..
  show _ ∧ _
  rw [e]
  let eo : Obj := { cls := .type "enumerate", data := .fields #[.none, .bool false, .ref s.heap.objs.size, rawInt 0, .none, .none] }
  have he : IsEnum ((s.heap.push o).push eo) (s.heap.objs.size + 1) s.heap.objs.size 0 .none := by
    have y := Heap.get?_push_size (s.heap.push o) (o := eo) rfl
    rw [e] at y
    exact y
  exact ⟨⟨_, he, rfl⟩, q _ he (Heap.get?_push_of_some _ (Heap.get?_push_size _ B.free)) fun b u y => Heap.get?_push_of_some _ (Heap.get?_push_of_some _ y)⟩
/-- the sequence at a as it stands at each turn, each item in a new pair with its index -/
def ItE2 (K : PySem.W.Frag) (b : Bool) (a : Addr) : It :=
  ⟨fun i H => ∃ (xs : List V) (x : V), Sq K b H a xs ∧ xs[i]? = some x,
   fun i H v H' => ∃ T x, v = .ref T ∧ H T = none ∧ H' = upd H T (.tup [.int (i : Nat), x]) ∧ ∀ xs, Sq K b H a xs → xs[i]? = some x,
   fun i H => ∃ xs : List V, Sq K b H a xs ∧ xs.length = i⟩
theorem turn_e2 {P : Program} {w : World} {K : PySem.W.Frag} {elts : List Expr} {kk : Nat} {tpos : Pos} {b : Bool} {a e it : Addr} (n1 : e ≠ it) (n2 : a ≠ it) (n3 : a ≠ e) :
    Turn P w K (.Tuple elts kk tpos) (ItE2 K b a) [e, it] e (fun i h => (∃ old, IsEnum h e it ((i : Nat) : Int) old) ∧ ItAt b h it a i) where
  mem := List.mem_cons_self
  obj := by
    rintro i h ⟨⟨old, he⟩, h1⟩ q hq
    rcases List.mem_cons.mp hq with rfl | hq
    · exact ⟨_, he, fun v q => nomatch q⟩
    · rw [List.mem_singleton.mp hq]; exact itAt_obj h1
  keep := by
    rintro i h h' ⟨⟨old, he⟩, h1⟩ k
    exact ⟨⟨old, k e (by simp) _ he⟩, itAt_keep h1 fun o q => k it (by simp) o q⟩
  item := by
    rintro X rfl rfl rfl hc i pins s σ H E I hf ⟨⟨old, he⟩, h1⟩ ⟨xs, x, qx, ex⟩
    obtain ⟨its, rv, p, _, _⟩ := sq_get I qx
    obtain ⟨u, hu, ru⟩ := rv.get ex
    have L1 : i < its.toArray.size := by
      have := (List.getElem?_eq_some_iff.mp hu).1
      simpa using this
    have he0 : e < s.heap.objs.size := Heap.lt_size he
    have hi0 : it < s.heap.objs.size := by obtain ⟨_, y, _⟩ := itAt_obj h1; exact Heap.lt_size y
    apply wpAny_pyNext_enum_itemD (draws (prog := X.prog) (w := X.w) (A := X.A.in1) (show X.A.in1.handled = none from I.ok.hd hc) it a n2 its.toArray b) he ⟨h1, p⟩ L1 n1 (by simp; exact ⟨n1, Ne.symm n3⟩)
    intro v1 h' tk e1 eo s1 hT hsz hk
    have ev1 : v1 = u := by
      have e1' : its.toArray[i]? = some v1 := e1
      rw [List.getElem?_toArray, hu] at e1'
      exact (Option.some.inj e1').symm
    subst ev1
    refine ⟨_, rfl, wpAny_letOwnedTupleGo_enum (s := { s with heap := h', toks := tk + 1 }) eo ?_⟩
    intro h'' he' sb
    have hT2 : h''.get? s.heap.objs.size = some { cls := .type "tuple", data := .seq #[.int i tk, v1] } := (sb.2 _ (Nat.ne_of_gt he0)).trans hT
    have new : ObjOk X.prog X.w (upd H s.heap.objs.size (.tup [.int (i : Nat), x])) h'' s.heap.objs.size (.tup [.int (i : Nat), x]) :=
      ⟨show 2 ≤ sizeLine by decide, [.int i tk, v1], .cons ⟨_, rfl⟩ (.cons ru .nil), _, hT2, rfl, _, rfl⟩
    have far : ∀ q o, q ∉ [e, it] → s.heap.get? q = some o → h''.get? q = some o := by
      intro q o hq y
      simp only [List.mem_cons, List.not_mem_nil, or_false, not_or] at hq
      exact (sb.2 q hq.1).trans (hk q o hq.1 hq.2 y)
    have I1 := I.turnedNew (t' := tk + 1) (ch := [e, it]) far hf (Nat.le_refl _) new
    refine ⟨.ref s.heap.objs.size, _, I1, rfl, ⟨_, x, rfl, I.hok.fresh (Nat.le_refl _), rfl, fun l hl => ?_⟩, ⟨⟨v1, ?_⟩, ?_⟩, ?_⟩
    · rw [sq_inj I hl qx]; exact ex
    · have z : ((i + 1 : Nat) : Int) = (i : Int) + 1 := by omega
      rw [z]; exact he'
    · exact itAt_keep s1.1 fun o q => (sb.2 it (Ne.symm n1)).trans q
    · intro q hq
      have hlt : q < s.heap.objs.size := by
        rcases List.mem_cons.mp hq with rfl | hq
        · exact he0
        · rw [List.mem_singleton.mp hq]; exact hi0
      rw [upd_ne (Nat.ne_of_lt hlt)]
      exact (hf q hq).1
  done := by
    rintro X rfl rfl rfl hc i pins s σ H E I hf ⟨⟨old, he⟩, h1⟩ ⟨xs, qx, fin⟩
    obtain ⟨its, rv, p, _, _⟩ := sq_get I qx
    have g1 := rv.length
    have z1 : i = its.toArray.size := by simp [← g1]; omega
    subst z1
    obtain ⟨f0, f1, f2, f3, f4, f5⟩ := hf it (by simp)
    apply wpAny_pyNext_enum_endD (draws (prog := X.prog) (w := X.w) (A := X.A.in1) (show X.A.in1.handled = none from I.ok.hd hc) it a n2 its.toArray b) he ⟨h1, p⟩
    exact fun h' eb => ⟨rfl, I.turned (t' := s.toks) (fun q o hq y => eb q o hq y) f0 f1 f3 f4 f5⟩
  self := fun A i s Q E st q => let ⟨⟨_, he⟩, _⟩ := st; wpAny_pyIter_enum he q
def iEnumM (K : PySem.W.Frag) (b : Bool) (ta : TA) : TI := fun σ H R => ta σ H fun vs H1 => ∃ a xs, vs = [.ref a] ∧ Sq K b H1 a xs ∧ R (ItE2 K b a) H1
theorem pi_enumM {X : Cx} (b : Bool) {e : Expr} {ta : TA} {p pos tpos : Pos} {elts : List Expr} {kk : Nat} (hg : Gl X "enumerate") (hm : X.mg "enumerate" = none) (ha : PA X [e] ta) (hs : starEach [e] X.env = [(false, eval e X.env)] := by rfl) :
    PI X (.Tuple elts kk tpos) (.Call (.Name "enumerate" p) [e] [] pos) (iEnumM X.K b ta) := by
  constructor
  intro pins s σ H R I h
  refine Call_ (ld_blt I hg hm boot_enumerate (PyProof.Rows.callWith_type1 (thn (ha.run pos pins s σ H _ I h) ?_) hs rfl))
  rintro us s1 ⟨vs, H1, I1, r1, a, xs, rfl, qx, q⟩
  cases r1 with
  | cons r rr =>
    cases rr
    cases r
    obtain ⟨its, rv, p1, _, la⟩ := sq_get I1 qx
    apply enum_starts (begins a its.toArray b) p1
    intro h' he hit hk
    apply wpAny_pyIter_enum he
    have I2 : Inv X pins σ H1 { s1 with heap := h' } := I1.kept (t' := s1.toks) hk
    refine ⟨s1.heap.objs.size + 1, [s1.heap.objs.size + 1, s1.heap.objs.size], _, _, H1, rfl, I2, turn_e2 (Nat.succ_ne_self _) (Nat.ne_of_lt la) (Nat.ne_of_lt (Nat.lt_succ_of_lt la)), ⟨⟨.none, he⟩, itAt_new hit⟩, fun g hg => ?_, q⟩
    have hle : s1.heap.objs.size ≤ g := by
      rcases List.mem_cons.mp hg with rfl | hg
      · exact Nat.le_add_right _ _
      · rw [List.mem_singleton.mp hg]; exact Nat.le_refl _
    exact I1.fpOk hle (I1.hok.fresh hle)
section
variable {C : MI} {K : PySem.W.Frag} {σ : L2.St} {B : Hp} {Rs : List Rp} {t : TA}
theorem ei_enumM {b : Bool} (h : EvA C t σ B [SqR b Rs]) : EvI C (iEnumM K b t) σ B (enumR K Rs) := fun B1 H1 e k R q => h B1 H1 e k _ fun vs B2 H2 s r => by
  cases r with
  | cons r t =>
    cases t
    obtain ⟨a, xs, h1, h3, hat⟩ := sqR_at (K := K) r
    subst h1
    have hl : (enumR K Rs).length = xs.length := by unfold enumR; rw [List.length_zipWith, List.length_range, Nat.min_self, h3.pkLen]
    refine ⟨a, xs, rfl, hat H2 s.ok.sub, q _ B2 H2 s fun B3 e3 => ⟨fun H => Sq K b H a xs, fun H3 e4 => hat H3 (e3.trans e4), fun i H hi g => ?_, fun H g => ?_, fun i H x H' R hR k3 y => ?_⟩⟩
    · rw [hl] at hi
      exact ⟨xs, xs[i], g, by simp [hi]⟩
    · exact ⟨xs, g, hl.symm⟩
    · have hi : i < xs.length := by rw [← hl]; exact (List.getElem?_eq_some_iff.mp hR).1
      obtain ⟨T, z, e1, e2, e4, e6⟩ := y
      obtain ⟨Ra, Rb, g1, g2, rfl⟩ := zipWith_get hR
      have ei : Ra = i := by
        rw [List.getElem?_range (by rw [h3.pkLen]; exact hi)] at g1
        exact (Option.some.inj g1).symm
      subst ei
      obtain ⟨z', f3, f4⟩ := h3.pkGet g2
      have e6' : xs[Ra]? = some z := e6 xs (hat H (e3.trans k3.sub))
      rw [f3] at e6'; cases e6'
      subst e1 e4
      exact pair_new k3 e2 (is_int.mpr rfl) (Rb.mono e3 f4)
theorem enumR_map {α : Type} {F : α → Rp} (xs : List α) : enumR K (xs.map F) = ((List.range xs.length).zip xs).map fun p : Nat × α => TupR [Is K (p.1 : Int), F p.2] := by
  unfold enumR
  apply List.ext_getElem
  · simp
  · intro i h1 h2
    simp only [List.length_zipWith, List.length_range, List.length_map, List.length_zip] at h1 h2
    simp
theorem ei_enumMD {α : Type} {F : α → Rp} {xs : List α} {b : Bool} (h : EvA C t σ B [SqR b (xs.map F)]) : EvI C (iEnumM K b t) σ B (((List.range xs.length).zip xs).map fun p : Nat × α => TupR [Is K (p.1 : Int), F p.2]) := by
  rw [← enumR_map]; exact ei_enumM h
end
end Pk

/-! t[::-1] of a tuple, of a list; what they give. -/
namespace Pk
open PySem PySem.Spec PyProof.Rows L2 HT
section
variable {prog : Program} {w : World} {A : Around} {E : Value → Shared → Prop} {s : Shared}
theorem places_rev (n : Nat) : Builtin.Slice.slicePlaces ((n : Int) - 1) (-1) (-1) = n := by
  unfold Builtin.Slice.slicePlaces
  simp
  omega
theorem adjust_rev (n : Nat) : Builtin.Slice.sliceAdjust none none (-1) (n : Int) = ((n : Int) - 1, -1) := by
  unfold Builtin.Slice.sliceAdjust
  simp
theorem sliceApplied_rev {sl : Addr} {vl vu vs : Value} {n : Nat} {Q : Int × Int × Nat → Shared → Prop} (hs : s.heap.IsSliceOf sl vl vu vs) (pl : IsPart vl none) (pu : IsPart vu none) (ps : IsPart vs (some (-1)))
    (h : Q ((n : Int) - 1, -1, n) s) : wpAny (model prog w) A (Builtin.Slice.sliceApplied (.ref sl) (pure (n : Int))) Q E s := by
  obtain ⟨os, hos, hcs, hds⟩ := id hs
  unfold Builtin.Slice.sliceApplied Builtin.Slice.sliceFields
  refine wpAny_bind (wpAny_bind (wpAny_field hos hds (x := vl) rfl (wpAny_bind (wpAny_field hos hds (x := vu) rfl (wpAny_bind (wpAny_field hos hds (x := vs) rfl (wpAny_pure ?_)))))))
  refine wpAny_bind (slicePart_ ps ?_)
  show wpAny _ _ (if ((-1 : Int) == 0) = true then _ else _) _ _ s
  rw [if_neg (by decide)]
  refine wpAny_bind (slicePart_ pl (wpAny_bind (slicePart_ pu (wpAny_bind (wpAny_pure ?_)))))
  show wpAny _ _ (match Builtin.Slice.sliceAdjust none none (-1) (n : Int) with | (lo, hi) => pure (lo, (-1 : Int), Builtin.Slice.slicePlaces lo hi (-1))) _ _ s
  rw [adjust_rev n]
  show wpAny _ _ (pure ((n : Int) - 1, (-1 : Int), Builtin.Slice.slicePlaces ((n : Int) - 1) (-1) (-1))) _ _ s
  rw [places_rev]
  exact wpAny_pure h
theorem pick_rev (xs : Array Value) : ((List.range xs.size).filterMap fun (k : Nat) => xs[(((xs.size : Nat) : Int) - 1 + (k : Int) * (-1)).toNat]?).toArray = xs.toList.reverse.toArray := by
  have e : ∀ L : List Value, (List.range L.length).filterMap (fun k : Nat => L[((L.length : Int) - 1 + (k : Int) * (-1)).toNat]?) = L.reverse := fun L => by
    apply List.ext_getElem?
    intro i
    have h1 : (List.range L.length).filterMap (fun k : Nat => L[((L.length : Int) - 1 + (k : Int) * (-1)).toNat]?) = (List.range L.length).map fun k : Nat => L.getD (L.length - 1 - k) .none := by
      have : ∀ ks : List Nat, (∀ k ∈ ks, k < L.length) → ks.filterMap (fun k : Nat => L[((L.length : Int) - 1 + (k : Int) * (-1)).toNat]?) = ks.map fun k : Nat => L.getD (L.length - 1 - k) .none := fun ks => by
        induction ks with
        | nil => intro _; rfl
        | cons k ks ih =>
          intro h
          have hk := h k List.mem_cons_self
          have he : ((L.length : Int) - 1 + (k : Int) * (-1)).toNat = L.length - 1 - k := by omega
          have hlt : L.length - 1 - k < L.length := by omega
          rw [List.filterMap_cons, he, List.getElem?_eq_getElem hlt, List.map_cons, ih fun x hx => h x (List.mem_cons_of_mem _ hx), List.getD_eq_getElem?_getD, List.getElem?_eq_getElem hlt]
          rfl
      exact this _ fun k hk => List.mem_range.mp hk
    rw [h1]
    by_cases hi : i < L.length
    · rw [List.getElem?_map, List.getElem?_range hi, List.getElem?_reverse hi]
      show some (L.getD (L.length - 1 - i) .none) = _
      have hlt : L.length - 1 - i < L.length := by omega
      rw [List.getD_eq_getElem?_getD, List.getElem?_eq_getElem hlt]; rfl
    · rw [List.getElem?_eq_none (by rw [List.length_map, List.length_range]; omega), List.getElem?_eq_none (by rw [List.length_reverse]; omega)]
  have := e xs.toList
  rw [Array.length_toList] at this
  rw [← this]
  congr 1
  simp only [Array.getElem?_toList]
theorem getItem_tuple_rev {t sl : Addr} {items : Array Value} {vl vu vs : Value} {Q : Value → Shared → Prop} (ht : IsTup s.heap t items) (hs : s.heap.IsSliceOf sl vl vu vs) (pl : IsPart vl none) (pu : IsPart vu none) (ps : IsPart vs (some (-1)))
    (h : Q (.ref s.heap.objs.size) { s with heap := s.heap.push { cls := .type "tuple", data := .seq items.toList.reverse.toArray } })
    (hsz : items.size ≤ sizeLine) : wpAny (model prog w) A (getItem (.ref t) (.ref sl)) Q E s := by
  have htake : sizeOk (.seq items.toList.reverse.toArray) := by
    show items.toList.reverse.toArray.size ≤ sizeLine
    rw [List.size_toArray, List.length_reverse, Array.length_toList]
    exact hsz
  obtain ⟨os, hos, hcs, hds⟩ := id hs
  have hTs : s.TypeIs (.ref sl) "slice" := ⟨os, hos, hcs⟩
  unfold getItem
  try with_reducible refine wpAny_holding ?_
  first | refine wpAny_bind (wpAny_pure ?_) | skip
  refine wpAny_bind (wpAny_sequenceKey ht.typeIs (by decide) ?_)
  refine wpAny_bind (wpAny_callSpecial?_slot (name := Str.ofString "__getitem__") ht.typeIs PyProof.Rows.slot_tuple_getitem
    (wpAny_call_entry PyProof.Rows.slot_tuple_getitem ht.typeIs entry_tuple_getitem ?_ (args_tuple_getitem _ _)))
  show wpAny _ _ (Builtin.Tuple.tupleItemsOf (.ref t) >>= _) _ _ s
  refine wpAny_bind (tupleItemsOf_ ht ?_)
  refine wpAny_bind (wpAny_typeOf hTs ?_)
  rw [if_pos (by decide)]
  refine wpAny_bind (sliceApplied_rev hs pl pu ps ?_)
  have hno : ¬ (((((items.size : Nat) : Int) - 1) == 0 && (-1 : Int) == 1 && items.size == items.size) = true) := by
    rw [show ((-1 : Int) == 1) = false by decide, Bool.and_false, Bool.false_and]
    exact Bool.false_ne_true
  show wpAny _ _ (if ((((items.size : Nat) : Int) - 1) == 0 && (-1 : Int) == 1 && items.size == items.size) = true then _ else _) _ _ s
  rw [if_neg hno, pick_rev]
  first
    | exact wpAny_bind (m := Builtin.Tuple.tupleExact _) (wpAny_newObj_type (wpAny_pure ⟨_, rfl, wpAny_pure h⟩) htake)
    | exact wpAny_bind (m := Builtin.Tuple.tupleExact _) (wpAny_newObj_type (wpAny_bind (wpAny_pure (wpAny_pure ⟨_, rfl, wpAny_pure h⟩))) htake)
    | exact wpAny_bind (wpAny_bind (m := Builtin.Tuple.tupleExact _) (wpAny_newObj_type (wpAny_pure (wpAny_pure ⟨_, rfl, wpAny_pure h⟩)) htake))
    | exact wpAny_bind (wpAny_bind (m := Builtin.Tuple.tupleExact _) (wpAny_newObj_type (wpAny_pure ⟨_, rfl, wpAny_pure h⟩) htake))
end
section
variable {X : Cx}
def tRevT (K : PySem.W.Frag) (te : TE) : TE := fun σ H Q => te σ H fun x H1 => ∃ a xs, x = .ref a ∧ SqT K H1 a xs ∧ ∀ p, H1 p = none → Q (.ref p) (upd H1 p (.tup xs.reverse))
theorem pe_revT {e : Expr} {te : TE} {k : Nat} {p1 p2 p3 pos : Pos} (he : PE X e te) : PE X (.Subscript e (.Slice none none (some (.UnaryOp .USub (.Constant (.int 1) k p1) p2)) p3) pos) (tRevT X.K te) := by
  refine ⟨fun pins s σ H Q I h => ?_⟩
  refine Subscript_ (thn (he.run pins s σ H _ I h) fun v s1 ⟨x, H1, I1, r1, a, xs, ex, hx, q⟩ => ?_)
  subst ex
  cases r1
  have hst : PO X (some (.UnaryOp .USub (.Constant (.int 1) k p1) p2)) (tPart (tUn (rU fun i => .int (-i)) (tC (.int 1)))) := po_some (pe_un un_neg pe_int)
  refine wpAny_Slice (thn (po_none.run pins s1 σ H1 (fun o H2 => o = none ∧ H2 = H1) I1 ⟨rfl, rfl⟩) fun vl s2 ⟨l, H2, I2, pl, el, e2⟩ => ?_)
  subst el e2
  refine thn (po_none.run pins s2 σ H2 (fun o H3 => o = none ∧ H3 = H2) I2 ⟨rfl, rfl⟩) fun vu s3 ⟨u, H3, I3, pu, eu, e3⟩ => ?_
  subst eu e3
  refine thn (hst.run pins s3 σ H3 (fun o H4 => o = some (-1) ∧ H4 = H3) I3 ⟨1, rfl, -1, rfl, rfl, rfl⟩) fun vs s4 ⟨o, H4, I4, ps, eo, e4⟩ => ?_
  subst eo e4
  have I5 : Inv X pins σ H4 { s4 with heap := s4.heap.push { cls := .type "slice", data := .fields #[vl, vu, vs] } } := I4.kept (t' := s4.toks) fun b ob q => Heap.get?_push_of_some _ q
  obtain ⟨its, r, ht, hz⟩ := I5.tuple hx
  show wpAny (model X.prog X.w) X.A (subscriptTail e (.Slice none none (some (.UnaryOp .USub (.Constant (.int 1) k p1) p2)) p3) (.ref a) (.ref s4.heap.objs.size)) (EP X pins σ Q) X.xe { s4 with heap := s4.heap.push { cls := .type "slice", data := .fields #[vl, vu, vs] } }
  refine tail_any (ops := [.ref a, .ref s4.heap.objs.size]) ht.typeIs PyProof.Rows.slot_tuple_getitem.lookup ?_ (by with_unfolding_all rfl)
  refine getItem_tuple_rev ht (Heap.IsSliceOf.new _ vl vu vs) pl pu ps ?_ (by rw [List.size_toArray, ← r.length]; exact hz)
  refine ⟨.ref _, _, I5.laid (t' := s4.toks) (o := .tup xs.reverse) (fun b ob q => Heap.get?_push_of_some _ q) (Nat.le_refl _) ?_, rfl, q _ (I5.hok.fresh (Nat.le_refl _))⟩
  exact ⟨by rw [List.length_reverse]; exact hz, its.reverse, r.reverse, IsTup.new _ _⟩
end
section
variable {C : MI} {K : PySem.W.Frag} {σ : L2.St} {B : Hp} {te : TE} {α : Type} [Enc α]
theorem args_rev : ∀ {Rs : List Rp} {vs : List V} {B : Hp}, Args Rs vs B → Args Rs.reverse vs.reverse B
  | _, _, _, .nil => .nil
  | _, _, _, .cons r t => by rw [List.reverse_cons, List.reverse_cons]; exact Paired.pkApp (args_rev t) (.cons r .nil)
theorem ev_revT {xs : Tu α} (h : Ev C te σ B (Is K xs)) : Ev C (tRevT K te) σ B (Is K (Tu.mk xs.l.reverse)) := fun B1 H1 e k Q q =>
  h B1 H1 e k _ fun v B2 H2 s r => by
    obtain ⟨a, vs, h1, h2, h3⟩ := is_tup.mp r
    exact ⟨a, vs, h1, rd_t (s.ok.sub _ _ h2), fun p hp => q _ _ _ (s.trans (s.ok.new hp)) (is_tup.mpr ⟨p, _, rfl, upd_same, by rw [List.map_reverse]; exact Args.mono (Ex.new (s.ok.sub.un hp)) (args_rev h3)⟩)⟩
theorem ev_revL {xs : List α} (h : Ev C te σ B (Is K xs)) : Ev C (tRevL K te) σ B (Is K xs.reverse) := fun B1 H1 e k Q q =>
  h B1 H1 e k _ fun v B2 H2 s r => by
    obtain ⟨a, vs, h1, h2, h3⟩ := is_lst.mp r
    exact ⟨a, vs, h1, rd_l (s.ok.sub _ _ h2), fun p hp => q _ _ _ (s.trans (s.ok.new hp)) (is_lst.mpr ⟨p, _, rfl, upd_same, by rw [List.map_reverse]; exact Args.mono (Ex.new (s.ok.sub.un hp)) (args_rev h3)⟩)⟩
end
end Pk

/-! What is known of the classes. -/
namespace Pk
open PySem PySem.Spec PyProof.Rows L2
structure Kn0 (K : PySem.W.Frag) : Prop where
structure Kn_Council (K : PySem.W.Frag) : Prop where
  l_Council : Cls K (He.ga K "Council")
  n_Council_seat_weights : NoAttr K (He.ga K "Council") "seat_weights"
  n_Council_column_quotas : NoAttr K (He.ga K "Council") "column_quotas"
structure Kn_Rounds (K : PySem.W.Frag) : Prop where
  l_Rounds : Cls K (He.ga K "Rounds")
  n_Rounds_its_rows : NoAttr K (He.ga K "Rounds") "its_rows"
  n_Rounds_its_councils : NoAttr K (He.ga K "Rounds") "its_councils"
  n_Rounds_its_bounds : NoAttr K (He.ga K "Rounds") "its_bounds"
  n_Rounds_its_levels : NoAttr K (He.ga K "Rounds") "its_levels"
  n_Rounds_its_ways : NoAttr K (He.ga K "Rounds") "its_ways"
structure Kn_Packer (K : PySem.W.Frag) : Prop where
  l_Packer : Cls K (He.ga K "Packer")
  n_Packer_its_weights : NoAttr K (He.ga K "Packer") "its_weights"
  n_Packer_its_rooms : NoAttr K (He.ga K "Packer") "its_rooms"
  n_Packer_its_answers : NoAttr K (He.ga K "Packer") "its_answers"
structure Kn_Shelf (K : PySem.W.Frag) : Prop where
  l_Shelf : Cls K (He.ga K "Shelf")
  n_Shelf_its_rows : NoAttr K (He.ga K "Shelf") "its_rows"
  n_Shelf_its_parts : NoAttr K (He.ga K "Shelf") "its_parts"
end Pk

/-! Bounds, rows, councils, masks: promises. -/
namespace Pk
open PySem L2
open Enc (enc dep)
def okB (row : List Int) (b : Bd) : Bool := match b.w with
  | .least => decide (b.v ≤ row.getD b.c.toNat 0)
  | .most => decide (row.getD b.c.toNat 0 ≤ b.v)
theorem atI_nn {α : Type} {xs : List α} {i : Int} (h0 : 0 ≤ i) (h : i < xs.length) : atI xs i = xs[i.toNat]? := by
  unfold atI ixN
  rw [if_pos h0, if_pos h]
  rfl
theorem atI_some {xs : List Int} {i : Int} (h0 : 0 ≤ i) (h : i < xs.length) : atI xs i = some (xs.getD i.toNat 0) := by
  rw [atI_nn h0 h, List.getD_eq_getElem?_getD, List.getElem?_eq_getElem (by omega)]; rfl
section
variable {K : PySem.W.Frag}
def p_meets_bound (K : PySem.W.Frag) : Pm (List Int × Bd) where
  n := 2
  args x := [Is K (Tu.mk x.1), Is K x.2]
  pre x := 0 ≤ x.2.c ∧ x.2.c < x.1.length
  res x := Is K (okB x.1 x.2)
abbrev sp_meets_bound (K : PySem.W.Frag) : Sp := (p_meets_bound K).sp
def t_meets_bound (K : PySem.W.Frag) : TS := (tSeq (tAsg (tVar 1) (gTup K 3 (gCons (gName 2) (gCons (gName 3) (gCons (gName 4) gNil)))))
  (tSeq (tIfS (tTest (tOp (rEqD K) (tVar 3) (tC (.str "least")))) (tRet (tOp rGeI (tOp (rIxT K) (tVar 0) (tVar 2)) (tVar 4))) tNext)
  (tRet (tOp rLeI (tOp (rIxT K) (tVar 0) (tVar 2)) (tVar 4)))))
theorem len_meets_bound (K : PySem.W.Frag) : ∀ vs H Q E, sp_meets_bound K vs H Q E → vs.length = 2 := Pm.len _ rfl
theorem pure_meets_bound (c : Kn0 K) : ∀ vs H Q E, sp_meets_bound K vs H Q E → t_meets_bound K { nx := fun _ H' => Q .non H', rt := Q } (start ["row", "bound", "column", "way", "value"] vs) H := by
  rintro vs H Q E ⟨C, B, ⟨row, b⟩, k, _, a, hp, q⟩
  obtain _ | @⟨_, v0, _, _, r0, _ | @⟨_, v1, _, _, r1, _ | _⟩⟩ := a
  unfold t_meets_bound
  refine q_asg3 (K := K) (ev_var rfl (is_bd.mp r1)) k.refl fun cv wv vv B2 H2 S s rc rw' rv => ?_
  have R0 : (Is K (Tu.mk row)).P v0 B2 := Rp.mono _ s.bb r0
  refine q_if (et_test (ev_eq (ev_var rfl rw') ev_least)) S (fun e H3 S3 s3 => ?_) (fun e H3 S3 s3 => ?_)
  · refine s_ret (ev_ib (K := K) (g := fun i j => decide (j ≤ i)) (ev_ixTd (K := K) (ev_var rfl R0) (ev_var rfl rc) (atI_some hp.1 hp.2)) (ev_var rfl rv)) S3 fun v B4 H4 S4 r4 => q v B4 H4 S4 ?_
    have ew : b.w = .least := of_decide_eq_true e
    show (Is K (okB row b)).P v B4
    unfold okB; rw [ew]; exact r4
  · refine s_ret (ev_ib (K := K) (g := fun i j => decide (i ≤ j)) (ev_ixTd (K := K) (ev_var rfl R0) (ev_var rfl rc) (atI_some hp.1 hp.2)) (ev_var rfl rv)) S3 fun v B4 H4 S4 r4 => q v B4 H4 S4 ?_
    have ew : ¬ b.w = .least := of_decide_eq_false e
    have ew2 : b.w = .most := by cases h : b.w <;> simp_all
    show (Is K (okB row b)).P v B4
    unfold okB; rw [ew2]; exact r4
/-! meets -/
def p_meets (K : PySem.W.Frag) : Pm (List Int × List Bd) where
  n := 2
  args x := [Is K (Tu.mk x.1), Is K x.2]
  pre x := (∀ b ∈ x.2, 0 ≤ b.c ∧ b.c < x.1.length) ∧ x.2.length ≤ 1000
  res x := Is K (x.2.all (okB x.1))
abbrev sp_meets (K : PySem.W.Frag) : Sp := (p_meets K).sp
def t_meets (K : PySem.W.Frag) : TS := (tRet (tCB (rAll K) (tCons (tLc (iList K (tVar 1)) (gName 2) tYes (tCall (sp_meets_bound K) [] E0 (tCons (tVar 0) (tCons (tVar 2) tNil))) [2]) tNil)))
theorem len_meets (K : PySem.W.Frag) : ∀ vs H Q E, sp_meets K vs H Q E → vs.length = 2 := Pm.len _ rfl
theorem all_map {α : Type} (f : α → Bool) (xs : List α) : (xs.map f).all id = xs.all f := by induction xs <;> simp_all
theorem any_map {α : Type} (f : α → Bool) (xs : List α) : (xs.map f).any id = xs.any f := by induction xs <;> simp_all
theorem pure_meets (c : Kn0 K) : ∀ vs H Q E, sp_meets K vs H Q E → t_meets K { nx := fun _ H' => Q .non H', rt := Q } (start ["row", "wish", "bound"] vs) H := by
  rintro vs H Q E ⟨C, B, ⟨row, bs⟩, k, _, a, hp, q⟩
  obtain _ | @⟨_, v0, _, _, r0, _ | @⟨_, v1, _, _, r1, _ | _⟩⟩ := a
  unfold t_meets
  refine s_ret (ev_all (bs := bs.map (okB row)) (ev_lcMD (okB row) (ei_listD (ev_var rfl r1)) (Nat.le_trans hp.2 (by decide)) (fun x => go_name) fun b σ2 B' hb eb j => ?_)) k.refl fun v B4 H4 S4 r4 => q v B4 H4 S4 (by rw [all_map] at r4; exact r4)
  obtain ⟨v, hv, rfl⟩ := j
  exact ⟨rfl, ev_call (p := p_meets_bound K) (row, b) (ea_cons (ev_var rfl (Rp.mono _ eb r0)) (ea_cons (ev_var rfl hv) ea_nil)) (hp.1 b hb)⟩
/-! integers -/
def p_is_integer (K : PySem.W.Frag) : Pm Int where
  n := 1
  args x := [Is K x]
  res _ := Is K true
abbrev sp_is_integer (K : PySem.W.Frag) : Sp := (p_is_integer K).sp
def t_is_integer (K : PySem.W.Frag) : TS := (tRet (tAndV (tCB (rIsi K) (tCons (tVar 0) (tCons (tC (.ty "int")) tNil))) (tNotV (tCB (rIsi K) (tCons (tVar 0) (tCons (tC (.ty "bool")) tNil))))))
theorem len_is_integer (K : PySem.W.Frag) : ∀ vs H Q E, sp_is_integer K vs H Q E → vs.length = 1 := Pm.len _ rfl
theorem pure_is_integer (c : Kn0 K) : ∀ vs H Q E, sp_is_integer K vs H Q E → t_is_integer K { nx := fun _ H' => Q .non H', rt := Q } (start ["thing"] vs) H := by
  rintro vs H Q E ⟨C, B, i, k, _, a, _, q⟩
  obtain _ | @⟨_, v0, _, _, r0, _ | _⟩ := a
  exact s_ret (ev_and (ev_isIntInt (K := K) (ev_var rfl r0)) fun _ => ev_not (ev_isIntBool (ev_var rfl r0))) k.refl fun v B4 H4 S4 r4 => q v B4 H4 S4 r4
def p_is_between (K : PySem.W.Frag) : Pm (Int × Int × Int) where
  n := 3
  args x := [Is K x.1, Is K x.2.1, Is K x.2.2]
  res x := Is K (decide (x.2.1 ≤ x.1) && decide (x.1 ≤ x.2.2))
abbrev sp_is_between (K : PySem.W.Frag) : Sp := (p_is_between K).sp
def t_is_between (K : PySem.W.Frag) : TS := (tRet (tAndV (tCall (sp_is_integer K) [] E0 (tCons (tVar 0) tNil)) (tChain rLeI rLeI (tVar 1) (tVar 0) (tVar 2))))
theorem len_is_between (K : PySem.W.Frag) : ∀ vs H Q E, sp_is_between K vs H Q E → vs.length = 3 := Pm.len _ rfl
theorem pure_is_between (c : Kn0 K) : ∀ vs H Q E, sp_is_between K vs H Q E → t_is_between K { nx := fun _ H' => Q .non H', rt := Q } (start ["thing", "least", "greatest"] vs) H := by
  rintro vs H Q E ⟨C, B, ⟨x, lo, hi⟩, k, _, a, _, q⟩
  obtain _ | @⟨_, v0, _, _, r0, _ | @⟨_, v1, _, _, r1, _ | @⟨_, v2, _, _, r2, _ | _⟩⟩⟩ := a
  exact s_ret (ev_and (K := K) (ev_call (p := p_is_integer K) x (ea_cons (ev_var rfl r0) ea_nil) trivial) fun _ => ev_chain (ev_var rfl r1) (ev_var rfl r0) (ev_var rfl r2)) k.refl fun v B4 H4 S4 r4 => q v B4 H4 S4 (by rw [Bool.true_and] at r4; exact r4)
/-! bits -/
def bits (n : Nat) : List Nat := (List.range n).map fun i => 2 ^ i
theorem bits_succ (n : Nat) : bits (n + 1) = bits n ++ [2 ^ n] := by simp [bits, List.range_succ]
theorem bits_len (n : Nat) : (bits n).length = n := by simp [bits]
theorem bits_get {n i : Nat} (h : i < n) : (bits n)[i]? = some (2 ^ i) := by simp [bits, h]
def p_bits_of (K : PySem.W.Frag) : Pm Nat where
  n := 1
  args x := [Is K x]
  pre x := x ≤ 1000
  res x := Is K (bits x)
abbrev sp_bits_of (K : PySem.W.Frag) : Sp := (p_bits_of K).sp
def t_bits_of (K : PySem.W.Frag) : TS := (tSeq (tAsg (tLst tNil) (gName 1))
  (tSeq (tFor (iRng1 (tCons (tVar 0) tNil)) (gName 2) (tDrop (tBM K "list" rAppend (tVar 1) (tCons (tIf (tTest (tOp (rEqD K) (tVar 1) (tLst tNil))) (tC (.int 1)) (tOp rMulI (tC (.int 2)) (tOp (rIxL K) (tVar 1) (tUn rNeg (tC (.int 1)))))) tNil))))
  (tRet (tVar 1))))
theorem len_bits_of (K : PySem.W.Frag) : ∀ vs H Q E, sp_bits_of K vs H Q E → vs.length = 1 := Pm.len _ rfl
theorem pure_bits_of (c : Kn0 K) : ∀ vs H Q E, sp_bits_of K vs H Q E → t_bits_of K { nx := fun _ H' => Q .non H', rt := Q } (start ["many", "found", "index"] vs) H := by
  rintro vs H Q E ⟨C, B, n, k, _, a, hp, q⟩
  have hp : n ≤ 1000 := hp
  obtain _ | @⟨_, v0, _, _, r0, _ | _⟩ := a
  unfold t_bits_of
  refine q_new (Ra := Is K) (α := Nat) k.refl fun l hl S A => ?_
  have hw : (List.map (fun x : Int => Is K x) (rng 0 (n : Int).toNat)).length = n := by simp [rng]
  refine q_for (items := (rng 0 (n : Int).toNat).map (Is K)) (J := fun i => JN 2 ((Is K) (i : Int))) (ei_range1 (K := K) (ea_cons (ev_natI (ev_var rfl r0)) ea_nil) (by omega)) S (fun i R hR => ?_)
    (fun i σ1 B1 H1 => ∃ o, σ1 = [some v0, some (.ref l), o] ∧ Acc C H (Is K) l (bits i) B1 H1) (fun B1 H1 S1 s1 => ⟨none, rfl, A.step s1⟩) (fun i σ1 B1 H1 B2 H2 hi S1 e1 ⟨o, hs, A1⟩ s2 σ2 j => ?_) (fun σ1 B1 H1 S1 e1 ⟨o, hs, A1⟩ => ?_)
  · rw [List.getElem?_map] at hR
    cases q1 : (rng 0 (n : Int).toNat)[i]? with
    | none => rw [q1] at hR; cases hR
    | some z =>
      have hi := (List.getElem?_eq_some_iff.mp q1).1
      rw [rng_len] at hi
      rw [q1] at hR
      rw [rng_get hi] at q1
      cases q1; cases hR
      rw [Int.zero_add]
      exact go_name
  · subst hs
    obtain ⟨w, hw2, rfl⟩ := j
    rw [hw] at hi
    have A2 := A1.step s2
    refine s_appV (x := 2 ^ i) (v := .int ((2 ^ i : Nat) : Int)) A2 rfl ?_ (S1.trans s2) (fun B => is_nat.mpr rfl) (by rw [bits_len]; omega) (fun H3 S3 A3 => ⟨B2, S3, s2.bb, w, rfl, by rw [bits_succ]; exact A3⟩)
    refine A2.peek s2.ok (R := Is K (2 ^ i : Nat)) (fun T eT kT rT => ?_) nat_val
    have rT : (Is K (bits i)).P (.ref l) T := is_lst.mpr rT
    refine ev_if (b := decide (bits i = [])) (et_test (ev_eq (K := K) (ev_var rfl rT) (ev_lstD (α := Nat) (xs := []) ea_nil))) (fun e => ?_) (fun e => ?_)
    · have h0 : bits i = [] := of_decide_eq_true e
      have : i = 0 := by rw [← bits_len i, h0]; rfl
      subst this
      exact ev_int
    · have h0 : bits i ≠ [] := of_decide_eq_false e
      have hi0 : 0 < i := by
        rcases Nat.eq_zero_or_pos i with h | h
        · subst h; exact absurd rfl h0
        · exact h
      refine (ev_ic (K := K) (c := CMul) (g := fun i j => i * j) ev_int (ev_natI (a := 2 ^ (i - 1)) (ev_ixLd (K := K) (ev_var rfl rT) (ev_un (K := K) (f := fun i => -i) ev_int) ?_)) (.inl (by decide))).to (F := Is K) ?_
      · unfold atI ixN
        rw [bits_len, if_neg (by decide), if_pos (by omega)]
        show (bits i)[(-1 + (i : Int)).toNat]? = _
        rw [show (-1 + (i : Int)).toNat = i - 1 by omega, bits_get (by omega)]
      · show (2 : Int) * ((2 ^ (i - 1) : Nat) : Int) = ((2 ^ i : Nat) : Int)
        rw [show i = (i - 1) + 1 by omega, Nat.pow_succ]
        simp [Int.mul_comm]
  · subst hs
    rw [hw] at A1
    exact s_retAcc A1 rfl S1 fun B2 S2 r => q _ B2 H1 S2 (is_lst.mpr r)
end
end Pk

/-! Masks, councils: promises. -/
namespace Pk
open PySem L2
open Enc (enc dep)
section
variable {K : PySem.W.Frag}
theorem sq_l {α : Type} [Enc α] {xs : List α} : (Is K xs).le (SqR true (xs.map (Is K))) := fun _ _ => is_lst.mp
theorem sq_t {α : Type} [Enc α] {xs : Tu α} : (Is K xs).le (SqR false (xs.l.map (Is K))) := fun _ _ => is_tup.mp
/-! members -/
def mem (bs : List Bd) (m : Nat) : List Bd := ((bs.zip (bits bs.length)).filter fun p => decide (m &&& p.2 ≠ 0)).map Prod.fst
def memA {α : Type} (bs : List α) (m : Nat) : List α := ((bs.zip (bits bs.length)).filter fun p => decide (m &&& p.2 ≠ 0)).map Prod.fst
def p_members (α : Type) [Enc α] (K : PySem.W.Frag) : PmN (List α × Nat) where
  n := 2
  args x := [Is K x.1, Is K x.2]
  pre x := x.1.length ≤ 1000
  res x B := NewL B ((memA x.1 x.2).map (Is K))
  mono x B B' e := newL_ex e
def sp_members (K : PySem.W.Frag) : Sp := fun vs H Q E => ∃ (α : Type) (_ : Enc α), (p_members α K).sp vs H Q E
theorem len_members (K : PySem.W.Frag) : ∀ vs H Q E, sp_members K vs H Q E → vs.length = 2 := fun vs H Q E ⟨α, _, h⟩ => (p_members α K).len rfl vs H Q E h
theorem ev_members {C : MI} {σ : L2.St} {B : Hp} {t : TA} {E : XK} {α : Type} [Enc α] (xs : List α) (m : Nat) (h : EvA C t σ B [Is K xs, Is K m]) (hl : xs.length ≤ 1000) : Ev C (tCall (sp_members K) [] E t) σ B (NewL B ((memA xs m).map (Is K))) := fun B1 H1 e k Q q =>
  h B1 H1 e k _ fun vs B2 H2 s r => by
    rw [List.append_nil]
    exact ⟨α, inferInstance, C, B2, (xs, m), s.ok, trivial, r, hl, fun v B3 H3 s3 r3 => q v B3 H3 (s.trans s3) (newL_ex (e.trans s.bb) _ _ r3)⟩
def t_members (K : PySem.W.Frag) : TS := (tRet (tLc (iZipM K true true (tCons (tVar 0) (tCons (tCall (sp_bits_of K) [] E0 (tCons (tCB (rLenQ K) (tCons (tVar 0) tNil)) tNil)) tNil))) (gTup K 2 (gCons (gName 2) (gCons (gName 3) gNil))) (tTest (tOp (rNeD K) (tOp rAndI (tVar 1) (tVar 3)) (tC (.int 0)))) (tVar 2) [2, 3]))
theorem pure_members (c : Kn0 K) : ∀ vs H Q E, sp_members K vs H Q E → t_members K { nx := fun _ H' => Q .non H', rt := Q } (start ["items", "mask", "item", "bit"] vs) H := by
  rintro vs H Q E ⟨α, _, C, B, ⟨bs, m⟩, k, _, a, hp, q⟩
  have hp : bs.length ≤ 1000 := hp
  obtain _ | @⟨_, v0, _, _, r0, _ | @⟨_, v1, _, _, r1, _ | _⟩⟩ := a
  refine s_ret (ev_lcFN (xs := bs.zip (bits bs.length)) (Ri := fun p => TupR [Is K p.1, Is K p.2]) (Ro := Is K) (J := fun p => JP 2 3 (Is K p.1) (Is K p.2)) (fun p => decide (m &&& p.2 ≠ 0)) Prod.fst
    (ei_zipMD (K := K) (ea_cons ((ev_var rfl r0).le fun _ _ => is_lst.mp) (ea_cons ((ev_call (p := p_bits_of K) bs.length (ea_cons (ev_lenD (K := K) (ev_var rfl r0)) ea_nil) hp).le (sq_l (K := K) (xs := bits bs.length))) ea_nil))) ?_ (fun x => go_pair) fun p σ2 B' hb eb j => ?_) k.refl fun v B4 H4 S4 r4 => q v B4 H4 S4 r4
  · rw [List.length_zip]; omega
  · obtain ⟨v, w, hv, hw, rfl⟩ := j
    exact ⟨rfl, et_test (ev_ne (K := K) (α := Nat) (ev_andN (K := K) (ev_var rfl (Rp.mono _ eb r1)) (ev_var rfl hw)) ev_nat), fun _ => ev_var rfl hv⟩
theorem memA_bd (bs : List Bd) (m : Nat) : memA bs m = mem bs m := rfl
/-! greatest_only, different -/
def grt (ms : List Nat) : List Nat := (srt Nat false ms).filter fun m => !(ms.any fun o => decide (m ≠ o) && decide (m &&& o = m))
def p_greatest_only (K : PySem.W.Frag) : Pm (List Nat) where
  n := 1
  args x := [Is K x]
  pre x := x.length ≤ 16000000
  res x := Is K (grt x)
abbrev sp_greatest_only (K : PySem.W.Frag) : Sp := (p_greatest_only K).sp
def t_greatest_only (K : PySem.W.Frag) : TS := (tSeq (tAsg (tLst tNil) (gName 1))
  (tSeq (tFor (iList K (tCB (SrtIn K false) (tCons (tVar 0) tNil))) (gName 2) (tIfS (tNot (tB (tCB (rAny K) (tCons (tLc (iList K (tVar 0)) (gName 3) tYes (tAndV (tOp (rNeD K) (tVar 2) (tVar 3)) (tOp (rEqD K) (tOp rAndI (tVar 2) (tVar 3)) (tVar 2))) [3]) tNil)))) (tDrop (tBM K "list" rAppend (tVar 1) (tCons (tVar 2) tNil))) tNext))
  (tRet (tVar 1))))
theorem len_greatest_only (K : PySem.W.Frag) : ∀ vs H Q E, sp_greatest_only K vs H Q E → vs.length = 1 := Pm.len _ rfl
theorem srt_len {α : Type} [Enc α] {b : Bool} (xs : List α) : (srt α b xs).length = xs.length := List.length_mergeSort _
theorem filter_snoc {α : Type} (p : α → Bool) (xs : List α) (x : α) : (xs ++ [x]).filter p = if p x = true then xs.filter p ++ [x] else xs.filter p := by
  rw [List.filter_append]
  by_cases h : p x = true <;> simp [h]
theorem pre_len {α : Type} {xs pre post : List α} {x : α} (h : xs = pre ++ x :: post) : pre.length < xs.length := by rw [h]; simp
theorem pure_greatest_only (c : Kn0 K) : ∀ vs H Q E, sp_greatest_only K vs H Q E → t_greatest_only K { nx := fun _ H' => Q .non H', rt := Q } (start ["masks", "found", "mask", "other"] vs) H := by
  rintro vs H Q E ⟨C, B, ms, k, _, a, hp, q⟩
  have hp : ms.length ≤ 16000000 := hp
  obtain _ | @⟨_, v0, _, _, r0, _ | _⟩ := a
  let f : Nat → Bool := fun m => !(ms.any fun o => decide (m ≠ o) && decide (m &&& o = m))
  refine q_new (Ra := Is K) (α := Nat) k.refl fun l hl S A => ?_
  refine q_forD (J := fun m => JN 2 (Is K m)) (ei_listD (ev_sort (K := K) (ev_var rfl r0) so_nat)) S (fun x => go_name)
    (fun pre σ1 B1 H1 => ∃ o, σ1 = [some v0, some (.ref l), o, none] ∧ Acc C H (Is K) l (pre.filter f) B1 H1) (fun B1 H1 S1 s1 => ⟨none, rfl, A.step s1⟩) (fun pre m post σ1 B1 H1 B2 H2 hx S1 e1 ⟨o, hs, A1⟩ s2 σ2 j => ?_) (fun σ1 B1 H1 S1 e1 ⟨o, hs, A1⟩ => ?_)
  · subst hs
    obtain ⟨w, hw, rfl⟩ := j
    have R0 : (Is K ms).P v0 B2 := Rp.mono _ (e1.trans s2.bb) r0
    refine s_if (b := f m) (et_not (et_B (K := K) (Ev.to (F := Is K) (ev_any (K := K) (bs := ms.map fun o => decide (m ≠ o) && decide (m &&& o = m)) (ev_lcMD _ (ei_listD (ev_var rfl R0)) hp (fun x => go_name) fun o σ2 B' hb eb j => ?_)) (any_map _ _)))) (S1.trans s2) (fun e H3 S3 s3 => ?_) (fun e H3 S3 s3 => ?_)
    · obtain ⟨z, hz, rfl⟩ := j
      exact ⟨rfl, ev_and (ev_ne (K := K) (ev_var rfl (Rp.mono _ eb hw)) (ev_var rfl hz)) fun _ => ev_eq (K := K) (ev_andN (K := K) (ev_var rfl (Rp.mono _ eb hw)) (ev_var rfl hz)) (ev_var rfl (Rp.mono _ eb hw))⟩
    · have A3 := (A1.step s2).step s3
      refine s_appV (x := m) (v := w) A3 rfl ((ev_var rfl hw).at s3.ok fun z B h => by rw [is_nat.mp h, is_nat.mp hw]) S3 (fun B => by rw [is_nat.mp hw]; exact is_nat.mpr rfl) ?_ fun H4 S4 A4 => ⟨B2, S4, s2.bb, some w, rfl, by rw [filter_snoc, if_pos e]; exact A4⟩
      have h1 := pre_len hx
      rw [srt_len] at h1
      exact Nat.lt_of_le_of_lt (List.length_filter_le _ _) (Nat.lt_of_lt_of_le h1 hp)
    · exact ⟨B2, S3, s2.bb, some w, rfl, by rw [filter_snoc, if_neg (by rw [e]; exact Bool.false_ne_true)]; exact (A1.step s2).step s3⟩
  · subst hs
    exact s_retAcc A1 rfl S1 fun B2 S2 r => q _ B2 H1 S2 (is_lst.mpr r)
def p_different (K : PySem.W.Frag) : Pm (List Nat) where
  n := 1
  args x := [Is K x]
  pre x := x.length ≤ 16000000
  res x := Is K (difs x)
abbrev sp_different (K : PySem.W.Frag) : Sp := (p_different K).sp
def t_different (K : PySem.W.Frag) : TS := (tRet (tCB rListD (tCons (tDc (iList K (tVar 0)) (gName 1) tYes (tVar 1) (tC (.bl true)) [1]) tNil)))
theorem len_different (K : PySem.W.Frag) : ∀ vs H Q E, sp_different K vs H Q E → vs.length = 1 := Pm.len _ rfl
theorem pure_different (c : Kn0 K) : ∀ vs H Q E, sp_different K vs H Q E → t_different K { nx := fun _ H' => Q .non H', rt := Q } (start ["masks", "mask"] vs) H := by
  rintro vs H Q E ⟨C, B, ms, k, _, a, hp, q⟩
  obtain _ | @⟨_, v0, _, _, r0, _ | _⟩ := a
  exact s_ret (ev_dcKeys (K := K) (xs := ms) (ev_var rfl r0) hp (fun _ _ => ev_c fun _ => trivial) (by show 1 < 2; decide)) k.refl fun v B4 H4 S4 r4 => q v B4 H4 S4 r4
/-! missed_by -/
def mis (m : Nat) (hs : List Int) (w : Int) (bs : List Nat) : List Int := (hs.zip bs).map fun p => p.1 + w * if decide (m &&& p.2 = 0) = true then 1 else 0
def p_missed_by (K : PySem.W.Frag) : Pm (Nat × List Int × Int × List Nat) where
  n := 4
  args x := [Is K x.1, Is K (Tu.mk x.2.1), Is K x.2.2.1, Is K x.2.2.2]
  pre x := x.2.1.length ≤ 1000
  res x := Is K (Tu.mk (mis x.1 x.2.1 x.2.2.1 x.2.2.2))
abbrev sp_missed_by (K : PySem.W.Frag) : Sp := (p_missed_by K).sp
def t_missed_by (K : PySem.W.Frag) : TS := (tRet (tThen (tLc (iZipM K false true (tCons (tVar 1) (tCons (tVar 3) tNil))) (gTup K 2 (gCons (gName 4) (gCons (gName 5) gNil))) tYes (tOp rAddI (tVar 4) (tOp rMulI (tVar 2) (tCB rInt (tCons (tOp (rEqD K) (tOp rAndI (tVar 0) (tVar 5)) (tC (.int 0))) tNil)))) [4, 5]) (kTup K)))
theorem len_missed_by (K : PySem.W.Frag) : ∀ vs H Q E, sp_missed_by K vs H Q E → vs.length = 4 := Pm.len _ rfl
theorem cmul01 (i : Int) (b : Bool) : CMul i (if b = true then 1 else 0) := .inr (by cases b <;> decide)
theorem pure_missed_by (c : Kn0 K) : ∀ vs H Q E, sp_missed_by K vs H Q E → t_missed_by K { nx := fun _ H' => Q .non H', rt := Q } (start ["mask", "missed", "weight", "bits", "held", "bit"] vs) H := by
  rintro vs H Q E ⟨C, B, ⟨m, hs, w, bs⟩, k, _, a, hp, q⟩
  have hp : hs.length ≤ 1000 := hp
  obtain _ | @⟨_, v0, _, _, r0, _ | @⟨_, v1, _, _, r1, _ | @⟨_, v2, _, _, r2, _ | @⟨_, v3, _, _, r3, _ | _⟩⟩⟩⟩ := a
  refine s_ret (ev_tupleD (K := K) (xs := mis m hs w bs) (ev_lcMD (K := K) (xs := hs.zip bs) (Ri := fun p => TupR [Is K p.1, Is K p.2]) (J := fun p => JP 4 5 (Is K p.1) (Is K p.2)) _
    (ei_zipMD (K := K) (ea_cons ((ev_var rfl r1).le fun _ _ => is_tup.mp) (ea_cons ((ev_var rfl r3).le fun _ _ => is_lst.mp) ea_nil))) ?_ (fun x => go_pair) fun p σ2 B' hb eb j => ?_)) k.refl fun v B4 H4 S4 r4 => q v B4 H4 S4 r4
  · rw [List.length_zip]; omega
  · obtain ⟨v, u, hv, hu, rfl⟩ := j
    exact ⟨rfl, ev_i (K := K) (g := fun i j => i + j) (ev_var rfl hv) (ev_ic (K := K) (c := CMul) (g := fun i j => i * j) (ev_var rfl (Rp.mono _ eb r2)) (ev_intB (K := K) (ev_eq (K := K) (α := Nat) (ev_andN (K := K) (ev_var rfl (Rp.mono _ eb r0)) (ev_var rfl hu)) ev_nat)) (cmul01 _ _))⟩
/-! councils -/
abbrev CouR (K : PySem.W.Frag) (ws qs : List Int) : Rp := InsR (He.ga K "Council") [("seat_weights", Is K ws), ("column_quotas", Is K qs)]
def p_Council_total (K : PySem.W.Frag) : Pm (List Int × List Int) where
  n := 1
  args x := [CouR K x.1 x.2]
  res x := Is K x.1.sum
abbrev sp_Council_total (K : PySem.W.Frag) : Sp := (p_Council_total K).sp
def t_Council_total (K : PySem.W.Frag) : TS := (tRet (tCB (rSum K) (tCons (tFld K (tVar 0) "seat_weights") tNil)))
theorem len_Council_total (K : PySem.W.Frag) : ∀ vs H Q E, sp_Council_total K vs H Q E → vs.length = 1 := Pm.len _ rfl
theorem pure_Council_total (c : Kn_Council K) : ∀ vs H Q E, sp_Council_total K vs H Q E → t_Council_total K { nx := fun _ H' => Q .non H', rt := Q } (start ["self"] vs) H := by
  rintro vs H Q E ⟨C, B, ⟨ws, qs⟩, k, _, a, _, q⟩
  obtain _ | @⟨_, v0, _, _, r0, _ | _⟩ := a
  exact s_ret (ev_sum (K := K) (ns := ws) (ev_fld c.l_Council c.n_Council_seat_weights (ev_var rfl r0) rfl)) k.refl fun v B4 H4 S4 r4 => q v B4 H4 S4 r4
def p_Council_weights (K : PySem.W.Frag) : Pm (List Int × List Int) where
  n := 1
  args x := [CouR K x.1 x.2]
  res x := Is K x.1
abbrev sp_Council_weights (K : PySem.W.Frag) : Sp := (p_Council_weights K).sp
def t_Council_weights (K : PySem.W.Frag) : TS := (tRet (tCB (rListQ K) (tCons (tFld K (tVar 0) "seat_weights") tNil)))
theorem len_Council_weights (K : PySem.W.Frag) : ∀ vs H Q E, sp_Council_weights K vs H Q E → vs.length = 1 := Pm.len _ rfl
theorem pure_Council_weights (c : Kn_Council K) : ∀ vs H Q E, sp_Council_weights K vs H Q E → t_Council_weights K { nx := fun _ H' => Q .non H', rt := Q } (start ["self"] vs) H := by
  rintro vs H Q E ⟨C, B, ⟨ws, qs⟩, k, _, a, _, q⟩
  obtain _ | @⟨_, v0, _, _, r0, _ | _⟩ := a
  exact s_ret (ev_listD (K := K) (xs := ws) (ev_fld c.l_Council c.n_Council_seat_weights (ev_var rfl r0) rfl)) k.refl fun v B4 H4 S4 r4 => q v B4 H4 S4 r4
def room (ws qs : List Int) (s : Sd) : Int := match s.2 with
  | .least => qs.getD s.1.toNat 0 - 1
  | .most => ws.sum - qs.getD s.1.toNat 0
def p_Council_allowance (K : PySem.W.Frag) : Pm ((List Int × List Int) × Sd) where
  n := 2
  args x := [CouR K x.1.1 x.1.2, Is K x.2]
  pre x := 0 ≤ x.2.1 ∧ x.2.1 < x.1.2.length
  res x := Is K (room x.1.1 x.1.2 x.2)
abbrev sp_Council_allowance (K : PySem.W.Frag) : Sp := (p_Council_allowance K).sp
def t_Council_allowance (K : PySem.W.Frag) : TS := (tSeq (tAsg (tVar 1) (gTup K 2 (gCons (gName 2) (gCons (gName 3) gNil))))
  (tSeq (tIfS (tTest (tOp (rEqD K) (tVar 3) (tC (.str "least")))) (tRet (tOp rSubI (tOp (rIxL K) (tFld K (tVar 0) "column_quotas") (tVar 2)) (tC (.int 1)))) tNext)
  (tRet (tOp rSubI (tMeth (He.ga K "Council") "total" (sp_Council_total K) [] E0 (tVar 0) tNil) (tOp (rIxL K) (tFld K (tVar 0) "column_quotas") (tVar 2))))))
theorem len_Council_allowance (K : PySem.W.Frag) : ∀ vs H Q E, sp_Council_allowance K vs H Q E → vs.length = 2 := Pm.len _ rfl
theorem pure_Council_allowance (c : Kn_Council K) : ∀ vs H Q E, sp_Council_allowance K vs H Q E → t_Council_allowance K { nx := fun _ H' => Q .non H', rt := Q } (start ["self", "side", "column", "way"] vs) H := by
  rintro vs H Q E ⟨C, B, ⟨⟨ws, qs⟩, s⟩, k, _, a, hp, q⟩
  obtain _ | @⟨_, v0, _, _, r0, _ | @⟨_, v1, _, _, r1, _ | _⟩⟩ := a
  refine q_asg2 (K := K) (ev_var rfl (is_pair.mp r1)) k.refl fun cv wv B2 H2 S s2 rc rw' => ?_
  have R0 : (CouR K ws qs).P v0 B2 := Rp.mono _ s2.bb r0
  have ix : Ev C (tOp (rIxL K) (tFld K (tVar 0) "column_quotas") (tVar 2)) [some v0, some v1, some cv, some wv] B2 (Is K (qs.getD s.1.toNat 0)) :=
    ev_ixLd (K := K) (xs := qs) (ev_fld c.l_Council c.n_Council_column_quotas (ev_var rfl R0) rfl) (ev_var rfl rc) (atI_some hp.1 hp.2)
  refine q_if (et_test (ev_eq (ev_var rfl rw') ev_least)) S (fun e H3 S3 s3 => ?_) (fun e H3 S3 s3 => ?_)
  · refine s_ret (ev_i (K := K) (g := fun i j => i - j) ix ev_int) S3 fun v B4 H4 S4 r4 => q v B4 H4 S4 ?_
    have ew : s.2 = .least := of_decide_eq_true e
    show (Is K (room ws qs s)).P v B4
    unfold room; rw [ew]; exact r4
  · refine s_ret (ev_i (K := K) (g := fun i j => i - j) (ev_meth (p := p_Council_total K) (ws, qs) (ev_var rfl R0) ea_nil rfl rfl trivial) ix) S3 fun v B4 H4 S4 r4 => q v B4 H4 S4 ?_
    have ew : ¬ s.2 = .least := of_decide_eq_false e
    have ew2 : s.2 = .most := by cases h : s.2 <;> simp_all
    show (Is K (room ws qs s)).P v B4
    unfold room; rw [ew2]; exact r4
def p_rooms_of (K : PySem.W.Frag) : Pm ((List Int × List Int) × List Sd) where
  n := 2
  args x := [CouR K x.1.1 x.1.2, Is K x.2]
  pre x := (∀ s ∈ x.2, 0 ≤ s.1 ∧ s.1 < x.1.2.length) ∧ x.2.length ≤ 1000
  res x := Is K (x.2.map (room x.1.1 x.1.2))
abbrev sp_rooms_of (K : PySem.W.Frag) : Sp := (p_rooms_of K).sp
def t_rooms_of (K : PySem.W.Frag) : TS := (tRet (tLc (iList K (tVar 1)) (gName 2) tYes (tMeth (He.ga K "Council") "allowance" (sp_Council_allowance K) [] E0 (tVar 0) (tCons (tVar 2) tNil)) [2]))
theorem len_rooms_of (K : PySem.W.Frag) : ∀ vs H Q E, sp_rooms_of K vs H Q E → vs.length = 2 := Pm.len _ rfl
theorem pure_rooms_of (c : Kn_Council K) : ∀ vs H Q E, sp_rooms_of K vs H Q E → t_rooms_of K { nx := fun _ H' => Q .non H', rt := Q } (start ["council", "sides", "side"] vs) H := by
  rintro vs H Q E ⟨C, B, ⟨⟨ws, qs⟩, ss⟩, k, _, a, hp, q⟩
  obtain _ | @⟨_, v0, _, _, r0, _ | @⟨_, v1, _, _, r1, _ | _⟩⟩ := a
  refine s_ret (ev_lcMD (room ws qs) (ei_listD (ev_var rfl r1)) (Nat.le_trans hp.2 (by decide)) (fun x => go_name) fun s σ2 B' hb eb j => ?_) k.refl fun v B4 H4 S4 r4 => q v B4 H4 S4 r4
  obtain ⟨v, hv, rfl⟩ := j
  exact ⟨rfl, ev_meth (p := p_Council_allowance K) ((ws, qs), s) (ev_var rfl (Rp.mono _ eb r0)) (ea_cons (ev_var rfl hv) ea_nil) rfl rfl (hp.1 s hb)⟩
end
end Pk

/-! What a round's sessions of sets make: the promise. -/
namespace Pk
open PySem L2
open Enc (enc dep)
def cap (hs rooms : List Int) : List Int := (hs.zip rooms).map fun p => if p.2 + 1 < p.1 then p.2 + 1 else p.1
def nxt (bs : List Nat) (rooms : List Int) (h : List Int) (w : Int) (m : Nat) : List Int := cap (mis m h w bs) rooms
def inner (bs : List Nat) (rooms : List Int) (w : Int) (h : List Int) (ms : List Nat) (acc : List (List Int × List Nat)) (level : List Nat) : List (List Int × List Nat) := level.foldl (fun acc m => putN acc (nxt bs rooms h w m) (ms ++ [m])) acc
def laterOf (bs : List Nat) (rooms : List Int) (level : List Nat) (st : List (List Int × List Nat)) (w : Int) : List (List Int × List Nat) := st.foldl (fun acc p => inner bs rooms w p.1 p.2 acc level) []
def statesOf (bs : List Nat) (rooms : List Int) (level : List Nat) (n : Nat) (ws : List Int) : List (List Int × List Nat) := ws.foldl (laterOf bs rooms level) [(List.replicate n 0, [])]
def wholeOf (bs : List Nat) (rooms h : List Int) : Nat := (((bs.zip (h.zip rooms)).filter fun p => decide (p.2.1 ≤ p.2.2)).map Prod.fst).sum
def foundOf (bs : List Nat) (rooms : List Int) (st : List (List Int × List Nat)) : List (Nat × List Nat) := st.foldl (fun acc p => putN acc (wholeOf bs rooms p.1) p.2) []
def sessOf (ws rooms : List Int) (level : List Nat) (n : Nat) : List (Nat × List Nat) := foundOf (bits n) rooms (statesOf (bits n) rooms level n ws)
section
variable {bs : List Nat} {rooms : List Int} {level : List Nat}
theorem mem_putN {α ν : Type} [DecidableEq α] {st : List (α × ν)} {k : α} {v : ν} {p : α × ν} (h : p ∈ putN st k v) : p ∈ st ∨ p = (k, v) := by
  unfold putN at h
  split at h
  · exact .inl h
  · rcases List.mem_append.mp h with h | h
    · exact .inl h
    · exact .inr (List.mem_singleton.mp h)
theorem inner_len (w : Int) (h : List Int) (ms : List Nat) : ∀ (level : List Nat) (acc : List (List Int × List Nat)), (inner bs rooms w h ms acc level).length ≤ acc.length + level.length
  | [], acc => Nat.le_refl _
  | m :: level, acc => by
    have h1 := inner_len w h ms level (putN acc (nxt bs rooms h w m) (ms ++ [m]))
    have h2 := putN_len acc (nxt bs rooms h w m) (ms ++ [m])
    show (inner bs rooms w h ms (putN acc _ _) level).length ≤ _
    rw [List.length_cons]; omega
theorem inner_mem (w : Int) (h : List Int) (ms : List Nat) : ∀ (level : List Nat) (acc : List (List Int × List Nat)) (p), p ∈ inner bs rooms w h ms acc level → p ∈ acc ∨ ∃ m ∈ level, p = (nxt bs rooms h w m, ms ++ [m])
  | [], acc, p, hp => .inl hp
  | m :: level, acc, p, hp => by
    rcases inner_mem w h ms level (putN acc (nxt bs rooms h w m) (ms ++ [m])) p hp with h1 | ⟨m', h1, h2⟩
    · rcases mem_putN h1 with h1 | h1
      · exact .inl h1
      · exact .inr ⟨m, List.mem_cons_self, h1⟩
    · exact .inr ⟨m', List.mem_cons_of_mem _ h1, h2⟩
theorem later_gen (w : Int) : ∀ (st acc : List (List Int × List Nat)), (st.foldl (fun acc p => inner bs rooms w p.1 p.2 acc level) acc).length ≤ acc.length + st.length * level.length ∧
    ∀ p ∈ st.foldl (fun acc p => inner bs rooms w p.1 p.2 acc level) acc, p ∈ acc ∨ ∃ q ∈ st, ∃ m ∈ level, p = (nxt bs rooms q.1 w m, q.2 ++ [m])
  | [], acc => ⟨by simp, fun p hp => .inl hp⟩
  | q :: st, acc => by
    have h1 := inner_len (bs := bs) (rooms := rooms) w q.1 q.2 level acc
    have h2 := later_gen w st (inner bs rooms w q.1 q.2 acc level)
    refine ⟨?_, fun p hp => ?_⟩
    · refine Nat.le_trans h2.1 ?_
      rw [List.length_cons, Nat.succ_mul]; omega
    · rcases h2.2 p hp with h3 | ⟨q', h3, m, h4, h5⟩
      · rcases inner_mem w q.1 q.2 level acc p h3 with h3 | ⟨m, h3, h4⟩
        · exact .inl h3
        · exact .inr ⟨q, List.mem_cons_self, m, h3, h4⟩
      · exact .inr ⟨q', List.mem_cons_of_mem _ h3, m, h4, h5⟩
theorem mis_len {m : Nat} {h : List Int} {w : Int} {bs : List Nat} (e : bs.length = h.length) : (mis m h w bs).length = h.length := by unfold mis; rw [List.length_map, List.length_zip, e, Nat.min_self]
theorem nxt_len {h : List Int} {w : Int} {m n : Nat} (h1 : bs.length = n) (h2 : rooms.length = n) (h3 : h.length = n) : (nxt bs rooms h w m).length = n := by
  unfold nxt cap; rw [List.length_map, List.length_zip, mis_len (by omega), h3, h2, Nat.min_self]
theorem states_ok {n : Nat} (h1 : bs.length = n) (h2 : rooms.length = n) (ws : List Int) : (statesOf bs rooms level n ws).length ≤ level.length ^ ws.length ∧ ∀ p ∈ statesOf bs rooms level n ws, p.1.length = n ∧ p.2.length = ws.length := by
  refine snoc_ind (P := fun ws => (statesOf bs rooms level n ws).length ≤ level.length ^ ws.length ∧ ∀ p ∈ statesOf bs rooms level n ws, p.1.length = n ∧ p.2.length = ws.length) ⟨Nat.le_refl _, fun p hp => ?_⟩ (fun ws w ih => ?_) ws
  · cases List.mem_singleton.mp hp; exact ⟨List.length_replicate, rfl⟩
  · have e : statesOf bs rooms level n (ws ++ [w]) = laterOf bs rooms level (statesOf bs rooms level n ws) w := by unfold statesOf; rw [List.foldl_append]; rfl
    rw [e]
    have g := later_gen (bs := bs) (rooms := rooms) (level := level) w (statesOf bs rooms level n ws) []
    refine ⟨?_, fun p hp => ?_⟩
    · refine Nat.le_trans g.1 ?_
      rw [List.length_append, List.length_singleton, Nat.pow_succ, List.length_nil, Nat.zero_add]
      exact Nat.mul_le_mul_right _ ih.1
    · rcases g.2 p hp with h3 | ⟨q, h3, m, h4, rfl⟩
      · cases h3
      · have := ih.2 q h3
        refine ⟨nxt_len h1 h2 this.1, ?_⟩
        rw [List.length_append, List.length_append, this.2]; rfl
end
section
variable {K : PySem.W.Frag}
def sp_sessions_of (K : PySem.W.Frag) : Sp := fun vs H Q E => ∃ (C : MI) (B : Hp) (ws qs : List Int) (level : List Nat) (bds : List Bd), Ok C B H ∧ Args [CouR K ws qs, Is K level, Is K bds] vs B ∧
  ((∀ b ∈ bds, 0 ≤ b.c ∧ b.c < qs.length) ∧ bds.length ≤ 1000 ∧ 1 ≤ level.length ∧ level.length ^ ws.length ≤ 16000000 ∧ ws.length ≤ 1000) ∧
  ∀ d B2 H2, Stp C B H B2 H2 → AccK C H (Is K (α := List Nat)) d (sessOf ws (bds.map fun b => room ws qs (b.c, b.w)) level bds.length) B2 H2 → Q (.ref d) H2
theorem len_sessions_of (K : PySem.W.Frag) : ∀ vs H Q E, sp_sessions_of K vs H Q E → vs.length = 3 := fun vs H Q E ⟨C, B, ws, qs, level, bds, _, a, _⟩ => by rw [← a.pkLen]; rfl
def t_sessions_of (K : PySem.W.Frag) : TS := (tSeq (tPar 3 4 (tCons (tCall (sp_bits_of K) [] E0 (tCons (tCB (rLenQ K) (tCons (tVar 2) tNil)) tNil)) (tCons (tCall (sp_rooms_of K) [] E0 (tCons (tVar 0) (tCons (tLc (iList K (tVar 2)) (gName 14) tYes (tSl (rSlA K) (tVar 14) tNoPart (tPart (tC (.int 2)))) [14]) tNil))) tNil)))
  (tSeq (tAsg (tDisp1T (tThen (tOp rRep (tLst (tCons (tC (.int 0)) tNil)) (tCB (rLenQ K) (tCons (tVar 2) tNil))) (kTup K)) (tLst tNil)) (gName 5))
  (tSeq (tFor (iList K (tMeth (He.ga K "Council") "weights" (sp_Council_weights K) [] E0 (tVar 0) tNil)) (gName 6) (tSeq (tAsg tDNewT (gName 10))
  (tSeq (tFor (iItemsT (tFrz (tVar 5))) (gTup K 2 (gCons (gName 8) (gCons (gName 9) gNil))) (tFor (iList K (tVar 1)) (gName 12) (tSeq (tAsg (tCall (sp_missed_by K) [] E0 (tCons (tVar 12) (tCons (tVar 8) (tCons (tVar 6) (tCons (tVar 3) tNil))))) (gName 13))
  (tSeq (tAsg (tThen (tLc (iZipM K false true (tCons (tVar 13) (tCons (tVar 4) tNil))) (gTup K 2 (gCons (gName 16) (gCons (gName 17) gNil))) tYes (tCB rMin2 (tCons (tVar 16) (tCons (tOp rAddI (tVar 17) (tC (.int 1))) tNil))) [16, 17]) (kTup K)) (gName 13))
  (tIfS (tB (tDNotIn (tVar 13) (tVar 10))) (sDPut (tVar 10) (tVar 13) (tOp rCat (tVar 9) (tLst (tCons (tVar 12) tNil)))) tNext)))))
  (tAsg (tVar 10) (gName 5)))))
  (tSeq (tAsg tDNewK (gName 7))
  (tSeq (tFor (iItemsT (tFrz (tVar 5))) (gTup K 2 (gCons (gName 8) (gCons (gName 9) gNil))) (tSeq (tAsg (tCB (rSum K) (tCons (tLc (iZipM3 K true false true (tCons (tVar 3) (tCons (tVar 8) (tCons (tVar 4) tNil)))) (gTup K 3 (gCons (gName 15) (gCons (gName 16) (gCons (gName 17) gNil)))) (tTest (tOp rLeI (tVar 16) (tVar 17))) (tVar 15) [15, 16, 17]) tNil)) (gName 11))
  (tDrop (tDSetd (tVar 7) (tVar 11) (tVar 9)))))
  (tRet (tVar 7)))))))
theorem pure_sessions_of (c : Kn_Council K) : ∀ vs H Q E, sp_sessions_of K vs H Q E → t_sessions_of K { nx := fun _ H' => Q .non H', rt := Q } (start ["council", "level", "bounds", "bits", "rooms", "states", "weight", "found", "missed", "masks", "later", "whole", "mask", "more", "bound", "bit", "held", "room"] vs) H := by
  rintro vs H Q E ⟨C, B, ws, qs, level, bds, k, a, ⟨hb, hn, hl1, hlp, hw⟩, q⟩
  obtain _ | @⟨_, v0, _, _, r0, _ | @⟨_, v1, _, _, r1, _ | @⟨_, v2, _, _, r2, _ | _⟩⟩⟩ := a
  have hll : level.length ≤ 16000000 ∨ ws = [] := by
    cases ws with
    | nil => exact .inr rfl
    | cons w ws =>
      refine .inl (Nat.le_trans ?_ hlp)
      rw [List.length_cons, Nat.pow_succ]
      exact Nat.le_mul_of_pos_left _ (Nat.pow_pos hl1)
  let rooms : List Int := bds.map fun b => room ws qs (b.c, b.w)
  let n := bds.length
  have hr : rooms.length = n := List.length_map ..
  have hbl : (bits n).length = n := bits_len n
  refine q_par (R1 := Is K (bits n)) (R2 := Is K rooms) (ea_cons (ev_call (p := p_bits_of K) n (ea_cons (ev_lenD (K := K) (ev_var rfl r2)) ea_nil) hn) (ea_cons (Ev.to (F := Is K) (ev_call (p := p_rooms_of K) ((ws, qs), bds.map fun b => (b.c, b.w)) (ea_cons (ev_var rfl r0) (ea_cons (ev_lcMD (K := K) _ (ei_listD (ev_var rfl r2)) (Nat.le_trans hn (by decide)) (fun x => go_name) fun b σ2 B' hb' eb j => ?_) ea_nil)) ?_) ?_) ea_nil)) k.refl fun v3 v4 B2 H2 S2 s2 r3 r4 => ?_
  · obtain ⟨v, hv, rfl⟩ := j
    exact ⟨rfl, ev_sl2 (ev_var rfl hv)⟩
  · refine ⟨fun s hs => ?_, by rw [List.length_map]; exact hn⟩
    obtain ⟨b, hb1, rfl⟩ := List.mem_map.mp hs
    exact hb b hb1
  · show List.map _ (List.map _ bds) = _
    rw [List.map_map]; rfl
  have R0 : (CouR K ws qs).P v0 B2 := Rp.mono _ s2.bb r0
  have R1 : (Is K level).P v1 B2 := Rp.mono _ s2.bb r1
  have R2 : (Is K bds).P v2 B2 := Rp.mono _ s2.bb r2
  refine q_disp1T (Rv := Is K (α := List Nat)) (h := List.replicate n 0) (y := []) (Ev.to (F := Is K) (ev_tupleD (K := K) (ev_repD (K := K) (x := (0 : Int)) (n := (bds.length : Int)) (ev_lstD (α := Int) (xs := [0]) (ea_cons ev_int ea_nil)) (ev_lenD (K := K) (ev_var rfl R2)) (by omega))) (by simp [n])) (ev_lstD (α := Nat) (xs := []) ea_nil) S2 fun l B3 H3 S3 e3 A3 => ?_
  refine q_forD (J := fun w => JN 6 (Is K w)) (ei_listD (ev_meth (p := p_Council_weights K) (ws, qs) (ev_var rfl (Rp.mono _ e3 R0)) ea_nil rfl rfl trivial)) S3 (fun x => go_name)
    (fun pre σ1 B1 H1 => ∃ l o6 o8 o9 o10 o12 o13, σ1 = [some v0, some v1, some v2, some v3, some v4, some (.ref l), o6, none, o8, o9, o10, none, o12, o13, none, none, none, none] ∧ AccT C H (Is K (α := List Nat)) l (statesOf (bits n) rooms level n pre) B1 H1)
    (fun B1 H1 S1 s1 => ⟨l, none, none, none, none, none, none, rfl, A3.step s1⟩) (fun pre w post σ1 B4 H4 B5 H5 hx S4 e4 ⟨l, o6, o8, o9, o10, o12, o13, hs, A4⟩ s5 σ2 j => ?_) (fun σ1 B4 H4 S4 e4 ⟨l, o6, o8, o9, o10, o12, o13, hs, A4⟩ => ?_)
  · subst hs
    obtain ⟨v6, r6, rfl⟩ := j
    have A5 := A4.step s5
    have S5 := S4.trans s5
    have hst := states_ok (bs := bits n) (rooms := rooms) (level := level) hbl hr pre
    have hpre : pre.length < ws.length := pre_len hx
    have hsz : (statesOf (bits n) rooms level n pre).length * level.length ≤ 16000000 := by
      refine Nat.le_trans (Nat.mul_le_mul_right _ hst.1) (Nat.le_trans ?_ hlp)
      rw [← Nat.pow_succ]
      exact Nat.pow_le_pow_right hl1 hpre
    refine q_newT (Rv := Is K (α := List Nat)) S5 fun l2 hl2 S6 A6 => ?_
    have n12 : l ≠ l2 := by
      intro z; subst z
      obtain ⟨kvs, g, _⟩ := A5.is
      rw [hl2] at g; cases g
    have A5' := A5.far (o := .dT []) n12
    refine q_forT (J := fun p : List Int × List Nat => JP 8 9 (Is K (Tu.mk p.1)) (Is K p.2)) A5' rfl S6 (fun x => go_pair)
      (fun pre2 σ1 B1 H1 => ∃ o8 o9 o12 o13, σ1 = [some v0, some v1, some v2, some v3, some v4, some (.ref l), some v6, none, o8, o9, some (.ref l2), none, o12, o13, none, none, none, none] ∧ Ex B5 B1 ∧ AccT C H (Is K (α := List Nat)) l2 (laterOf (bits n) rooms level pre2 w) B1 H1)
      (fun o S7 B1 H1 S1 s1 => ⟨o8, o9, o12, o13, rfl, (Ex.new A5'.off).trans s1.bb, (A6.far2 (Ne.symm n12) A5'.off).step s1⟩) (fun pre2 p post2 σ1 B7 H7 B8 H8 hx2 S7 e7 ⟨o8, o9, o12, o13, hs, e57, A7⟩ s8 σ2 j => ?_) (fun σ1 B7 H7 S7 e7 ⟨o8, o9, o12, o13, hs, e57, A7⟩ => ?_)
    · subst hs
      obtain ⟨v8, v9, r8, r9, rfl⟩ := j
      have hp2 : pre2.length < (statesOf (bits n) rooms level n pre).length := pre_len hx2
      have hpm : p ∈ statesOf (bits n) rooms level n pre := by rw [hx2]; simp
      have hpl := hst.2 p hpm
      have hsz2 : (pre2.length + 1) * level.length ≤ 16000000 := Nat.le_trans (Nat.mul_le_mul_right _ hp2) hsz
      have hacc : (laterOf (bits n) rooms level pre2 w).length ≤ ([] : List (List Int × List Nat)).length + pre2.length * level.length := (later_gen (bs := bits n) (rooms := rooms) (level := level) w pre2 []).1
      rw [List.length_nil, Nat.zero_add] at hacc
      have A8 := A7.step s8
      have e58 : Ex B5 B8 := e57.trans s8.bb
      have e28 : Ex B2 B8 := e3.trans (e4.trans (s5.bb.trans e58))
      have R1' : (Is K level).P v1 B8 := Rp.mono _ e28 R1
      refine s_forD (J := fun m => JN 12 (Is K m)) (ei_listD (ev_var rfl R1')) (S7.trans s8) (fun x => go_name)
        (fun pre3 σ1 B1 H1 => ∃ o12 o13, σ1 = [some v0, some v1, some v2, some v3, some v4, some (.ref l), some v6, none, some v8, some v9, some (.ref l2), none, o12, o13, none, none, none, none] ∧
          AccT C H (Is K (α := List Nat)) l2 (inner (bits n) rooms w p.1 p.2 (laterOf (bits n) rooms level pre2 w) pre3) B1 H1)
        (fun B1 H1 S1 s1 => ⟨o12, o13, rfl, A8.step s1⟩) (fun pre3 m post3 σ1 B9 H9 B10 H10 hx3 S9 e9 ⟨o12, o13, hs, A9⟩ s10 σ2 j => ?_) (fun σ1 B9 H9 S9 e9 ⟨o12, o13, hs, A9⟩ => ?_)
      · subst hs
        obtain ⟨v12, r12, rfl⟩ := j
        have hp3 : pre3.length < level.length := pre_len hx3
        have A10 := A9.step s10
        have S10 := S9.trans s10
        have e810 : Ex B8 B10 := e9.trans s10.bb
        have e210 : Ex B2 B10 := e28.trans e810
        have R3 : (Is K (bits n)).P v3 B10 := Rp.mono _ e210 r3
        have R4 : (Is K rooms).P v4 B10 := Rp.mono _ e210 r4
        have R6 : (Is K w).P v6 B10 := Rp.mono _ (e58.trans e810) r6
        have R8 : (Is K (Tu.mk p.1)).P v8 B10 := Rp.mono _ e810 r8
        have R9 : (Is K p.2).P v9 B10 := Rp.mono _ e810 r9
        refine q_asg (ev_call (p := p_missed_by K) (m, p.1, w, bits n) (ea_cons (ev_var rfl r12) (ea_cons (ev_var rfl R8) (ea_cons (ev_var rfl R6) (ea_cons (ev_var rfl R3) ea_nil)))) (show p.1.length ≤ 1000 by omega)) S10 fun v13 B11 H11 S11 s11 r13 => ?_
        refine q_asg (R := Is K (Tu.mk (nxt (bits n) rooms p.1 w m))) (ev_tupleD (K := K) (xs := nxt (bits n) rooms p.1 w m) (ev_lcMD (K := K) (xs := (mis m p.1 w (bits n)).zip rooms) (Ri := fun p => TupR [Is K p.1, Is K p.2]) (J := fun p => JP 16 17 (Is K p.1) (Is K p.2)) _
          (ei_zipMD (K := K) (ea_cons ((ev_var rfl r13).le (sq_t (K := K) (xs := Tu.mk (mis m p.1 w (bits n))))) (ea_cons ((ev_var rfl (Rp.mono _ s11.bb R4)).le (sq_l (K := K) (xs := rooms))) ea_nil))) ?_ (fun x => go_pair) fun p σ2 B' hb eb j => ?_)) S11 fun v13 B12 H12 S12 s12 r13 => ?_
        · rw [List.length_zip, hr]; omega
        · obtain ⟨v, u, hv, hu, rfl⟩ := j
          exact ⟨rfl, ev_min2 (K := K) (ev_var rfl hv) (ev_i (K := K) (g := fun i j => i + j) (ev_var rfl hu) ev_int)⟩
        have A12 := (A10.step s11).step s12
        have fin : ∀ {B' H'}, Stp C B H B' H' → Ex B9 B' → AccT C H (Is K (α := List Nat)) l2 (inner (bits n) rooms w p.1 p.2 (laterOf (bits n) rooms level pre2 w) (pre3 ++ [m])) B' H' →
            ∃ B, Stp C _ _ B H' ∧ Ex B9 B ∧ ∃ o12 o13, ([some v0, some v1, some v2, some v3, some v4, some (.ref l), some v6, none, some v8, some v9, some (.ref l2), none, some v12, some v13, none, none, none, none] : L2.St) = [some v0, some v1, some v2, some v3, some v4, some (.ref l), some v6, none, some v8, some v9, some (.ref l2), none, o12, o13, none, none, none, none] ∧
              AccT C H (Is K (α := List Nat)) l2 (inner (bits n) rooms w p.1 p.2 (laterOf (bits n) rooms level pre2 w) (pre3 ++ [m])) B H' := fun S e A => ⟨_, S, e, _, _, rfl, A⟩
        have estep : inner (bits n) rooms w p.1 p.2 (laterOf (bits n) rooms level pre2 w) (pre3 ++ [m]) = putN (inner (bits n) rooms w p.1 p.2 (laterOf (bits n) rooms level pre2 w) pre3) (nxt (bits n) rooms p.1 w m) (p.2 ++ [m]) := by
          unfold inner; rw [List.foldl_append]; rfl
        have hil := inner_len (bs := bits n) (rooms := rooms) w p.1 p.2 pre3 (laterOf (bits n) rooms level pre2 w)
        have hsm : (inner (bits n) rooms w p.1 p.2 (laterOf (bits n) rooms level pre2 w) pre3).length ≤ 16000000 := by
          rw [Nat.succ_mul] at hsz2; omega
        refine et_ninT (K := K) (h := nxt (bits n) rooms p.1 w m) A12 S12.ok (fun Q q => ⟨v13, rfl, q v13 r13⟩) rfl _ ?_
        by_cases hin : nxt (bits n) rooms p.1 w m ∈ (inner (bits n) rooms w p.1 p.2 (laterOf (bits n) rooms level pre2 w) pre3).map Prod.fst
        · rw [if_neg (by rw [decide_eq_false (fun z => z hin)]; exact Bool.false_ne_true)]
          refine fin S12 (s10.bb.trans (s11.bb.trans s12.bb)) ?_
          rw [estep]; unfold putN; rw [if_pos hin]; exact A12
        · rw [if_pos (decide_eq_true hin)]
          refine (ev_catD (K := K) (xs := p.2) (ys := [m]) (ev_var rfl (Rp.mono _ (s11.bb.trans s12.bb) R9)) (ev_lstD (α := Nat) (xs := [m]) (ea_cons (ev_var rfl (Rp.mono _ (s11.bb.trans s12.bb) r12)) ea_nil)) (by rw [hpl.2, List.length_singleton]; omega)) B12 H12 (.refl _) S12.ok _ fun y B13 H13 s13 r13' => ?_
          have A13 := A12.step s13
          obtain ⟨kvs, g1, g2, g3⟩ := A13.is
          obtain ⟨b, e1, e2⟩ := key_val (Rp.mono _ s13.bb r13)
          have nl : kvs.length = (inner (bits n) rooms w p.1 p.2 (laterOf (bits n) rooms level pre2 w) pre3).length := by have := congrArg List.length g2; simpa using this
          refine ⟨.ref l2, rfl, v13, rfl, l2, _, rfl, .inr ⟨kvs, ik (nxt (bits n) rooms p.1 w m), b, g1, e1, s13.ok.sub _ _ e2, by rw [nl]; exact Nat.lt_of_le_of_lt hsm (by decide), rfl⟩, ?_⟩
          have A14 := A13.put (fun _ _ => ik_inj) dT_inj g1 hin r13'
          refine fin ((S12.trans s13).loc A14.new A14.off A14.nm) (s10.bb.trans (s11.bb.trans (s12.bb.trans s13.bb))) ?_
          rw [estep]; unfold putN; rw [if_neg hin]; exact A14
      · subst hs
        refine ⟨B9, S9, s8.bb.trans e9, some v8, some v9, o12, o13, rfl, e58.trans e9, ?_⟩
        have : laterOf (bits n) rooms level (pre2 ++ [p]) w = inner (bits n) rooms w p.1 p.2 (laterOf (bits n) rooms level pre2 w) level := by unfold laterOf; rw [List.foldl_append]; rfl
        rw [this]
        exact A9
    · subst hs
      refine s_asg (i := 5) (R := RefR l2) (ev_var rfl rfl) S7 fun v B8 H8 S8 s8 r => ?_
      have ev : v = .ref l2 := r
      subst ev
      refine ⟨B8, S8, s5.bb.trans (e57.trans s8.bb), l2, some v6, o8, o9, some (.ref l2), o12, o13, rfl, ?_⟩
      have e : statesOf (bits n) rooms level n (pre ++ [w]) = laterOf (bits n) rooms level (statesOf (bits n) rooms level n pre) w := by unfold statesOf; rw [List.foldl_append]; rfl
      rw [e]
      exact A7.step s8
  · subst hs
    have hst := states_ok (bs := bits n) (rooms := rooms) (level := level) hbl hr ws
    refine q_newK (Rv := Is K (α := List Nat)) S4 fun l2 hl2 S6 A6 => ?_
    have n12 : l ≠ l2 := by
      intro z; subst z
      obtain ⟨kvs, g, _⟩ := A4.is
      rw [hl2] at g; cases g
    have A5' := A4.far (o := .dK []) n12
    have e24 : Ex B2 B4 := e3.trans e4
    refine q_forT (J := fun p : List Int × List Nat => JP 8 9 (Is K (Tu.mk p.1)) (Is K p.2)) A5' rfl S6 (fun x => go_pair)
      (fun pre2 σ1 B1 H1 => ∃ o8 o9 o11, σ1 = [some v0, some v1, some v2, some v3, some v4, some (.ref l), o6, some (.ref l2), o8, o9, o10, o11, o12, o13, none, none, none, none] ∧ Ex B4 B1 ∧ AccK C H (Is K (α := List Nat)) l2 (foundOf (bits n) rooms pre2) B1 H1)
      (fun o S7 B1 H1 S1 s1 => ⟨o8, o9, none, rfl, (Ex.new A5'.off).trans s1.bb, (A6.far2 (Ne.symm n12) A5'.off).step s1⟩) (fun pre2 p post2 σ1 B7 H7 B8 H8 hx2 S7 e7 ⟨o8, o9, o11, hs, e47, A7⟩ s8 σ2 j => ?_) (fun σ1 B7 H7 S7 e7 ⟨o8, o9, o11, hs, e47, A7⟩ => ?_)
    · subst hs
      obtain ⟨v8, v9, r8, r9, rfl⟩ := j
      have A8 := A7.step s8
      have e28 : Ex B2 B8 := e24.trans (e47.trans s8.bb)
      have R3 : (Is K (bits n)).P v3 B8 := Rp.mono _ e28 r3
      have R4 : (Is K rooms).P v4 B8 := Rp.mono _ e28 r4
      have hp2 : pre2.length < (statesOf (bits n) rooms level n ws).length := pre_len hx2
      have hle : (foundOf (bits n) rooms pre2).length ≤ pre2.length := by
        refine snoc_ind (P := fun l => (foundOf (bits n) rooms l).length ≤ l.length) (Nat.le_refl _) (fun l x ih => ?_) pre2
        have : foundOf (bits n) rooms (l ++ [x]) = putN (foundOf (bits n) rooms l) (wholeOf (bits n) rooms x.1) x.2 := by unfold foundOf; rw [List.foldl_append]; rfl
        rw [this, List.length_append, List.length_singleton]
        have := putN_len (foundOf (bits n) rooms l) (wholeOf (bits n) rooms x.1) x.2
        omega
      refine q_asg (R := Is K (wholeOf (bits n) rooms p.1)) (Ev.le (R := Is K ((((((bits n).zip (p.1.zip rooms)).filter fun p => decide (p.2.1 ≤ p.2.2)).map fun p => ((p.1 : Nat) : Int))).sum)) (ev_sum (K := K) (ev_lcFD (K := K) (xs := (bits n).zip (p.1.zip rooms)) (Ri := fun p => TupR [Is K p.1, Is K p.2.1, Is K p.2.2]) (J := fun p => JT 15 16 17 (Is K p.1) (Is K p.2.1) (Is K p.2.2)) _ _
        (ei_zipM3 (K := K) (ea_cons ((ev_var rfl R3).le (sq_l (K := K) (xs := bits n))) (ea_cons ((ev_var rfl r8).le (sq_t (K := K) (xs := Tu.mk p.1))) (ea_cons ((ev_var rfl R4).le (sq_l (K := K) (xs := rooms))) ea_nil)))) ?_ (fun x => go_triple) fun p σ2 B' hb eb j => ?_)) ?_) (S7.trans s8) fun v11 B9 H9 S9 s9 r11 => ?_
      · rw [List.length_zip, hbl]; omega
      · obtain ⟨v, u, z, hv, hu, hz, rfl⟩ := j
        exact ⟨rfl, et_test (ev_ib (K := K) (g := fun i j => decide (i ≤ j)) (ev_var rfl hu) (ev_var rfl hz)), fun _ => ev_natI (ev_var rfl hv)⟩
      · intro v B r
        have e : ((((((bits n).zip (p.1.zip rooms)).filter fun p => decide (p.2.1 ≤ p.2.2)).map fun p => ((p.1 : Nat) : Int))).sum) = ((wholeOf (bits n) rooms p.1 : Nat) : Int) := by
          unfold wholeOf
          generalize ((bits n).zip (p.1.zip rooms)).filter (fun p => decide (p.2.1 ≤ p.2.2)) = L
          induction L with
          | nil => rfl
          | cons x L ih => simp only [List.map_cons, List.sum_cons, ih]; omega
        rw [e] at r
        exact r
      have A9 := A8.step s9
      refine s_setd (n := wholeOf (bits n) rooms p.1) (y := p.2) A9 rfl ((ev_natI (ev_var rfl r11)).at S9.ok int_val) (fun H2 s2 Q q => ⟨v9, rfl, q v9 B9 H2 s2.ok.refl (Rp.mono _ s9.bb r9)⟩) S9 ?_ fun B10 H10 S10 e10 _ _ A10 => ?_
      · exact Nat.lt_of_le_of_lt hle (Nat.lt_of_lt_of_le hp2 (Nat.le_trans hst.1 (Nat.le_trans hlp (by decide))))
      · refine ⟨B10, S10, s8.bb.trans (s9.bb.trans e10), some v8, some v9, some v11, rfl, e47.trans (s8.bb.trans (s9.bb.trans e10)), ?_⟩
        have : foundOf (bits n) rooms (pre2 ++ [p]) = putN (foundOf (bits n) rooms pre2) (wholeOf (bits n) rooms p.1) p.2 := by unfold foundOf; rw [List.foldl_append]; rfl
        rw [this]; exact A10
    · subst hs
      exact ⟨.ref l2, rfl, q l2 B7 H7 S7 A7⟩
end
end Pk

/-! Rounds: promises. -/
namespace Pk
open PySem L2
open Enc (enc dep)
def metOf (bds : List Bd) (r : Tu Int) : Nat := ((((bits bds.length).zip bds).filter fun p => [p.2].all (okB r.l)).map Prod.fst).sum
def roomsB (c : List Int × List Int) (bds : List Bd) : List Int := bds.map fun b => room c.1 c.2 (b.c, b.w)
def wayStep (last : List Nat) (bds : List Bd) (acc : List (Nat × Unit)) (c : List Int × List Int) : List (Nat × Unit) := (sessOf c.1 (roomsB c bds) last bds.length).foldl (fun acc p => putN acc p.1 ()) acc
def waysOf (cs : List (List Int × List Int)) (bds : List Bd) (last : List Nat) : List (Nat × Unit) := cs.foldl (wayStep last bds) []
def lev0 (rows : List (Tu Int)) (bds : List Bd) : List Nat := grt (difs (rows.map (metOf bds)))
def nextOf (cs : List (List Int × List Int)) (bds : List Bd) (last : List Nat) : List Nat := grt (difs (last ++ (waysOf cs bds last).map Prod.fst))
def stops (nx : List Nat → List Nat) : Nat → List Nat → Prop
  | 0, last => last = [] ∨ nx last = last
  | f + 1, last => last = [] ∨ nx last = last ∨ stops nx f (nx last)
def levelsFrom (nx : List Nat → List Nat) : Nat → List Nat → List (List Nat)
  | 0, last => [last]
  | f + 1, last => if last = [] ∨ nx last = last then [last] else last :: levelsFrom nx f (nx last)
/-! bounds of the numbers -/
theorem bits_sum (n : Nat) : (bits n).sum + 1 = 2 ^ n := by
  induction n with
  | zero => rfl
  | succ n ih => rw [bits_succ, List.sum_append, Nat.pow_succ]; simp; omega
theorem zip_sum_le {β : Type} (p : Nat × β → Bool) : ∀ (xs : List Nat) (ys : List β), (((xs.zip ys).filter p).map Prod.fst).sum ≤ xs.sum
  | [], _ => by simp
  | _ :: _, [] => by simp
  | x :: xs, y :: ys => by
    have ih := zip_sum_le p xs ys
    rw [List.zip_cons_cons, List.filter_cons]
    split
    · simp only [List.map_cons, List.sum_cons]; omega
    · simp only [List.sum_cons]; omega
theorem whole_lt {n : Nat} {rooms h : List Int} : wholeOf (bits n) rooms h < 2 ^ n := by
  have h1 := zip_sum_le (fun p : Nat × Int × Int => decide (p.2.1 ≤ p.2.2)) (bits n) (h.zip rooms)
  have h2 := bits_sum n
  unfold wholeOf; omega
theorem met_lt {bds : List Bd} {r : Tu Int} : metOf bds r < 2 ^ bds.length := by
  have h1 := zip_sum_le (fun p : Nat × Bd => [p.2].all (okB r.l)) (bits bds.length) bds
  have h2 := bits_sum bds.length
  unfold metOf; omega
theorem nodup_le : ∀ (m : Nat) (l : List Nat), l.Nodup → (∀ x ∈ l, x < m) → l.length ≤ m
  | 0, l, _, h => by
    cases l with
    | nil => exact Nat.le_refl _
    | cons a l => exact absurd (h a List.mem_cons_self) (Nat.not_lt_zero _)
  | m + 1, l, nd, h => by
    have h1 := nodup_le m (l.erase m) (nd.erase m) fun x hx => by
      have := h x (List.mem_of_mem_erase hx)
      have ne : x ≠ m := fun e => by subst e; exact (nd.not_mem_erase) hx
      omega
    have := List.length_erase (a := m) (l := l)
    split at this <;> omega
structure NdLt (m : Nat) (l : List Nat) : Prop where
  nd : l.Nodup
  lt : ∀ x ∈ l, x < m
theorem NdLt.len {m : Nat} {l : List Nat} (h : NdLt m l) : l.length ≤ m := nodup_le m l h.nd h.lt
theorem putN_ndlt {ν : Type} {m : Nat} {st : List (Nat × ν)} {k : Nat} {v : ν} (h : NdLt m (st.map Prod.fst)) (hk : k < m) : NdLt m ((putN st k v).map Prod.fst) := by
  unfold putN
  split
  · exact h
  · rename_i hn
    rw [List.map_append]
    refine ⟨List.nodup_append.mpr ⟨h.nd, by simp, fun a ha b hb e => ?_⟩, fun x hx => ?_⟩
    · have : b = k := by simpa using hb
      subst this; subst e; exact hn ha
    · rcases List.mem_append.mp hx with hx | hx
      · exact h.lt x hx
      · have : x = k := by simpa using hx
        rw [this]; exact hk
theorem found_ndlt {n : Nat} {rooms : List Int} (st : List (List Int × List Nat)) : NdLt (2 ^ n) ((foundOf (bits n) rooms st).map Prod.fst) := by
  refine snoc_ind (P := fun st => NdLt (2 ^ n) ((foundOf (bits n) rooms st).map Prod.fst)) ⟨List.nodup_nil, fun x hx => by cases hx⟩ (fun st p ih => ?_) st
  have : foundOf (bits n) rooms (st ++ [p]) = putN (foundOf (bits n) rooms st) (wholeOf (bits n) rooms p.1) p.2 := by unfold foundOf; rw [List.foldl_append]; rfl
  rw [this]
  exact putN_ndlt ih whole_lt
theorem fold_ndlt {m : Nat} {ν : Type} : ∀ (xs : List (Nat × ν)) (acc : List (Nat × Unit)), NdLt m (acc.map Prod.fst) → (∀ x ∈ xs, x.1 < m) → NdLt m ((xs.foldl (fun acc p => putN acc p.1 ()) acc).map Prod.fst)
  | [], _, h, _ => h
  | x :: xs, acc, h, hx => fold_ndlt xs (putN acc x.1 ()) (putN_ndlt h (hx x List.mem_cons_self)) fun y hy => hx y (List.mem_cons_of_mem _ hy)
theorem way_ndlt {bds : List Bd} {last : List Nat} {acc : List (Nat × Unit)} {c : List Int × List Int} (h : NdLt (2 ^ bds.length) (acc.map Prod.fst)) : NdLt (2 ^ bds.length) ((wayStep last bds acc c).map Prod.fst) :=
  fold_ndlt _ _ h fun x hx => (found_ndlt _).lt x.1 (List.mem_map.mpr ⟨x, hx, rfl⟩)
theorem ways_ndlt {bds : List Bd} {last : List Nat} (cs : List (List Int × List Int)) : NdLt (2 ^ bds.length) ((waysOf cs bds last).map Prod.fst) := by
  refine snoc_ind (P := fun cs => NdLt (2 ^ bds.length) ((waysOf cs bds last).map Prod.fst)) ⟨List.nodup_nil, fun x hx => by cases hx⟩ (fun cs c ih => ?_) cs
  have : waysOf (cs ++ [c]) bds last = wayStep last bds (waysOf cs bds last) c := by unfold waysOf; rw [List.foldl_append]; rfl
  rw [this]; exact way_ndlt ih
section
variable {C : MI} {K : PySem.W.Frag} {σ : L2.St} {B0 H0 B H : Hp} {te : TE} {tz : TS} {D : Ends} {R : Rp} {i : Nat}
theorem q_fld {Cl x dx : Addr} {fs : List (Str × V)} {f : Str} (hx : σ[i]? = some (some (.ref x))) (hc : Cls K Cl) (hn : NoAttr K Cl f) (hf : fs.length < 1000) (h : EvAt C te σ B H R) (hH : H x = some (.ins Cl dx fs)) (nm : ¬ C.M x)
    (k : ∀ v B2 H2, Stp C B H B2 H2 → R.P v B2 → H2 x = some (.ins Cl dx fs) → tz D σ (upd H2 x (.ins Cl dx (putF f v fs)))) : tSeq (sFld K (tVar i) te f) tz D σ H :=
  h _ fun v B2 H2 s r => ⟨.ref x, hx, x, Cl, dx, fs, rfl, s.hh x _ nm hH, hc, hn, hf, k v B2 H2 s r (s.hh x _ nm hH)⟩
end
section
variable {K : PySem.W.Frag}
def p_Rounds_met (K : PySem.W.Frag) : Pm (List (Str × Rp) × Tu Int × List Bd) where
  n := 2
  args x := [InsR (He.ga K "Rounds") x.1, Is K x.2.1]
  pre x := x.1.lookup ("its_bounds" : Str) = some (Is K x.2.2) ∧ (∀ b ∈ x.2.2, 0 ≤ b.c ∧ b.c < x.2.1.l.length) ∧ x.2.2.length ≤ 1000
  res x := Is K (metOf x.2.2 x.2.1)
abbrev sp_Rounds_met (K : PySem.W.Frag) : Sp := (p_Rounds_met K).sp
def t_Rounds_met (K : PySem.W.Frag) : TS := (tSeq (tAsg (tCall (sp_bits_of K) [] E0 (tCons (tCB (rLenQ K) (tCons (tFld K (tVar 0) "its_bounds") tNil)) tNil)) (gName 2))
  (tRet (tCB (rSum K) (tCons (tLc (iZipM K true true (tCons (tVar 2) (tCons (tFld K (tVar 0) "its_bounds") tNil))) (gTup K 2 (gCons (gName 3) (gCons (gName 4) gNil))) (tB (tCall (sp_meets K) [] E0 (tCons (tVar 1) (tCons (tLst (tCons (tVar 4) tNil)) tNil)))) (tVar 3) [3, 4]) tNil))))
theorem len_Rounds_met (K : PySem.W.Frag) : ∀ vs H Q E, sp_Rounds_met K vs H Q E → vs.length = 2 := Pm.len _ rfl
theorem nat_sum {α : Type} (f : α → Nat) : ∀ L : List α, (L.map fun p => ((f p : Nat) : Int)).sum = (((L.map f).sum : Nat) : Int)
  | [] => rfl
  | x :: L => by
    have := nat_sum f L
    simp only [List.map_cons, List.sum_cons, this]; omega
theorem pure_Rounds_met (c : Kn_Rounds K) : ∀ vs H Q E, sp_Rounds_met K vs H Q E → t_Rounds_met K { nx := fun _ H' => Q .non H', rt := Q } (start ["self", "row", "bits", "bit", "bound"] vs) H := by
  rintro vs H Q E ⟨C, B, ⟨fs, r, bds⟩, k, _, a, ⟨hl, hb, hn⟩, q⟩
  have hn : bds.length ≤ 1000 := hn
  obtain _ | @⟨_, v0, _, _, r0, _ | @⟨_, v1, _, _, r1, _ | _⟩⟩ := a
  have fb : ∀ {σ : L2.St} {B'}, Ex B B' → σ[0]? = some (some v0) → Ev C (tFld K (tVar 0) "its_bounds") σ B' (Is K bds) := fun e h => ev_fld c.l_Rounds c.n_Rounds_its_bounds (ev_var h (Rp.mono _ e r0)) hl
  refine q_asg (ev_call (p := p_bits_of K) bds.length (ea_cons (ev_lenD (K := K) (fb (.refl _) rfl)) ea_nil) hn) k.refl fun v2 B2 H2 S2 s2 r2 => ?_
  refine s_ret (ev_sum (K := K) (ev_lcFD (K := K) (xs := (bits bds.length).zip bds) (Ri := fun p => TupR [Is K p.1, Is K p.2]) (J := fun p => JP 3 4 (Is K p.1) (Is K p.2)) (fun p => [p.2].all (okB r.l)) (fun p => ((p.1 : Nat) : Int))
    (ei_zipMD (K := K) (ea_cons ((ev_var rfl r2).le (sq_l (K := K) (xs := bits bds.length))) (ea_cons ((fb s2.bb rfl).le (sq_l (K := K) (xs := bds))) ea_nil))) ?_ (fun x => go_pair) fun p σ2 B' hb' eb j => ?_)) S2 fun v B4 H4 S4 r4 => q v B4 H4 S4 ?_
  · rw [List.length_zip, bits_len]; omega
  · obtain ⟨v, u, hv, hu, rfl⟩ := j
    have hp : p.2 ∈ bds := (List.of_mem_zip (a := p.1) (b := p.2) hb').2
    exact ⟨rfl, et_B (K := K) (ev_call (p := p_meets K) (r.l, [p.2]) (ea_cons (ev_var rfl (Rp.mono _ (s2.bb.trans eb) r1)) (ea_cons (ev_lstD (α := Bd) (xs := [p.2]) (ea_cons (ev_var rfl hu) ea_nil)) ea_nil)) ⟨fun b hb2 => by
      rw [List.mem_singleton.mp hb2]; exact hb p.2 hp, by simp⟩), fun _ => ev_natI (ev_var rfl hv)⟩
  · rw [nat_sum] at r4; exact r4
/-! the start -/
abbrev CouL (K : PySem.W.Frag) (cs : List (List Int × List Int)) : Rp := LstR (cs.map fun c => CouR K c.1 c.2)
def sp_Rounds___init__ (K : PySem.W.Frag) : Sp := fun vs H Q E => ∃ (C : MI) (B : Hp) (x dx : Addr) (us : List V) (rows : List (Tu Int)) (cs : List (List Int × List Int)) (wish : List Bd), vs = .ref x :: us ∧ Ok C B H ∧ H x = some (.ins (He.ga K "Rounds") dx []) ∧ B x = none ∧ ¬ C.M x ∧
  Args [Is K rows, CouL K cs, Is K wish] us B ∧ ((∀ r ∈ rows, ∀ b ∈ wish, 0 ≤ b.c ∧ b.c < r.l.length) ∧ wish.length ≤ 1000 ∧ rows.length ≤ 1000000) ∧
  ∀ r c b l w B2 H2, StpX C (fun a => a = x) B H B2 H2 → H2 x = some (.ins (He.ga K "Rounds") dx [("its_rows", r), ("its_councils", c), ("its_bounds", b), ("its_levels", .ref l), ("its_ways", .ref w)]) → B2 x = none →
    (Is K rows).P r B2 → (CouL K cs).P c B2 → (Is K (srt Bd false wish)).P b B2 → Acc C H (Is K) l [lev0 rows (srt Bd false wish)] B2 H2 → Acc C H (fun _ : Unit => AnyR) w [()] B2 H2 → l ≠ w → l ≠ x → w ≠ x → Q .non H2
theorem len_Rounds___init__ (K : PySem.W.Frag) : ∀ vs H Q E, sp_Rounds___init__ K vs H Q E → vs.length = 4 := fun vs H Q E ⟨C, B, x, dx, us, rows, cs, wish, e, _, _, _, _, a, _⟩ => by rw [e, List.length_cons, ← a.pkLen]; rfl
def t_Rounds___init__ (K : PySem.W.Frag) : TS := (tSeq (sFld K (tVar 0) (tVar 1) "its_rows")
  (tSeq (sFld K (tVar 0) (tVar 2) "its_councils")
  (tSeq (sFld K (tVar 0) (tCB (SrtIn K false) (tCons (tVar 3) tNil)) "its_bounds")
  (tSeq (sFld K (tVar 0) (tLst (tCons (tCall (sp_greatest_only K) [] E0 (tCons (tCall (sp_different K) [] E0 (tCons (tLc (iList K (tVar 1)) (gName 4) tYes (tMeth (He.ga K "Rounds") "met" (sp_Rounds_met K) [] E0 (tVar 0) (tCons (tVar 4) tNil)) [4]) tNil)) tNil)) tNil)) "its_levels")
  (sFld K (tVar 0) (tLst (tCons tDNewK tNil)) "its_ways")))))
theorem so_bd {xs : List Bd} : PySem.W.Sortable (xs.map enc) := .inl fun d hd => by
  obtain ⟨b, _, rfl⟩ := List.mem_map.mp hd
  exact ⟨_, _, rfl⟩
theorem srt_mem {α : Type} [Enc α] {b : Bool} {xs : List α} {x : α} : x ∈ srt α b xs ↔ x ∈ xs := List.mem_mergeSort
theorem pure_Rounds___init__ (c : Kn_Rounds K) : ∀ vs H Q E, sp_Rounds___init__ K vs H Q E → t_Rounds___init__ K { nx := fun _ H' => Q .non H', rt := Q } (start ["self", "rows", "councils", "wish", "row"] vs) H := by
  rintro vs H Q E ⟨C, B, x, dx, us, rows, cs, wish, rfl, k, hx, bx, nm, a, ⟨hv, hn, hrn⟩, q⟩
  obtain _ | @⟨_, v1, _, _, r1, _ | @⟨_, v2, _, _, r2, _ | @⟨_, v3, _, _, r3, _ | _⟩⟩⟩ := a
  let bds := srt Bd false wish
  let Cl := He.ga K "Rounds"
  have X0 : StpX C (fun a => a = x) B H B H := k.refl.toX fun a ha => by subst ha; rw [hx]; trivial
  refine q_fld rfl c.l_Rounds c.n_Rounds_its_rows (by decide) ((ev_var (R := ValR v1) rfl rfl).here k) hx nm fun w1 B1 H1 s1 e1 h1 => ?_
  have e1 : w1 = v1 := e1
  subst e1
  have X1 := (X0.then s1).put (x := x) (o := .ins Cl dx [("its_rows", w1)]) rfl (s1.nw x (by rw [hx]; trivial) bx) nm trivial
  have b1 := s1.nw x (by rw [hx]; trivial) bx
  refine q_fld rfl c.l_Rounds c.n_Rounds_its_councils (fs := [("its_rows", w1)]) (by simp) ((ev_var (R := ValR v2) rfl rfl).here X1.ok) upd_same nm fun w2 B2 H2 s2 e2 h2 => ?_
  have e2 : w2 = v2 := e2
  subst e2
  have b2 := s2.nw x (by rw [upd_same]; trivial) b1
  have X2 := (X1.then s2).put (x := x) (o := .ins Cl dx [("its_rows", w1), ("its_councils", w2)]) rfl b2 nm trivial
  refine q_fld rfl c.l_Rounds c.n_Rounds_its_bounds (fs := [("its_rows", w1), ("its_councils", w2)]) (by simp) ((ev_sort (K := K) (xs := wish) (ev_var rfl (Rp.mono _ (s1.bb.trans s2.bb) r3)) so_bd).here X2.ok) upd_same nm fun w3 B3 H3 s3 r3' h3 => ?_
  have b3 := s3.nw x (by rw [upd_same]; trivial) b2
  have X3 := (X2.then s3).put (x := x) (o := .ins Cl dx [("its_rows", w1), ("its_councils", w2), ("its_bounds", w3)]) rfl b3 nm trivial
  let o3 : HO := .ins Cl dx [("its_rows", w1), ("its_councils", w2), ("its_bounds", w3)]
  let H3' := upd H3 x o3
  let T := upd B3 x o3
  have kT : Ok C T H3' := X3.ok.frz b3 nm upd_same
  have e3 : Ex B B3 := s1.bb.trans (s2.bb.trans s3.bb)
  have eT : Ex B3 T := .new b3
  have r1T : (Is K rows).P w1 T := Rp.mono _ (e3.trans eT) r1
  have r2T : (CouL K cs).P w2 T := Rp.mono _ (e3.trans eT) r2
  have r3T : (Is K bds).P w3 T := Rp.mono _ eT r3'
  have xT : (InsR (He.ga K "Rounds") [("its_rows", Is K rows), ("its_councils", CouL K cs), ("its_bounds", Is K bds)]).P (.ref x) T := ⟨x, dx, [w1, w2, w3], rfl, upd_same, .cons r1T (.cons r2T (.cons r3T .nil))⟩
  have hbl : bds.length = wish.length := srt_len _
  have ev : EvA C (tCons (tCall (sp_greatest_only K) [] E0 (tCons (tCall (sp_different K) [] E0 (tCons (tLc (iList K (tVar 1)) (gName 4) tYes (tMeth (He.ga K "Rounds") "met" (sp_Rounds_met K) [] E0 (tVar 0) (tCons (tVar 4) tNil)) [4]) tNil)) tNil)) tNil) [some (.ref x), some w1, some w2, some v3, none] T [Is K (lev0 rows bds)] := by
    refine ea_cons (ev_call (p := p_greatest_only K) (difs (rows.map (metOf bds))) (ea_cons (ev_call (p := p_different K) (rows.map (metOf bds)) (ea_cons (ev_lcMD (K := K) (metOf bds) (ei_listD (ev_var rfl r1T)) (by omega) (fun x => go_name) fun r σ2 B' hb eb j => ?_) ea_nil) (by show (rows.map _).length ≤ _; rw [List.length_map]; omega)) ea_nil) ?_) ea_nil
    · obtain ⟨v, hv', rfl⟩ := j
      exact ⟨rfl, ev_meth (p := p_Rounds_met K) ([("its_rows", Is K rows), ("its_councils", CouL K cs), ("its_bounds", Is K bds)], r, bds) (ev_var rfl (Rp.mono _ eb xT)) (ea_cons (ev_var rfl hv') ea_nil) rfl rfl ⟨rfl, fun b hb2 => hv r hb b (srt_mem.mp hb2), by rw [hbl]; exact hn⟩⟩
    · show (difs (rows.map (metOf bds))).length ≤ _
      have := difs_len (rows.map (metOf bds))
      rw [List.length_map] at this; omega
  unfold tSeq sFld tLst
  refine ev T H3' (.refl _) kT _ fun ys B4 H4 s4 r4 => ⟨by rw [← r4.pkLen]; exact Nat.le_trans (show 1 ≤ 1000 by decide) (by decide), fun l hl => ?_⟩
  obtain _ | @⟨_, y0, _, _, ry, _ | _⟩ := r4
  have sT : Stp C B3 H3' (rem B4 x) H4 := s4.rem b3 nm
  have hx4 : H4 x = some o3 := s4.hh x _ nm upd_same
  have ry' : (Is K (lev0 rows bds)).P y0 (rem B4 x) := is_rem (s4.bb x _ upd_same) trivial ry
  have nlx : l ≠ x := fun z => by subst z; rw [hl] at hx4; cases hx4
  have X4 := X3.then sT
  have l0 : H l = none := by
    cases z : H l with
    | none => rfl
    | some o => have := X4.hh l o nlx (X4.ok.fresh hl) z; rw [hl] at this; cases this
  have bl : (rem B4 x) l = none := X4.ok.sub.un hl
  have X5 := X4.loc (o := .lst [y0]) l0 bl (X4.ok.fresh hl) trivial
  have hx5 : upd H4 l (.lst [y0]) x = some o3 := by rw [upd_ne (Ne.symm nlx)]; exact hx4
  refine ⟨.ref x, rfl, x, Cl, dx, _, rfl, hx5, c.l_Rounds, c.n_Rounds_its_levels, by simp, ?_⟩
  let o4 : HO := .ins Cl dx [("its_rows", w1), ("its_councils", w2), ("its_bounds", w3), ("its_levels", .ref l)]
  have X6 := X5.put (x := x) (o := o4) rfl rem_same nm trivial
  have A5 : Acc C H (Is K) l [lev0 rows bds] (rem B4 x) (upd H4 l (.lst [y0])) := ⟨l0, bl, X4.ok.fresh hl, [y0], upd_same, .cons ry' .nil⟩
  have A6 := A5.far (p := x) (o := o4) nlx
  unfold tCons tDNewK
  intro p hp
  have hp : upd (upd H4 l (.lst [y0])) x o4 p = none := hp
  have npx : p ≠ x := fun z => by subst z; rw [upd_same] at hp; cases hp
  have npl : p ≠ l := fun z => by
    subst z
    obtain ⟨vs, g, _⟩ := A6.is
    rw [hp] at g; cases g
  refine ⟨show 1 ≤ sizeLine by decide, fun w hw => ?_⟩
  have hw : upd (upd (upd H4 l (.lst [y0])) x o4) p (.dK []) w = none := hw
  have hp0 : H p = none := by
    cases z : H p with
    | none => rfl
    | some o => have := X6.hh p o npx (X6.ok.fresh hp) z; rw [hp] at this; cases this
  have X7 := X6.loc (x := p) (o := .dK []) hp0 (X6.ok.sub.un hp) (X6.ok.fresh hp) trivial
  have A7 := A6.far (p := p) (o := .dK []) (Ne.symm npl)
  have hw0 : upd (upd H4 l (.lst [y0])) x o4 w = none := by
    cases z : upd (upd H4 l (.lst [y0])) x o4 w with
    | none => rfl
    | some o =>
      by_cases e : w = p
      · subst e; rw [upd_same] at hw; cases hw
      · rw [upd_ne e, z] at hw; cases hw
  have nwx : w ≠ x := fun z => by subst z; rw [upd_same] at hw0; cases hw0
  have nwl : w ≠ l := fun z => by
    subst z
    obtain ⟨vs, g, _⟩ := A6.is
    rw [hw0] at g; cases g
  have w0 : H w = none := by
    cases z : H w with
    | none => rfl
    | some o => have := X7.hh w o nwx (X7.ok.fresh hw) z; rw [hw] at this; cases this
  have X8 := X7.loc (x := w) (o := .lst [.ref p]) w0 (X7.ok.sub.un hw) (X7.ok.fresh hw) trivial
  have A8 := A7.far (p := w) (o := .lst [.ref p]) (Ne.symm nwl)
  have hx8 : (upd (upd (upd (upd H4 l (.lst [y0])) x o4) p (.dK [])) w (.lst [.ref p])) x = some o4 := by
    rw [upd_ne (Ne.symm nwx), upd_ne (Ne.symm npx), upd_same]
  refine ⟨.ref x, rfl, x, Cl, dx, _, rfl, hx8, c.l_Rounds, c.n_Rounds_its_ways, by simp, ?_⟩
  have X9 := X8.put (x := x) (o := .ins Cl dx [("its_rows", w1), ("its_councils", w2), ("its_bounds", w3), ("its_levels", .ref l), ("its_ways", .ref w)]) rfl rem_same nm trivial
  have e4 : Ex B3 (rem B4 x) := ex_rem (eT.trans s4.bb) b3
  refine q w1 w2 w3 l w (rem B4 x) _ X9 upd_same rem_same (Rp.mono _ (e3.trans e4) r1) (Rp.mono _ (e3.trans e4) r2) (Rp.mono _ e4 r3') (A8.far nlx) ?_ (Ne.symm nwl) nlx nwx
  exact ⟨w0, X7.ok.sub.un hw, X7.ok.fresh hw, [.ref p], by rw [upd_ne nwx, upd_same], .cons trivial .nil⟩
end
end Pk

/-! Councils made; the law's bag. -/
namespace Pk
open PySem L2
open Enc (enc dep)
section
variable {K : PySem.W.Frag}
structure WsOk (ws : List Int) : Prop where
  l2 : 2 ≤ ws.length
  l7 : ws.length ≤ 7
  r : ∀ w ∈ ws, 1 ≤ w ∧ w ≤ 1000000
structure QsOk (qs : List Int) (t : Int) : Prop where
  l1 : 1 ≤ qs.length
  l6 : qs.length ≤ 6
  r : ∀ q ∈ qs, 1 ≤ q ∧ q ≤ t
def p_are_weights (K : PySem.W.Frag) : Pm (List Int) where
  n := 1
  args x := [Is K x]
  pre x := WsOk x
  res _ := Is K true
abbrev sp_are_weights (K : PySem.W.Frag) : Sp := (p_are_weights K).sp
def t_are_weights (K : PySem.W.Frag) : TS := (tSeq (tIfS (tOr (tNot (tB (tCB (rIsi K) (tCons (tVar 0) (tCons (tC (.ty "list")) tNil))))) (tNot (tTest (tChain rLeI rLeI (tC (.int (2))) (tCB (rLenQ K) (tCons (tVar 0) tNil)) (tC (.int (7))))))) (tRet (tC (.bl false))) tNext)
  (tRet (tCB (rAll K) (tCons (tLc (iList K (tVar 0)) (gName 1) tYes (tCall (sp_is_between K) [] E0 (tCons (tVar 1) (tCons (tC (.int 1)) (tCons (tC (.int (1000000))) tNil)))) [1]) tNil))))
theorem len_are_weights (K : PySem.W.Frag) : ∀ vs H Q E, sp_are_weights K vs H Q E → vs.length = 1 := Pm.len _ rfl
theorem pure_are_weights (c : Kn0 K) : ∀ vs H Q E, sp_are_weights K vs H Q E → t_are_weights K { nx := fun _ H' => Q .non H', rt := Q } (start ["thing", "weight"] vs) H := by
  rintro vs H Q E ⟨C, B, ws, k, _, a, ok, q⟩
  have h2 := ok.l2
  have h7 := ok.l7
  obtain _ | @⟨_, v0, _, _, r0, _ | _⟩ := a
  refine q_if (b := false) ((et_or (et_not (et_B (K := K) (ev_isList (K := K) ((ev_var rfl r0).le fun _ _ => is_lst.mp)))) fun _ => et_not (et_test (K := K) (ev_chain (K := K) (i := 2) (l := 7) ev_int (ev_lenD (K := K) (ev_var rfl r0)) ev_int))).to ?_) k.refl (fun e => by cases e) (fun _ H2 S2 s2 => ?_)
  · rw [decide_eq_true (by omega), decide_eq_true (by omega)]; rfl
  · refine s_ret (ev_all (K := K) (bs := ws.map fun w => decide ((1 : Int) ≤ w) && decide (w ≤ 1000000)) (ev_lcMD _ (ei_listD (ev_var rfl r0)) (by omega) (fun x => go_name) fun w σ2 B' hb eb j => ?_)) S2 fun v B4 H4 S4 r4 => q v B4 H4 S4 ?_
    · obtain ⟨v, hv, rfl⟩ := j
      exact ⟨rfl, ev_call (p := p_is_between K) (w, 1, 1000000) (ea_cons (ev_var rfl hv) (ea_cons ev_int (ea_cons ev_int ea_nil))) trivial⟩
    · rw [all_map, List.all_eq_true.mpr fun w hw => by rw [decide_eq_true (ok.r w hw).1, decide_eq_true (ok.r w hw).2]; rfl] at r4
      exact r4
def p_are_quotas (K : PySem.W.Frag) : Pm (List Int × Int) where
  n := 2
  args x := [Is K x.1, Is K x.2]
  pre x := QsOk x.1 x.2
  res _ := Is K true
abbrev sp_are_quotas (K : PySem.W.Frag) : Sp := (p_are_quotas K).sp
def t_are_quotas (K : PySem.W.Frag) : TS := (tSeq (tIfS (tOr (tNot (tB (tCB (rIsi K) (tCons (tVar 0) (tCons (tC (.ty "list")) tNil))))) (tNot (tTest (tChain rLeI rLeI (tC (.int 1)) (tCB (rLenQ K) (tCons (tVar 0) tNil)) (tC (.int (6))))))) (tRet (tC (.bl false))) tNext)
  (tRet (tCB (rAll K) (tCons (tLc (iList K (tVar 0)) (gName 2) tYes (tCall (sp_is_between K) [] E0 (tCons (tVar 2) (tCons (tC (.int 1)) (tCons (tVar 1) tNil)))) [2]) tNil))))
theorem len_are_quotas (K : PySem.W.Frag) : ∀ vs H Q E, sp_are_quotas K vs H Q E → vs.length = 2 := Pm.len _ rfl
theorem pure_are_quotas (c : Kn0 K) : ∀ vs H Q E, sp_are_quotas K vs H Q E → t_are_quotas K { nx := fun _ H' => Q .non H', rt := Q } (start ["thing", "total", "quota"] vs) H := by
  rintro vs H Q E ⟨C, B, ⟨ws, t⟩, k, _, a, ok, q⟩
  have ok : QsOk ws t := ok
  have h2 := ok.l1
  have h7 := ok.l6
  obtain _ | @⟨_, v0, _, _, r0, _ | @⟨_, v1, _, _, r1, _ | _⟩⟩ := a
  refine q_if (b := false) ((et_or (et_not (et_B (K := K) (ev_isList (K := K) ((ev_var rfl r0).le fun _ _ => is_lst.mp)))) fun _ => et_not (et_test (K := K) (ev_chain (K := K) (i := 1) (l := 6) ev_int (ev_lenD (K := K) (ev_var rfl r0)) ev_int))).to ?_) k.refl (fun e => by cases e) (fun _ H2 S2 s2 => ?_)
  · have e1 : decide ((1 : Int) ≤ (ws.length : Int)) = true := decide_eq_true (by omega)
    have e2 : decide ((ws.length : Int) ≤ 6) = true := decide_eq_true (by omega)
    rw [e1, e2]; rfl
  · refine s_ret (ev_all (K := K) (bs := ws.map fun w => decide ((1 : Int) ≤ w) && decide (w ≤ t)) (ev_lcMD _ (ei_listD (ev_var rfl r0)) (by omega) (fun x => go_name) fun w σ2 B' hb eb j => ?_)) S2 fun v B4 H4 S4 r4 => q v B4 H4 S4 ?_
    · obtain ⟨v, hv, rfl⟩ := j
      exact ⟨rfl, ev_call (p := p_is_between K) (w, 1, t) (ea_cons (ev_var rfl hv) (ea_cons ev_int (ea_cons (ev_var rfl (Rp.mono _ eb r1)) ea_nil))) trivial⟩
    · rw [all_map, List.all_eq_true.mpr fun w hw => by rw [decide_eq_true (ok.r w hw).1, decide_eq_true (ok.r w hw).2]; rfl] at r4
      exact r4
def sp_Council___init__ (K : PySem.W.Frag) : Sp := fun vs H Q E => ∃ (C : MI) (B : Hp) (x dx : Addr) (us : List V) (ws qs : List Int), vs = .ref x :: us ∧ Ok C B H ∧ H x = some (.ins (He.ga K "Council") dx []) ∧ B x = none ∧ ¬ C.M x ∧
  Args [Is K ws, Is K qs] us B ∧ (WsOk ws ∧ QsOk qs ws.sum) ∧
  ∀ a b B2 H2, StpX C (fun a => a = x) B H B2 H2 → H2 x = some (.ins (He.ga K "Council") dx [("seat_weights", a), ("column_quotas", b)]) → B2 x = none → (Is K ws).P a B2 → (Is K qs).P b B2 → Q .non H2
theorem len_Council___init__ (K : PySem.W.Frag) : ∀ vs H Q E, sp_Council___init__ K vs H Q E → vs.length = 3 := fun vs H Q E ⟨C, B, x, dx, us, ws, qs, e, _, _, _, _, a, _⟩ => by rw [e, List.length_cons, ← a.pkLen]; rfl
def t_Council___init__ (K : PySem.W.Frag) : TS := (tSeq (tIfS (tNot (tB (tCall (sp_are_weights K) [] E0 (tCons (tVar 1) tNil)))) tNever tNext)
  (tSeq (tIfS (tNot (tB (tCall (sp_are_quotas K) [] E0 (tCons (tVar 2) (tCons (tCB (rSum K) (tCons (tVar 1) tNil)) tNil))))) tNever tNext)
  (tSeq (sFld K (tVar 0) (tCB (rListQ K) (tCons (tVar 1) tNil)) "seat_weights")
  (sFld K (tVar 0) (tCB (rListQ K) (tCons (tVar 2) tNil)) "column_quotas"))))
theorem pure_Council___init__ (c : Kn_Council K) : ∀ vs H Q E, sp_Council___init__ K vs H Q E → t_Council___init__ K { nx := fun _ H' => Q .non H', rt := Q } (start ["self", "weights", "quotas"] vs) H := by
  rintro vs H Q E ⟨C, B, x, dx, us, ws, qs, rfl, k, hx, bx, nm, a, ⟨hw, hq⟩, q⟩
  obtain _ | @⟨_, v1, _, _, r1, _ | @⟨_, v2, _, _, r2, _ | _⟩⟩ := a
  refine q_if (b := false) ((et_not (et_B (K := K) (ev_call (p := p_are_weights K) ws (ea_cons (ev_var rfl r1) ea_nil) hw))).to rfl) k.refl (fun e => by cases e) (fun _ H2 S2 s2 => ?_)
  refine q_if (b := false) ((et_not (et_B (K := K) (ev_call (p := p_are_quotas K) (qs, ws.sum) (ea_cons (ev_var rfl r2) (ea_cons (ev_sum (K := K) (ev_var rfl r1)) ea_nil)) hq))).to rfl) S2 (fun e => by cases e) (fun _ H3 S3 s3 => ?_)
  have hx3 := S3.hh x _ nm hx
  have X3 : StpX C (fun a => a = x) B H B H3 := S3.toX fun a ha => by subst ha; rw [hx]; trivial
  refine q_fld rfl c.l_Council c.n_Council_seat_weights (by decide) ((ev_listD (K := K) (ev_var rfl r1)).here S3.ok) hx3 nm fun w1 B1 H1 s1 e1 h1 => ?_
  have b1 := s1.nw x (by rw [hx3]; trivial) bx
  have X1 := (X3.then s1).put (x := x) (o := .ins (He.ga K "Council") dx [("seat_weights", w1)]) rfl b1 nm trivial
  show sFld _ _ _ _ _ _ _
  refine (ev_listD (K := K) (ev_var (i := 2) rfl (Rp.mono _ s1.bb r2))) B1 _ (.refl _) X1.ok _ fun w2 B4 H4 s4 e4 => ?_
  have b4 := s4.nw x (by rw [upd_same]; trivial) b1
  have h4 : H4 x = some (.ins (He.ga K "Council") dx [("seat_weights", w1)]) := s4.hh x _ nm upd_same
  refine ⟨.ref x, rfl, x, _, dx, _, rfl, h4, c.l_Council, c.n_Council_column_quotas, by simp, ?_⟩
  have X4 := (X1.then s4).put (x := x) (o := .ins (He.ga K "Council") dx [("seat_weights", w1), ("column_quotas", w2)]) rfl b4 nm trivial
  exact q w1 w2 B4 _ X4 upd_same b4 (Rp.mono _ s4.bb e1) e4
def p__law_made (K : PySem.W.Frag) : Pm (List Int × List Int) where
  n := 1
  args x := [Is K x]
  pre x := WsOk x.1 ∧ QsOk x.2 x.1.sum
  res x := CouR K x.1 x.2
abbrev sp__law_made (K : PySem.W.Frag) : Sp := (p__law_made K).sp
def t__law_made (K : PySem.W.Frag) : TS := (tRet (tMake (He.ga K "Council") (sp_Council___init__ K) [] E0 (tCons (tCB (rListQ K) (tCons (tOp (rIxT K) (tVar 0) (tC (.int 0))) tNil)) (tCons (tCB (rListQ K) (tCons (tOp (rIxT K) (tVar 0) (tC (.int 1))) tNil)) tNil))))
theorem len__law_made (K : PySem.W.Frag) : ∀ vs H Q E, sp__law_made K vs H Q E → vs.length = 1 := Pm.len _ rfl
theorem pure__law_made (c : Kn_Council K) : ∀ vs H Q E, sp__law_made K vs H Q E → t__law_made K { nx := fun _ H' => Q .non H', rt := Q } (start ["parts"] vs) H := by
  rintro vs H Q E ⟨C, B, ⟨ws, qs⟩, k, _, a, ok, q⟩
  obtain _ | @⟨_, v0, _, _, r0, _ | _⟩ := a
  have rp := is_pair.mp r0
  unfold t__law_made tRet tMake
  refine (ea_cons (ev_listD (K := K) (xs := ws) (ev_ixT (K := K) (Rs := [Is K ws, Is K qs]) (ev_var (i := 0) rfl rp) ev_int rfl)) (ea_cons (ev_listD (K := K) (xs := qs) (ev_ixT (K := K) (Rs := [Is K ws, Is K qs]) (ev_var (i := 0) rfl rp) ev_int rfl)) ea_nil)) B H (.refl _) k _ fun us B1 H1 s1 ra => ?_
  intro x dx hx hdx nd
  have h0x := s1.new0 hx
  have b1x := s1.ok.sub.un hx
  have nmx := s1.ok.fresh hx
  have S1a := s1.loc (o := .own x) (s1.new0 hdx) (s1.ok.sub.un hdx) (s1.ok.fresh hdx)
  have S2 := S1a.loc (o := .ins (He.ga K "Council") dx []) h0x b1x nmx
  rw [List.append_nil]
  refine ⟨C, B1, x, dx, us, ws, qs, rfl, S2.ok, upd_same, b1x, nmx, ra, ok, fun a b B2 H2 X hxI b2x ra rb => ⟨rfl, ?_⟩⟩
  have S3 := S2.thenX X fun a ha => by subst ha; exact h0x
  have S4 := S3.frz h0x b2x nmx hxI
  exact q _ _ H2 S4 ⟨x, dx, [a, b], rfl, upd_same, .cons (Rp.mono _ (.new b2x) ra) (.cons (Rp.mono _ (.new b2x) rb) .nil)⟩
end
end Pk

/-! The law's bag: the script's numbers, drawn from. -/
namespace Pk
open PySem L2
open Enc (enc dep)
def C0 : MI := ⟨fun _ => False, fun _ => True, fun _ _ _ _ => trivial, fun _ _ _ h => h.elim⟩
theorem ok0 (B H : Hp) (e : Ex B H) : Ok C0 B H := ⟨e, fun _ h => h.elim, fun _ h => h.elim, trivial⟩
structure BagI (b c : Addr) (ns : List Int) (H : Hp) : Prop where
  bag : ∃ a0 a1 a2 : Int, H b = some (.lst [.int a0, .int a1, .int a2, .ref c]) ∧ 0 ≤ a0 ∧ 0 ≤ a1 ∧ 0 ≤ a2
  cells : H c = some (.lst (ns.map V.int))
  nn : ∀ n ∈ ns, 0 ≤ n
  ne : b ≠ c
def BagC (b c : Addr) (ns : List Int) : MI := ⟨fun a => a = b ∨ a = c, BagI b c ns, fun H H' h e => by
  obtain ⟨⟨a0, a1, a2, h1, h2⟩, h3, h4, h5⟩ := h
  exact ⟨⟨a0, a1, a2, by rw [e b (.inl rfl)]; exact h1, h2⟩, by rw [e c (.inr rfl)]; exact h3, h4, h5⟩, fun H a h m => by
  obtain ⟨⟨a0, a1, a2, h1, h2⟩, h3, h4, h5⟩ := h
  rcases m with rfl | rfl
  · rw [h1]; trivial
  · rw [h3]; trivial⟩
def HasBag (b : Addr) (C : MI) : Prop := ∃ c ns, C = BagC b c ns
section
variable {C : MI} {K : PySem.W.Frag} {σ : L2.St} {B0 H0 B H B2 H2 : Hp} {R : Rp} {te ta tb : TE} {tt : TT} {tu tw tz : TS} {D : Ends} {i j m : Nat} {v : V} {b : Bool}
/-- what stands in the heap is kept: a step of any context -/
theorem Ok.of0 (k : Ok C B H) (s : Stp C0 H H B2 H2) : Stp C B H B H2 :=
  ⟨⟨k.sub.trans fun a o q => s.hh a o id q, k.off, fun a m => s.live (k.liv a m), C.st _ _ k.inv fun a m => by
    cases q : H a with
    | none => exact absurd q (k.liv a m)
    | some o => exact s.hh a o id q⟩, .refl _, fun a o _ q => s.hh a o id q, fun _ _ h => h⟩
/-- a look at all that stands: the value is told -/
theorem peek0 (k : Ok C B H) (h : Ev C0 te σ H R) (hv : ∀ w B, R.P w B → w = v) : EvH C te σ B H v := fun Q q =>
  h H H (.refl _) (ok0 H H (.refl _)) _ fun w B2 H2 s r => by rw [hv w B2 r]; exact q H2 (k.of0 s)
theorem peekX (k : Ok C B H) (h : Ev C0 te σ H R) (hv : ∀ w B, R.P w B → w = v) (Q : VK) (q : ∀ H2, Stp C B H B H2 → Ex H H2 → Q v H2) : te σ H Q :=
  h H H (.refl _) (ok0 H H (.refl _)) _ fun w B2 H2 s r => by rw [hv w B2 r]; exact q H2 (k.of0 s) fun a o q => s.hh a o id q
theorem pt0 (k : Ok C B H) (h : EvT C0 tt σ H b) (Q : Bool → Hp → Prop) (q : ∀ H2, Stp C B H B H2 → Q b H2) : tt σ H Q :=
  h H H (.refl _) (ok0 H H (.refl _)) _ fun H2 s => q H2 (k.of0 s)
theorem q_asg0 (S : Stp C B0 H0 B H) (h : Ev C0 te σ H R) (hv : ∀ w B, R.P w B → w = v) (k : ∀ H2, Stp C B0 H0 B H2 → Ex H H2 → tz D (σ.set i (some v)) H2) : tSeq (tAsg te (gName i)) tz D σ H :=
  h H H (.refl _) (ok0 H H (.refl _)) _ fun w B2 H2 s r => by rw [hv w B2 r]; exact k H2 (S.trans (S.ok.of0 s)) fun a o q => s.hh a o id q
theorem s_asg0 (S : Stp C B0 H0 B H) (h : Ev C0 te σ H R) (hv : ∀ w B, R.P w B → w = v) (k : ∀ H2, Stp C B0 H0 B H2 → Ex H H2 → D.nx (σ.set i (some v)) H2) : tAsg te (gName i) D σ H :=
  h H H (.refl _) (ok0 H H (.refl _)) _ fun w B2 H2 s r => by rw [hv w B2 r]; exact k H2 (S.trans (S.ok.of0 s)) fun a o q => s.hh a o id q
theorem q_if0 (S : Stp C B0 H0 B H) (h : EvT C0 tt σ H b) (h1 : b = true → ∀ H2, Stp C B0 H0 B H2 → Ex H H2 → tu { D with nx := tz D } σ H2) (h2 : b = false → ∀ H2, Stp C B0 H0 B H2 → Ex H H2 → tw { D with nx := tz D } σ H2) : tSeq (tIfS tt tu tw) tz D σ H :=
  h H H (.refl _) (ok0 H H (.refl _)) _ fun H2 s => by
    have e : Ex H H2 := fun a o q => s.hh a o id q
    cases b with
    | true => rw [if_pos rfl]; exact h1 rfl H2 (S.trans (S.ok.of0 s)) e
    | false => rw [if_neg Bool.false_ne_true]; exact h2 rfl H2 (S.trans (S.ok.of0 s)) e
theorem s_ret0 (S : Stp C B0 H0 B H) (h : Ev C0 te σ H R) (hv : ∀ w B, R.P w B → w = v) (k : ∀ H2, Stp C B0 H0 B H2 → D.rt v H2) : tRet te D σ H :=
  h H H (.refl _) (ok0 H H (.refl _)) _ fun w B2 H2 s r => by rw [hv w B2 r]; exact k H2 (S.trans (S.ok.of0 s))
end
section
variable {K : PySem.W.Frag} {σ : L2.St} {B0 H0 B H B2 H2 : Hp} {te ta tb : TE} {i j m : Nat} {b c : Addr} {ns : List Int} {a0 a1 a2 : Int}
/-- the bag written -/
theorem bag_put (S : Stp (BagC b c ns) B0 H0 B H) (x0 x1 x2 : Int) (h0 : 0 ≤ x0) (h1 : 0 ≤ x1) (h2 : 0 ≤ x2) : Stp (BagC b c ns) B0 H0 B (upd H b (.lst [.int x0, .int x1, .int x2, .ref c])) := by
  have I : BagI b c ns H := S.ok.inv
  refine ⟨⟨S.ok.sub.put (S.ok.off b (.inl rfl)), S.ok.off, fun a m => ?_, ⟨⟨x0, x1, x2, upd_same, h0, h1, h2⟩, by rw [upd_ne (Ne.symm I.ne)]; exact I.cells, I.nn, I.ne⟩⟩, S.bb, fun a o m q => ?_, S.nw⟩
  · by_cases e : a = b
    · subst e; rw [upd_same]; simp
    · rw [upd_ne e]; exact S.ok.liv a m
  · rw [upd_ne fun e => m (.inl e)]; exact S.hh a o m q
theorem bag_lst (h : H b = some (.lst [.int a0, .int a1, .int a2, .ref c])) (hc : H c = some (.lst (ns.map V.int))) : (LstR [Is K a0, Is K a1, Is K a2, Is K ns]).P (.ref b) H :=
  ⟨b, _, rfl, h, .cons (.int _) (.cons (.int _) (.cons (.int _) (.cons (is_lst.mpr ⟨c, _, rfl, hc, args_ints.mpr rfl⟩) .nil)))⟩
def p__law_take (K : PySem.W.Frag) : Pm (Addr × Int) where
  n := 2
  need x C := HasBag x.1 C
  args x := [RefR x.1, Is K x.2]
  pre x := 0 < x.2 ∧ x.2 ≤ 10000000000000000000
  res x := SomeR (fun r : Int => 0 ≤ r ∧ r < x.2) (Is K)
abbrev sp__law_take (K : PySem.W.Frag) : Sp := (p__law_take K).sp
def t__law_take (K : PySem.W.Frag) : TS := (tSeq (tIfS (tTest (tOp (rEqD K) (tOp (rIxL K) (tVar 0) (tC (.int 0))) (tC (.int 0)))) (tSeq (tAsg (tC (.int 0)) (gName 4))
  (tSeq (tIfS (tTest (tOp rLtI (tOp (rIxL K) (tVar 0) (tC (.int 2))) (tCB (rLenQ K) (tCons (tOp (rIxL K) (tVar 0) (tC (.int 3))) tNil)))) (tAsg (tOp (rIxL K) (tOp (rIxL K) (tVar 0) (tC (.int 3))) (tOp (rIxL K) (tVar 0) (tC (.int 2)))) (gName 4)) tNext)
  (tSeq (tAugS (tVar 0) (tC (.int 2)) (tC (.int 1)) rGetL (ipI fun i j => i + j) rSetL)
  (tSeq (tIfS (tTest (tOp rGeI (tVar 4) (tC (.int 1000000000000000000)))) (tAsg (tVar 4) (gSub (tVar 0) (tC (.int 0)) rSetL)) tNext)
  (tAsg (tOp rModI (tOp rAddI (tOp rAddI (tOp rMulI (tOp (rIxL K) (tVar 0) (tC (.int 1))) (tC (.int 48271))) (tOp rModI (tVar 4) (tC (.int 2147483647)))) (tOp rMulI (tC (.int 7919)) (tOp (rIxL K) (tVar 0) (tC (.int 2))))) (tC (.int 2147483647))) (gSub (tVar 0) (tC (.int 1)) rSetL)))))) tNext)
  (tSeq (tIfS (tTest (tOp rGtI (tOp (rIxL K) (tVar 0) (tC (.int 0))) (tC (.int 0)))) (tSeq (tAsg (tOp rModI (tOp (rIxL K) (tVar 0) (tC (.int 0))) (tVar 1)) (gName 5))
  (tSeq (tAsg (tOp rDivI (tOp (rIxL K) (tVar 0) (tC (.int 0))) (tVar 1)) (gSub (tVar 0) (tC (.int 0)) rSetL))
  (tRet (tVar 5)))) tNext)
  (tSeq (tAsg (tOp rModI (tOp rMulI (tOp rAddI (tOp (rIxL K) (tVar 0) (tC (.int 1))) (tC (.int 1))) (tC (.int 39373))) (tC (.int 1000000007))) (gName 2))
  (tSeq (tAsg (tOp rModI (tOp rMulI (tOp rModI (tOp rMulI (tVar 2) (tVar 2)) (tC (.int 998244353))) (tC (.int 30011))) (tC (.int 998244353))) (gName 3))
  (tSeq (tIfS (tTest (tOp rGtI (tVar 1) (tC (.int 1000000)))) (tRet (tOp rModI (tOp rAddI (tOp rMulI (tVar 3) (tC (.int 1000000007))) (tVar 2)) (tVar 1))) tNext)
  (tRet (tOp rModI (tOp rDivI (tVar 3) (tC (.int 7))) (tVar 1))))))))
theorem len__law_take (K : PySem.W.Frag) : ∀ vs H Q E, sp__law_take K vs H Q E → vs.length = 2 := Pm.len _ rfl
theorem cdivW {i j : Int} (h0 : 0 < j) (h : j ≤ 10000000000000000000) : CDivW i j := ⟨h0, by
  have h1 : j.natAbs < 2 ^ 64 := by omega
  have h2 : j.natAbs ≠ 0 := by omega
  exact Nat.lt_trans ((Nat.log2_lt h2).mpr h1) (by decide)⟩
theorem pure_take : ∀ vs H Q E, sp__law_take K vs H Q E → t__law_take K { nx := fun _ H' => Q .non H', rt := Q } (start ["bag", "many", "first", "second", "cell", "value"] vs) H := by
  rintro vs H Q E ⟨C, B, ⟨b, many⟩, k, ⟨c, ns, rfl⟩, a, ⟨hp, hp2⟩, q⟩
  have hp : 0 < many := hp
  have hp2 : many ≤ 10000000000000000000 := hp2
  obtain _ | @⟨_, v0, _, _, r0, _ | @⟨_, v1, _, _, r1, _ | _⟩⟩ := a
  have r0 : v0 = .ref b := r0
  subst r0
  have r1 : v1 = .int many := is_int.mp r1
  subst r1
  have bag : ∀ {H : Hp} {σ : L2.St} {a0 a1 a2 : Int}, σ[0]? = some (some (.ref b)) → H b = some (.lst [.int a0, .int a1, .int a2, .ref c]) → H c = some (.lst (ns.map V.int)) → Ev C0 (tVar 0) σ H (LstR [Is K a0, Is K a1, Is K a2, Is K ns]) := fun h h1 h2 => ev_var h (bag_lst h1 h2)
  have b0 : ∀ {H : Hp} {σ : L2.St} {a0 a1 a2 : Int}, σ[0]? = some (some (.ref b)) → H b = some (.lst [.int a0, .int a1, .int a2, .ref c]) → H c = some (.lst (ns.map V.int)) → Ev C0 (tOp (rIxL K) (tVar 0) (tC (.int 0))) σ H (Is K a0) := fun h h1 h2 => ev_ixL (K := K) (bag h h1 h2) ev_int rfl
  have b1 : ∀ {H : Hp} {σ : L2.St} {a0 a1 a2 : Int}, σ[0]? = some (some (.ref b)) → H b = some (.lst [.int a0, .int a1, .int a2, .ref c]) → H c = some (.lst (ns.map V.int)) → Ev C0 (tOp (rIxL K) (tVar 0) (tC (.int 1))) σ H (Is K a1) := fun h h1 h2 => ev_ixL (K := K) (bag h h1 h2) ev_int rfl
  have b2 : ∀ {H : Hp} {σ : L2.St} {a0 a1 a2 : Int}, σ[0]? = some (some (.ref b)) → H b = some (.lst [.int a0, .int a1, .int a2, .ref c]) → H c = some (.lst (ns.map V.int)) → Ev C0 (tOp (rIxL K) (tVar 0) (tC (.int 2))) σ H (Is K a2) := fun h h1 h2 => ev_ixL (K := K) (bag h h1 h2) ev_int rfl
  have b3 : ∀ {H : Hp} {σ : L2.St} {a0 a1 a2 : Int}, σ[0]? = some (some (.ref b)) → H b = some (.lst [.int a0, .int a1, .int a2, .ref c]) → H c = some (.lst (ns.map V.int)) → Ev C0 (tOp (rIxL K) (tVar 0) (tC (.int 3))) σ H (Is K ns) := fun h h1 h2 => ev_ixL (K := K) (bag h h1 h2) ev_int rfl
  have I : BagI b c ns H := k.inv
  obtain ⟨a0, a1, a2, hb, n0, n1, n2⟩ := I.bag
  have hc := I.cells
  have nb : b ≠ c := I.ne
  -- the second half
  have tail : ∀ (σ : L2.St) (H1 : Hp), Stp (BagC b c ns) B H B H1 → (∃ x y, σ = [some (.ref b), some (.int many), none, none, x, y]) → (tSeq (tIfS (tTest (tOp rGtI (tOp (rIxL K) (tVar 0) (tC (.int 0))) (tC (.int 0)))) (tSeq (tAsg (tOp rModI (tOp (rIxL K) (tVar 0) (tC (.int 0))) (tVar 1)) (gName 5))
    (tSeq (tAsg (tOp rDivI (tOp (rIxL K) (tVar 0) (tC (.int 0))) (tVar 1)) (gSub (tVar 0) (tC (.int 0)) rSetL))
    (tRet (tVar 5)))) tNext)
    (tSeq (tAsg (tOp rModI (tOp rMulI (tOp rAddI (tOp (rIxL K) (tVar 0) (tC (.int 1))) (tC (.int 1))) (tC (.int 39373))) (tC (.int 1000000007))) (gName 2))
    (tSeq (tAsg (tOp rModI (tOp rMulI (tOp rModI (tOp rMulI (tVar 2) (tVar 2)) (tC (.int 998244353))) (tC (.int 30011))) (tC (.int 998244353))) (gName 3))
    (tSeq (tIfS (tTest (tOp rGtI (tVar 1) (tC (.int 1000000)))) (tRet (tOp rModI (tOp rAddI (tOp rMulI (tVar 3) (tC (.int 1000000007))) (tVar 2)) (tVar 1))) tNext)
    (tRet (tOp rModI (tOp rDivI (tVar 3) (tC (.int 7))) (tVar 1))))))) { nx := fun _ H' => Q .non H', rt := Q } σ H1 := by
    rintro σ H1 S1 ⟨x, y, rfl⟩
    have I : BagI b c ns H1 := S1.ok.inv
    obtain ⟨a0, a1, a2, hb, n0, n1, n2⟩ := I.bag
    have hc := I.cells
    refine q_if0 (b := decide (0 < a0)) S1 (et_test (ev_ib (K := K) (g := fun i j => decide (j < i)) (b0 rfl hb hc) ev_int)) (fun e H2 S2 e2 => ?_) (fun e H2 S2 e2 => ?_)
    · have hb2 := e2 _ _ hb
      have hc2 := e2 _ _ hc
      refine q_asg0 S2 (ev_ic (K := K) (c := fun _ j => 0 < j) (g := fun i j => i % j) (b0 rfl hb2 hc2) (ev_var (i := 1) rfl (is_int.mpr rfl)) hp) int_val fun H3 S3 e3 => ?_
      have hb3 := e3 _ _ hb2
      have hc3 := e3 _ _ hc2
      refine peekX S3.ok (ev_ic (K := K) (c := CDivW) (g := fun i j => i / j) (b0 rfl hb3 hc3) (ev_var (i := 1) rfl (is_int.mpr rfl)) (cdivW hp hp2)) int_val _ fun H4 s4 e4 => ?_
      have hb4 := e4 _ _ hb3
      refine ⟨.ref b, rfl, b, _, 0, 0, rfl, rfl, hb4, rfl, ?_⟩
      have S5 := bag_put (S3.trans s4) (a0 / many) a1 a2 (Int.ediv_nonneg n0 (by omega)) n1 n2
      refine ⟨.int (a0 % many), rfl, q _ B _ S5 ⟨a0 % many, ⟨Int.emod_nonneg _ (by omega), Int.emod_lt_of_pos _ hp⟩, is_int.mpr rfl⟩⟩
    · have hb2 := e2 _ _ hb
      have hc2 := e2 _ _ hc
      refine q_asg0 S2 (ev_ic (K := K) (c := fun _ j => 0 < j) (g := fun i j => i % j) (ev_ic (K := K) (c := CMul) (g := fun i j => i * j) (ev_i (K := K) (g := fun i j => i + j) (b1 rfl hb2 hc2) ev_int) ev_int (.inr (by decide))) ev_int (by decide)) int_val fun H3 S3 e3 => ?_
      let f := (a1 + 1) * 39373 % 1000000007
      have f0 : 0 ≤ f := Int.emod_nonneg _ (by decide)
      have f1 : f < 1000000007 := Int.emod_lt_of_pos _ (by decide)
      refine q_asg0 S3 (ev_ic (K := K) (c := fun _ j => 0 < j) (g := fun i j => i % j) (ev_ic (K := K) (c := CMul) (g := fun i j => i * j) (ev_ic (K := K) (c := fun _ j => 0 < j) (g := fun i j => i % j) (ev_ic (K := K) (c := CMul) (g := fun i j => i * j) (ev_var (i := 2) rfl (is_int.mpr rfl)) (ev_var (i := 2) rfl (is_int.mpr rfl)) (.inl ⟨by show -(2 ^ 64) < f; omega, by show f < 2 ^ 64; omega⟩)) ev_int (by decide)) ev_int (.inr (by decide))) ev_int (by decide)) int_val fun H4 S4 e4 => ?_
      let g := f * f % 998244353 * 30011 % 998244353
      refine q_if0 (b := decide (1000000 < many)) S4 (et_test (ev_ib (K := K) (g := fun i j => decide (j < i)) (ev_var (i := 1) rfl (is_int.mpr rfl)) ev_int)) (fun e H5 S5 e5 => ?_) (fun e H5 S5 e5 => ?_)
      · exact s_ret0 S5 (ev_ic (K := K) (c := fun _ j => 0 < j) (g := fun i j => i % j) (ev_i (K := K) (g := fun i j => i + j) (ev_ic (K := K) (c := CMul) (g := fun i j => i * j) (ev_var (i := 3) rfl (is_int.mpr rfl)) ev_int (.inr (by decide))) (ev_var (i := 2) rfl (is_int.mpr rfl))) (ev_var (i := 1) rfl (is_int.mpr rfl)) hp) int_val fun H6 S6 => q _ B _ S6 ⟨_, ⟨Int.emod_nonneg _ (by omega), Int.emod_lt_of_pos _ hp⟩, is_int.mpr rfl⟩
      · exact s_ret0 S5 (ev_ic (K := K) (c := fun _ j => 0 < j) (g := fun i j => i % j) (ev_ic (K := K) (c := CDivW) (g := fun i j => i / j) (ev_var (i := 3) rfl (is_int.mpr rfl)) ev_int (cdivW (by decide) (by decide))) (ev_var (i := 1) rfl (is_int.mpr rfl)) hp) int_val fun H6 S6 => q _ B _ S6 ⟨_, ⟨Int.emod_nonneg _ (by omega), Int.emod_lt_of_pos _ hp⟩, is_int.mpr rfl⟩
  refine q_if0 (b := decide (a0 = 0)) k.refl (et_test (ev_eq (K := K) (b0 rfl hb hc) ev_int)) (fun e H1 S1 e1 => ?_) (fun e H1 S1 e1 => ?_)
  · have hb1 := e1 _ _ hb
    have hc1 := e1 _ _ hc
    refine q_asg0 S1 (ev_int (K := K) (i := 0)) int_val fun H2 S2 e2 => ?_
    have hb2 := e2 _ _ hb1
    have hc2 := e2 _ _ hc1
    -- the rest, for any cell
    have rest : ∀ (cell : Int) (H3 : Hp), 0 ≤ cell → Stp (BagC b c ns) B H B H3 → H3 b = some (.lst [.int a0, .int a1, .int a2, .ref c]) → H3 c = some (.lst (ns.map V.int)) →
        (tSeq (tAugS (tVar 0) (tC (.int 2)) (tC (.int 1)) rGetL (ipI fun i j => i + j) rSetL)
        (tSeq (tIfS (tTest (tOp rGeI (tVar 4) (tC (.int 1000000000000000000)))) (tAsg (tVar 4) (gSub (tVar 0) (tC (.int 0)) rSetL)) tNext)
        (tAsg (tOp rModI (tOp rAddI (tOp rAddI (tOp rMulI (tOp (rIxL K) (tVar 0) (tC (.int 1))) (tC (.int 48271))) (tOp rModI (tVar 4) (tC (.int 2147483647)))) (tOp rMulI (tC (.int 7919)) (tOp (rIxL K) (tVar 0) (tC (.int 2))))) (tC (.int 2147483647))) (gSub (tVar 0) (tC (.int 1)) rSetL))))
        { nx := (tSeq (tIfS (tTest (tOp rGtI (tOp (rIxL K) (tVar 0) (tC (.int 0))) (tC (.int 0)))) (tSeq (tAsg (tOp rModI (tOp (rIxL K) (tVar 0) (tC (.int 0))) (tVar 1)) (gName 5))
    (tSeq (tAsg (tOp rDivI (tOp (rIxL K) (tVar 0) (tC (.int 0))) (tVar 1)) (gSub (tVar 0) (tC (.int 0)) rSetL))
    (tRet (tVar 5)))) tNext)
    (tSeq (tAsg (tOp rModI (tOp rMulI (tOp rAddI (tOp (rIxL K) (tVar 0) (tC (.int 1))) (tC (.int 1))) (tC (.int 39373))) (tC (.int 1000000007))) (gName 2))
    (tSeq (tAsg (tOp rModI (tOp rMulI (tOp rModI (tOp rMulI (tVar 2) (tVar 2)) (tC (.int 998244353))) (tC (.int 30011))) (tC (.int 998244353))) (gName 3))
    (tSeq (tIfS (tTest (tOp rGtI (tVar 1) (tC (.int 1000000)))) (tRet (tOp rModI (tOp rAddI (tOp rMulI (tVar 3) (tC (.int 1000000007))) (tVar 2)) (tVar 1))) tNext)
    (tRet (tOp rModI (tOp rDivI (tVar 3) (tC (.int 7))) (tVar 1))))))) { nx := fun _ H' => Q .non H', rt := Q }, rt := Q } [some (.ref b), some (.int many), none, none, some (.int cell), none] H3 := by
      intro cell H3 hcell S3 hb3 hc3
      refine ⟨.ref b, rfl, ⟨b, _, 2, .int a2, rfl, rfl, hb3, rfl, a2, 1, rfl, rfl, b, _, 2, 2, rfl, rfl, hb3, rfl, ?_⟩⟩
      have S4 := bag_put S3 a0 a1 (a2 + 1) n0 n1 (by omega)
      let H4 := upd H3 b (.lst [.int a0, .int a1, .int (a2 + 1), .ref c])
      have hb4 : H4 b = some (.lst [.int a0, .int a1, .int (a2 + 1), .ref c]) := upd_same
      have hc4 : H4 c = some (.lst (ns.map V.int)) := by show upd _ _ _ _ = _; rw [upd_ne (Ne.symm nb)]; exact hc3
      have fin : ∀ (H5 : Hp) (z : Int), 0 ≤ z → Stp (BagC b c ns) B H B H5 → H5 b = some (.lst [.int z, .int a1, .int (a2 + 1), .ref c]) → H5 c = some (.lst (ns.map V.int)) → _ := fun H5 z hz S5 hb5 hc5 =>
        (peekX (σ := [some (.ref b), some (.int many), none, none, some (.int cell), none]) S5.ok (ev_ic (K := K) (c := fun _ j => 0 < j) (g := fun i j => i % j) (ev_i (K := K) (g := fun i j => i + j) (ev_i (K := K) (g := fun i j => i + j) (ev_ic (K := K) (c := CMul) (g := fun i j => i * j) (b1 rfl hb5 hc5) (ev_int (i := 48271)) (.inr (by decide)))
          (ev_ic (K := K) (c := fun _ j => 0 < j) (g := fun i j => i % j) (ev_var (i := 4) rfl (is_int.mpr rfl)) (ev_int (i := 2147483647)) (by decide))) (ev_ic (K := K) (c := CMul) (g := fun i j => i * j) (ev_int (i := 7919)) (b2 rfl hb5 hc5) (.inl (by decide)))) (ev_int (i := 2147483647)) (by decide)) int_val
          (fun x H1 => (gSub (tVar 0) (tC (.int 1)) rSetL) x [some (.ref b), some (.int many), none, none, some (.int cell), none] H1 fun σ' H' => (tSeq (tIfS (tTest (tOp rGtI (tOp (rIxL K) (tVar 0) (tC (.int 0))) (tC (.int 0)))) (tSeq (tAsg (tOp rModI (tOp (rIxL K) (tVar 0) (tC (.int 0))) (tVar 1)) (gName 5))
    (tSeq (tAsg (tOp rDivI (tOp (rIxL K) (tVar 0) (tC (.int 0))) (tVar 1)) (gSub (tVar 0) (tC (.int 0)) rSetL))
    (tRet (tVar 5)))) tNext)
    (tSeq (tAsg (tOp rModI (tOp rMulI (tOp rAddI (tOp (rIxL K) (tVar 0) (tC (.int 1))) (tC (.int 1))) (tC (.int 39373))) (tC (.int 1000000007))) (gName 2))
    (tSeq (tAsg (tOp rModI (tOp rMulI (tOp rModI (tOp rMulI (tVar 2) (tVar 2)) (tC (.int 998244353))) (tC (.int 30011))) (tC (.int 998244353))) (gName 3))
    (tSeq (tIfS (tTest (tOp rGtI (tVar 1) (tC (.int 1000000)))) (tRet (tOp rModI (tOp rAddI (tOp rMulI (tVar 3) (tC (.int 1000000007))) (tVar 2)) (tVar 1))) tNext)
    (tRet (tOp rModI (tOp rDivI (tVar 3) (tC (.int 7))) (tVar 1))))))) { nx := fun _ H' => Q .non H', rt := Q } σ' H')
          fun H6 s6 e6 => ⟨.ref b, rfl, b, _, 1, 1, rfl, rfl, e6 _ _ hb5, rfl, tail _ _ (bag_put (S5.trans s6) z _ (a2 + 1) hz (Int.emod_nonneg _ (by decide)) (by omega)) ⟨_, _, rfl⟩⟩)
      refine q_if0 (b := decide (1000000000000000000 ≤ cell)) S4 (et_test (ev_ib (K := K) (g := fun i j => decide (j ≤ i)) (ev_var (i := 4) rfl (is_int.mpr rfl)) ev_int)) (fun e H5 S5 e5 => ?_) (fun e H5 S5 e5 => ?_)
      · refine ⟨.int cell, rfl, .ref b, rfl, b, _, 0, 0, rfl, rfl, e5 _ _ hb4, rfl, ?_⟩
        exact fin _ cell hcell (bag_put S5 cell a1 (a2 + 1) hcell n1 (by omega)) upd_same (by rw [upd_ne (Ne.symm nb)]; exact e5 _ _ hc4)
      · exact fin H5 a0 n0 S5 (e5 _ _ hb4) (e5 _ _ hc4)
    refine q_if0 (b := decide (a2 < (ns.length : Int))) S2 (et_test (ev_ib (K := K) (g := fun i j => decide (i < j)) (b2 rfl hb2 hc2) (ev_lenD (K := K) (b3 rfl hb2 hc2)))) (fun e H3 S3 e3 => ?_) (fun e H3 S3 e3 => ?_)
    · have hlt : a2 < (ns.length : Int) := of_decide_eq_true e
      have hb3 := e3 _ _ hb2
      have hc3 := e3 _ _ hc2
      refine s_asg0 S3 (ev_ixLd (K := K) (xs := ns) (b3 rfl hb3 hc3) (b2 rfl hb3 hc3) (atI_some n2 hlt)) int_val fun H4 S4 e4 => ?_
      refine rest (ns.getD a2.toNat 0) H4 ?_ S4 (e4 _ _ hb3) (e4 _ _ hc3)
      rw [List.getD_eq_getElem?_getD, List.getElem?_eq_getElem (by omega)]
      exact I.nn _ (List.getElem_mem _)
    · exact rest 0 H3 (Int.le_refl _) S3 (e3 _ _ hb2) (e3 _ _ hc2)
  · exact tail _ H1 S1 ⟨none, none, rfl⟩
end
end Pk

/-! The law's own reckoning: promises. -/
namespace Pk
open PySem L2
open Enc (enc dep)
section
variable {C : MI} {K : PySem.W.Frag} {σ : L2.St} {B0 H0 B H : Hp} {tt : TT} {tu tw tz : TS} {D : Ends} {b : Bool} {α : Type} {Ra : α → Rp} {l : Addr} {xs : List α}
/-- a test that looks at an own list -/
theorem s_ifA (a : Acc C H0 Ra l xs B H) (S : Stp C B0 H0 B H) (h : ∀ T, Ex B T → (LstR (xs.map Ra)).P (.ref l) T → EvT C tt σ T b) (h1 : b = true → ∀ H2, Stp C B0 H0 B H2 → Stp C B H B H2 → tu D σ H2) (h2 : b = false → ∀ H2, Stp C B0 H0 B H2 → Stp C B H B H2 → tw D σ H2) : tIfS tt tu tw D σ H := by
  obtain ⟨T, k2, e2, r⟩ := a.look S.ok
  exact s_ifT k2 (h T e2 r) S h1 h2
theorem q_ifA (a : Acc C H0 Ra l xs B H) (S : Stp C B0 H0 B H) (h : ∀ T, Ex B T → (LstR (xs.map Ra)).P (.ref l) T → EvT C tt σ T b) (h1 : b = true → ∀ H2, Stp C B0 H0 B H2 → Stp C B H B H2 → tu { D with nx := tz D } σ H2) (h2 : b = false → ∀ H2, Stp C B0 H0 B H2 → Stp C B H B H2 → tw { D with nx := tz D } σ H2) : tSeq (tIfS tt tu tw) tz D σ H :=
  s_ifA (D := { D with nx := tz D }) a S h h1 h2
end
section
variable {K : PySem.W.Frag}
def p__law_meets (K : PySem.W.Frag) : Pm (List Int × List Bd) where
  n := 2
  args x := [Is K (Tu.mk x.1), Is K x.2]
  pre x := (∀ b ∈ x.2, 0 ≤ b.c ∧ b.c < x.1.length) ∧ x.2.length ≤ 1000
  res x := Is K (x.2.all (okB x.1))
abbrev sp__law_meets (K : PySem.W.Frag) : Sp := (p__law_meets K).sp
def t__law_meets (K : PySem.W.Frag) : TS := (tSeq (tFor (iList K (tVar 1)) (gTup K 3 (gCons (gName 2) (gCons (gName 3) (gCons (gName 4) gNil)))) (tIfS (tOr (tAnd (tTest (tOp (rEqD K) (tVar 3) (tC (.str "least")))) (tTest (tOp rLtI (tOp (rIxT K) (tVar 0) (tVar 2)) (tVar 4)))) (tAnd (tTest (tOp (rEqD K) (tVar 3) (tC (.str "most")))) (tTest (tOp rGtI (tOp (rIxT K) (tVar 0) (tVar 2)) (tVar 4))))) (tRet (tC (.bl false))) tNext))
  (tRet (tC (.bl true))))
theorem len__law_meets (K : PySem.W.Frag) : ∀ vs H Q E, sp__law_meets K vs H Q E → vs.length = 2 := Pm.len _ rfl
theorem okB_test (row : List Int) (b : Bd) : ((decide (b.w = .least) && decide (row.getD b.c.toNat 0 < b.v)) || (decide (b.w = .most) && decide (b.v < row.getD b.c.toNat 0))) = !okB row b := by
  unfold okB
  generalize row.getD b.c.toNat 0 = r
  cases b.w
  · by_cases h : b.v ≤ r
    · have h2 : ¬ r < b.v := by omega
      simp [h, h2]
    · have h2 : r < b.v := by omega
      simp [h, h2]
  · by_cases h : r ≤ b.v
    · have h2 : ¬ b.v < r := by omega
      simp [h, h2]
    · have h2 : b.v < r := by omega
      simp [h, h2]
theorem pure__law_meets (c : Kn0 K) : ∀ vs H Q E, sp__law_meets K vs H Q E → t__law_meets K { nx := fun _ H' => Q .non H', rt := Q } (start ["row", "wish", "column", "way", "value"] vs) H := by
  rintro vs H Q E ⟨C, B, ⟨row, bs⟩, k, _, a, hp, q⟩
  obtain _ | @⟨_, v0, _, _, r0, _ | @⟨_, v1, _, _, r1, _ | _⟩⟩ := a
  refine q_forD (J := fun b => JT 2 3 4 (Is K b.c) (Is K b.w) (Is K b.v)) (Ri := Is K) (ei_listD (ev_var rfl r1)) k.refl (fun x => ?_)
    (fun pre σ1 B1 H1 => ∃ o2 o3 o4, σ1 = [some v0, some v1, o2, o3, o4] ∧ pre.all (okB row) = true) (fun B1 H1 S1 s1 => ⟨none, none, none, rfl, rfl⟩) (fun pre b post σ1 B1 H1 B2 H2 hx S1 e1 ⟨o2, o3, o4, hs, hall⟩ s2 σ2 j => ?_) (fun σ1 B1 H1 S1 e1 ⟨o2, o3, o4, hs, hall⟩ => ?_)
  · intro v B H σ Q e r q
    exact go_triple (K := K) v B H σ Q e (is_bd.mp r) q
  · subst hs
    obtain ⟨v2, v3, v4, r2, r3, r4, rfl⟩ := j
    have hx : bs = pre ++ b :: post := hx
    have hb : b ∈ bs := by rw [hx]; simp
    have R0 : (Is K (Tu.mk row)).P v0 B2 := Rp.mono _ (e1.trans s2.bb) r0
    have hbb := hp.1 b hb
    have ix := ev_ixTd (C := C) (K := K) (σ := [some v0, some v1, some v2, some v3, some v4]) (B := B2) (xs := Tu.mk row) (ev_var (i := 0) rfl R0) (ev_var (i := 2) rfl r2) (atI_some hbb.1 hbb.2)
    refine s_if (b := !okB row b) ((et_or (et_and (et_test (ev_eq (K := K) (ev_var (i := 3) rfl r3) ev_least)) fun _ => et_test (ev_ib (K := K) (g := fun i j => decide (i < j)) ix (ev_var (i := 4) rfl r4))) fun _ => et_and (et_test (ev_eq (K := K) (ev_var (i := 3) rfl r3) ev_most)) fun _ => et_test (ev_ib (K := K) (g := fun i j => decide (j < i)) ix (ev_var (i := 4) rfl r4))).to ?_) (S1.trans s2) (fun e H3 S3 s3 => ?_) (fun e H3 S3 s3 => ?_)
    · exact okB_test row b
    · exact s_ret (ev_bl (K := K)) S3 fun v B4 H4 S4 r4 => q v B4 H4 S4 (by
        have : bs.all (okB row) = false := by
          rw [hx, List.all_append, List.all_cons]
          have : okB row b = false := by simpa using e
          rw [this]; simp
        show (Is K (bs.all (okB row))).P v B4
        rw [this]; exact r4)
    · exact ⟨B2, S3, s2.bb, some v2, some v3, some v4, rfl, by
        rw [List.all_append, hall]
        have : okB row b = true := by simpa using e
        simp [this]⟩
  · subst hs
    exact s_ret (ev_bl (K := K)) S1 fun v B4 H4 S4 r4 => q v B4 H4 S4 (by
      show (Is K (bs.all (okB row))).P v B4
      rw [hall]; exact r4)
def p__law_rooms (K : PySem.W.Frag) : Pm ((List Int × List Int) × List Sd) where
  n := 2
  args x := [Is K x.1, Is K x.2]
  pre x := (∀ s ∈ x.2, 0 ≤ s.1 ∧ s.1 < x.1.2.length) ∧ x.2.length ≤ 1000
  res x := Is K (x.2.map (room x.1.1 x.1.2))
abbrev sp__law_rooms (K : PySem.W.Frag) : Sp := (p__law_rooms K).sp
def t__law_rooms (K : PySem.W.Frag) : TS := (tSeq (tAsg (tVar 0) (gTup K 2 (gCons (gName 2) (gCons (gName 3) gNil))))
  (tRet (tLc (iList K (tVar 1)) (gName 4) tYes (tOp (rIxL K) (tLst (tCons (tOp rSubI (tCB (rSum K) (tCons (tVar 2) tNil)) (tOp (rIxL K) (tVar 3) (tOp (rIxT K) (tVar 4) (tC (.int 0))))) (tCons (tOp rSubI (tOp (rIxL K) (tVar 3) (tOp (rIxT K) (tVar 4) (tC (.int 0)))) (tC (.int 1))) tNil))) (tCB rInt (tCons (tOp (rEqD K) (tOp (rIxT K) (tVar 4) (tC (.int 1))) (tC (.str "least"))) tNil))) [4])))
theorem len__law_rooms (K : PySem.W.Frag) : ∀ vs H Q E, sp__law_rooms K vs H Q E → vs.length = 2 := Pm.len _ rfl
theorem pure__law_rooms (c : Kn0 K) : ∀ vs H Q E, sp__law_rooms K vs H Q E → t__law_rooms K { nx := fun _ H' => Q .non H', rt := Q } (start ["parts", "sides", "weights", "quotas", "side"] vs) H := by
  rintro vs H Q E ⟨C, B, ⟨⟨ws, qs⟩, ss⟩, k, _, a, hp, q⟩
  obtain _ | @⟨_, v0, _, _, r0, _ | @⟨_, v1, _, _, r1, _ | _⟩⟩ := a
  refine q_asg2 (K := K) (ev_var rfl (is_pair.mp r0)) k.refl fun v2 v3 B2 H2 S s2 r2 r3 => ?_
  refine s_ret (ev_lcMD (room ws qs) (ei_listD (ev_var rfl (Rp.mono _ s2.bb r1))) (Nat.le_trans hp.2 (by decide)) (fun x => go_name) fun s σ2 B' hb eb j => ?_) S fun v B4 H4 S4 r4 => q v B4 H4 S4 r4
  obtain ⟨v, hv, rfl⟩ := j
  refine ⟨rfl, ?_⟩
  have hs := hp.1 s hb
  have R2 : (Is K ws).P v2 B' := Rp.mono _ eb r2
  have R3 : (Is K qs).P v3 B' := Rp.mono _ eb r3
  have s0 := ev_ixT (C := C) (K := K) (σ := [some v0, some v1, some v2, some v3, some v]) (B := B') (Rs := [Is K s.1, Is K s.2]) (i := 0) (R := Is K s.1) (ev_var (i := 4) rfl (is_pair.mp hv)) ev_int rfl
  have s1 := ev_ixT (C := C) (K := K) (σ := [some v0, some v1, some v2, some v3, some v]) (B := B') (Rs := [Is K s.1, Is K s.2]) (i := 1) (R := Is K s.2) (ev_var (i := 4) rfl (is_pair.mp hv)) ev_int rfl
  have qx := ev_ixLd (C := C) (K := K) (σ := [some v0, some v1, some v2, some v3, some v]) (B := B') (xs := qs) (ev_var (i := 3) rfl R3) s0 (atI_some hs.1 hs.2)
  refine ev_ixL (K := K) (Rs := [Is K (ws.sum - qs.getD s.1.toNat 0), Is K (qs.getD s.1.toNat 0 - 1)]) (ev_lst (ea_cons (ev_i (K := K) (g := fun i j => i - j) (ev_sum (K := K) (ev_var (i := 2) rfl R2)) qx) (ea_cons (ev_i (K := K) (g := fun i j => i - j) qx ev_int) ea_nil)) (by simp)) (ev_intB (K := K) (ev_eq (K := K) s1 ev_least)) ?_
  unfold room
  cases s.2 <;> rfl
/-! sets -/
def p__law_within (K : PySem.W.Frag) : Pm (List Bd × List Bd) where
  n := 2
  args x := [Is K x.1, Is K x.2]
  pre x := x.1.length ≤ 1000000
  res x := Is K (x.1.all fun b => decide (b ∈ x.2))
abbrev sp__law_within (K : PySem.W.Frag) : Sp := (p__law_within K).sp
def t__law_within (K : PySem.W.Frag) : TS := (tRet (tCB (rAll K) (tCons (tLc (iList K (tVar 0)) (gName 2) tYes (tOp (rInD K) (tVar 2) (tVar 1)) [2]) tNil)))
theorem len__law_within (K : PySem.W.Frag) : ∀ vs H Q E, sp__law_within K vs H Q E → vs.length = 2 := Pm.len _ rfl
theorem pure__law_within (c : Kn0 K) : ∀ vs H Q E, sp__law_within K vs H Q E → t__law_within K { nx := fun _ H' => Q .non H', rt := Q } (start ["some", "other", "item"] vs) H := by
  rintro vs H Q E ⟨C, B, ⟨xs, ys⟩, k, _, a, hp, q⟩
  have hp : xs.length ≤ 1000000 := hp
  obtain _ | @⟨_, v0, _, _, r0, _ | @⟨_, v1, _, _, r1, _ | _⟩⟩ := a
  refine s_ret (ev_all (bs := xs.map fun b => decide (b ∈ ys)) (ev_lcMD _ (ei_listD (ev_var rfl r0)) (by omega) (fun x => go_name) fun b σ2 B' hb eb j => ?_)) k.refl fun v B4 H4 S4 r4 => q v B4 H4 S4 (by rw [all_map] at r4; exact r4)
  obtain ⟨v, hv, rfl⟩ := j
  exact ⟨rfl, ev_in (K := K) (ev_var rfl hv) (ev_var rfl (Rp.mono _ eb r1))⟩
def seats {α : Type} (rows : List α) : Nat → List (Tu α)
  | 0 => [⟨[]⟩]
  | n + 1 => (seats rows n).flatMap fun one => rows.map fun r => ⟨one.l ++ [r]⟩
theorem seats_len {α : Type} (rows : List α) : ∀ n, (seats rows n).length = rows.length ^ n
  | 0 => rfl
  | n + 1 => by
    have : ∀ l : List (Tu α), (l.flatMap fun one => rows.map fun r => (⟨one.l ++ [r]⟩ : Tu α)).length = l.length * rows.length := fun l => by
      induction l with
      | nil => simp
      | cons x l ih => rw [List.flatMap_cons, List.length_append, ih, List.length_map, List.length_cons, Nat.succ_mul]; omega
    unfold seats
    rw [this, seats_len rows n, Nat.pow_succ]
theorem seats_each {α : Type} (rows : List α) : ∀ n s, s ∈ seats rows n → s.l.length = n ∧ ∀ x ∈ s.l, x ∈ rows
  | 0, s, h => by
    cases List.mem_singleton.mp h; exact ⟨rfl, fun x hx => by cases hx⟩
  | n + 1, s, h => by
    obtain ⟨one, h1, h2⟩ := List.mem_flatMap.mp h
    obtain ⟨r, h3, rfl⟩ := List.mem_map.mp h2
    have := seats_each rows n one h1
    refine ⟨by simp [this.1], fun x hx => ?_⟩
    rcases List.mem_append.mp hx with hx | hx
    · exact this.2 x hx
    · rw [List.mem_singleton.mp hx]; exact h3
def p__law_seatingsA (α : Type) [Enc α] (K : PySem.W.Frag) : Pm (List α × Nat) where
  n := 2
  args x := [Is K x.1, Is K x.2]
  pre x := (∀ m, m ≤ x.2 → x.1.length ^ m ≤ 16000000) ∧ x.2 ≤ 1000
  res x := Is K (seats x.1 x.2)
def sp__law_seatings (K : PySem.W.Frag) : Sp := fun vs H Q E => ∃ (α : Type) (_ : Enc α), (p__law_seatingsA α K).sp vs H Q E
theorem len__law_seatings (K : PySem.W.Frag) : ∀ vs H Q E, sp__law_seatings K vs H Q E → vs.length = 2 := fun vs H Q E ⟨α, _, h⟩ => (p__law_seatingsA α K).len rfl vs H Q E h
theorem ev_seatings {C : MI} {σ : L2.St} {B : Hp} {t : TA} {E : XK} {α : Type} [Enc α] (xs : List α) (n : Nat) (h : EvA C t σ B [Is K xs, Is K n]) (hp : (∀ m, m ≤ n → xs.length ^ m ≤ 16000000) ∧ n ≤ 1000) : Ev C (tCall (sp__law_seatings K) [] E t) σ B (Is K (seats xs n)) := fun B1 H1 e k Q q =>
  h B1 H1 e k _ fun vs B2 H2 s r => by
    rw [List.append_nil]
    exact ⟨α, inferInstance, C, B2, (xs, n), s.ok, trivial, r, hp, fun v B3 H3 s3 r3 => q v B3 H3 (s.trans s3) r3⟩
def t__law_seatings (K : PySem.W.Frag) : TS := (tSeq (tAsg (tLst (tCons (tTup tNil) tNil)) (gName 2))
  (tSeq (tFor (iRng1 (tCons (tVar 1) tNil)) (gName 3) (tSeq (tAsg (tLst tNil) (gName 4))
  (tSeq (tFor (iList K (tVar 2)) (gName 5) (tDrop (tBM K "list" rExtend (tVar 4) (tCons (tLc (iList K (tVar 0)) (gName 6) tYes (tOp (rCatA K) (tVar 5) (tTup (tCons (tVar 6) tNil))) [6]) tNil))))
  (tAsg (tVar 4) (gName 2)))))
  (tRet (tVar 2))))
theorem pure_seatings (α : Type) [Enc α] : ∀ vs H Q E, (p__law_seatingsA α K).sp vs H Q E → t__law_seatings K { nx := fun _ H' => Q .non H', rt := Q } (start ["rows", "many", "found", "seat", "longer", "one", "row"] vs) H := by
  rintro vs H Q E ⟨C, B, ⟨rows, n⟩, k, _, a, ⟨h2, h3⟩, q⟩
  have h2 : ∀ m, m ≤ n → rows.length ^ m ≤ 16000000 := h2
  have h3 : n ≤ 1000 := h3
  obtain _ | @⟨_, v0, _, _, r0, _ | @⟨_, v1, _, _, r1, _ | _⟩⟩ := a
  have hrl : 1 ≤ n → rows.length ≤ 16000000 := fun h => by have := h2 1 h; rwa [Nat.pow_one] at this
  refine q_asg (R := Is K (seats rows 0)) (ev_lstD (K := K) (α := Tu α) (xs := [⟨[]⟩]) (ea_cons ((ev_tup ea_nil (by simp)).le fun _ _ r => is_tup.mpr r) ea_nil)) k.refl fun v2 B2 H2 S2 s2 r2 => ?_
  have hw : (rng 0 ((n : Nat) : Int).toNat).length = n := by rw [rng_len]; omega
  refine q_forD (xs := rng 0 ((n : Nat) : Int).toNat) (Ri := Is K) (J := fun i => JN 3 (Is K i)) (ei_range1 (K := K) (ea_cons (ev_natI (ev_var rfl (Rp.mono _ s2.bb r1))) ea_nil) (by omega)) S2 (fun x => go_name)
    (fun pre σ1 B1 H1 => ∃ v2 o3 o4 o5, σ1 = [some v0, some v1, some v2, o3, o4, o5, none] ∧ (Is K (seats rows pre.length)).P v2 B1) (fun B1 H1 S1 s1 => ⟨v2, none, none, none, rfl, Rp.mono _ s1.bb r2⟩) (fun pre x post σ1 B3 H3 B4 H4 hx S3 e3 ⟨v2, o3, o4, o5, hs, r2⟩ s4 σ2 j => ?_) (fun σ1 B3 H3 S3 e3 ⟨v2, o3, o4, o5, hs, r2⟩ => ?_)
  · subst hs
    obtain ⟨v3, r3, rfl⟩ := j
    have hpl := pre_len hx
    rw [hw] at hpl
    refine q_new (Ra := Is K) (α := Tu α) (S3.trans s4) fun l hl S5 A5 => ?_
    refine q_forD (xs := seats rows pre.length) (Ri := Is K) (J := fun s => JN 5 (Is K s)) (ei_listD (ev_var rfl (Rp.mono _ s4.bb r2))) S5 (fun x => go_name)
      (fun pre2 σ1 B1 H1 => ∃ o5, σ1 = [some v0, some v1, some v2, some v3, some (.ref l), o5, none] ∧ Ex B4 B1 ∧ Acc C H (Is K) l (pre2.flatMap fun one => rows.map fun r => (⟨one.l ++ [r]⟩ : Tu α)) B1 H1) (fun B1 H1 S1 s1 => ⟨o5, rfl, s1.bb, A5.step s1⟩) (fun pre2 one post2 σ1 B6 H6 B7 H7 hx2 S6 e6 ⟨o5, hs, e46, A6⟩ s7 σ2 j => ?_) (fun σ1 B6 H6 S6 e6 ⟨o5, hs, e46, A6⟩ => ?_)
    · subst hs
      obtain ⟨v5, r5, rfl⟩ := j
      have A7 := A6.step s7
      have e07 : Ex B B7 := s2.bb.trans (e3.trans (s4.bb.trans (e46.trans s7.bb)))
      have hlen : ∀ l : List (Tu α), (l.flatMap fun one => rows.map fun r => (⟨one.l ++ [r]⟩ : Tu α)).length = l.length * rows.length := fun l => by
        induction l with
        | nil => simp
        | cons x l ih => rw [List.flatMap_cons, List.length_append, ih, List.length_map, List.length_cons, Nat.succ_mul]; omega
      have hp2 := pre_len hx2
      have hsz : (pre2.length + 1) * rows.length ≤ 16000000 := by
        refine Nat.le_trans (Nat.mul_le_mul_right _ hp2) ?_
        rw [seats_len, ← Nat.pow_succ]
        exact h2 _ hpl
      have hone : one ∈ seats rows pre.length := by rw [hx2]; simp
      have hol := (seats_each rows _ one hone).1
      refine s_ext (K := K) (ys := rows.map fun r => (⟨one.l ++ [r]⟩ : Tu α)) A7 (ev_var rfl rfl) ((ev_lcMD (K := K) (xs := rows) (fun r => (⟨one.l ++ [r]⟩ : Tu α)) (ei_listD (ev_var rfl (Rp.mono _ e07 r0))) (hrl (by omega)) (fun x => go_name) fun r σ2 B' hb eb j => ?_).le fun _ _ => is_lst.mp) (S6.trans s7) ?_ fun B8 H8 H9 S9 s8 _ A9 => ⟨B8, S9, s7.bb.trans s8.bb, some v5, rfl, e46.trans (s7.bb.trans s8.bb), by rw [List.flatMap_append, List.flatMap_singleton]; exact A9⟩
      · obtain ⟨v, hv, rfl⟩ := j
        exact ⟨rfl, ev_catTD (K := K) (xs := one) (ys := ⟨[r]⟩) (ev_var rfl (Rp.mono _ eb r5)) ((ev_tup (Rs := [Is K r]) (ea_cons (ev_var rfl hv) ea_nil) (by simp)).le fun _ _ r => is_tup.mpr r) (by rw [hol]; simp; omega)⟩
      · rw [hlen, List.length_map]
        rw [Nat.succ_mul] at hsz; omega
    · subst hs
      obtain ⟨B8, S8, e8, rl, _⟩ := A6.frz S6
      refine s_asg (i := 2) (R := Is K (seats rows (pre.length + 1))) (ev_var (i := 4) rfl (is_lst.mpr rl)) S8 fun v B9 H9 S9 s9 r9 => ?_
      refine ⟨B9, S9, s4.bb.trans (e46.trans (e8.trans s9.bb)), v, some v3, some (.ref l), o5, rfl, ?_⟩
      rw [List.length_append, List.length_singleton]; exact r9
  · subst hs
    rw [hw] at r2
    exact s_ret (ev_var rfl r2) S3 fun v B4 H4 S4 r4 => q v B4 H4 S4 r4
theorem pure__law_seatings (c : Kn0 K) : ∀ vs H Q E, sp__law_seatings K vs H Q E → t__law_seatings K { nx := fun _ H' => Q .non H', rt := Q } (start ["rows", "many", "found", "seat", "longer", "one", "row"] vs) H := fun vs H Q E ⟨α, _, h⟩ => pure_seatings α vs H Q E h
end
end Pk

/-! The law's own levels: promises. -/
namespace Pk
open PySem L2
open Enc (enc dep)
/-- not in, as the evaluation has it -/
def notIn {α : Type} [DecidableEq α] (x : α) (xs : List α) : Bool := decide (x ∉ xs)
theorem notIn_iff {α : Type} [DecidableEq α] {x : α} {xs : List α} : notIn x xs = true ↔ x ∉ xs := by unfold notIn; exact decide_eq_true_iff
theorem Acc.keep {α : Type} {C : MI} {H0 B B2 H : Hp} {R : α → Rp} {l : Addr} {xs : List α} (a : Acc C H0 R l xs B H) (b : B2 l = none) (e : Ex B B2) : Acc C H0 R l xs B2 H := by
  obtain ⟨vs, g1, g2⟩ := a.is
  exact ⟨a.new, b, a.nm, vs, g1, g2.mono e⟩
def wthn (x y : List Bd) : Bool := x.all fun b => decide (b ∈ y)
def domd (sets : List (List Bd)) (one : List Bd) : List (List Bd) := (sets.filter fun o => decide (o ≠ one) && wthn one o).map id
def lgr (sets : List (List Bd)) : List (List Bd) := (srt (List Bd) false sets).foldl (fun acc one => if notIn one acc && decide (domd sets one = []) then acc ++ [one] else acc) []
def missSum (ws : List Int) (s : Tu (List Bd)) (b : Bd) : Int := (((rng 0 s.l.length).filter fun k => decide (b ∉ s.l.getD k.toNat [])).map fun k => ws.getD k.toNat 0).sum
def someOf (bds : List Bd) (rooms : List Int) (ws : List Int) (s : Tu (List Bd)) : List Bd := ((bds.zip rooms).filter fun p => decide (missSum ws s p.1 ≤ p.2)).map Prod.fst
def lwStep (bds : List Bd) (level : List (List Bd)) (acc : List (List Bd)) (p : List Int × List Int) : List (List Bd) := (seats level p.1.length).foldl (fun acc s => if notIn (someOf bds (roomsB p bds) p.1 s) acc = true then acc ++ [someOf bds (roomsB p bds) p.1 s] else acc) acc
def lawNext (plans : List (List Int × List Int)) (bds : List Bd) (level : List (List Bd)) : List (List Bd) := lgr (plans.foldl (lwStep bds level) level)
def lvF (nx : List (List Bd) → List (List Bd)) : Nat → List (List Bd) → List (List (List Bd))
  | 0, last => [last]
  | f + 1, last => if nx last = last then [last] else last :: lvF nx f (nx last)
def lawMet (rows : List (Tu Int)) (bds : List Bd) : List (List Bd) := rows.map fun r => (bds.filter fun b => [b].all (okB r.l)).map id
section
variable {K : PySem.W.Frag}
def p__law_greatest (K : PySem.W.Frag) : Pm (List (List Bd)) where
  n := 1
  args x := [Is K x]
  pre x := x.length ≤ 15000000 ∧ ∀ s ∈ x, s.length ≤ 1000
  res x := Is K (lgr x)
abbrev sp__law_greatest (K : PySem.W.Frag) : Sp := (p__law_greatest K).sp
def t__law_greatest (K : PySem.W.Frag) : TS := (tSeq (tAsg (tLst tNil) (gName 1))
  (tSeq (tFor (iList K (tCB (SrtIn K false) (tCons (tVar 0) tNil))) (gName 2) (tSeq (tAsg (tLc (iList K (tVar 0)) (gName 4) (tAnd (tTest (tOp (rNeD K) (tVar 4) (tVar 2))) (tB (tCall (sp__law_within K) [] E0 (tCons (tVar 2) (tCons (tVar 4) tNil))))) (tVar 4) [4]) (gName 3))
  (tIfS (tAnd (tTest (tOp (rNotInD K) (tVar 2) (tVar 1))) (tTest (tOp (rEqD K) (tVar 3) (tLst tNil)))) (tDrop (tBM K "list" rAppend (tVar 1) (tCons (tVar 2) tNil))) tNext)))
  (tRet (tVar 1))))
theorem len__law_greatest (K : PySem.W.Frag) : ∀ vs H Q E, sp__law_greatest K vs H Q E → vs.length = 1 := Pm.len _ rfl
theorem pure__law_greatest (c : Kn0 K) : ∀ vs H Q E, sp__law_greatest K vs H Q E → t__law_greatest K { nx := fun _ H' => Q .non H', rt := Q } (start ["sets", "found", "one", "larger", "other"] vs) H := by
  rintro vs H Q E ⟨C, B, sets, k, _, a, ⟨hp, hp2⟩, q⟩
  have hp : sets.length ≤ 15000000 := hp
  obtain _ | @⟨_, v0, _, _, r0, _ | _⟩ := a
  let F : List (List Bd) → List Bd → List (List Bd) := fun acc one => if notIn one acc && decide (domd sets one = []) then acc ++ [one] else acc
  have Flen : ∀ pre : List (List Bd), (pre.foldl F []).length ≤ pre.length := fun pre => by
    refine snoc_ind (P := fun pre => (pre.foldl F []).length ≤ pre.length) (Nat.le_refl _) (fun xs x ih => ?_) pre
    rw [List.foldl_append]
    show (F (xs.foldl F []) x).length ≤ _
    show (if _ then _ else _ : List (List Bd)).length ≤ _
    split <;> simp <;> omega
  refine q_new (Ra := Is K) (α := List Bd) k.refl fun l hl S A => ?_
  refine q_forD (J := fun m => JN 2 (Is K m)) (Ri := Is K) (xs := srt (List Bd) false sets) (ei_listD (ev_sort (K := K) (ev_var rfl r0) so_list)) S (fun x => go_name)
    (fun pre σ1 B1 H1 => ∃ o o3, σ1 = [some v0, some (.ref l), o, o3, none] ∧ Acc C H (Is K) l (pre.foldl F []) B1 H1) (fun B1 H1 S1 s1 => ⟨none, none, rfl, A.step s1⟩) (fun pre one post σ1 B1 H1 B2 H2 hx S1 e1 ⟨o, o3, hs, A1⟩ s2 σ2 j => ?_) (fun σ1 B1 H1 S1 e1 ⟨o, o3, hs, A1⟩ => ?_)
  · subst hs
    obtain ⟨w, hw, rfl⟩ := j
    have R0 : (Is K sets).P v0 B2 := Rp.mono _ (e1.trans s2.bb) r0
    have hone : one ∈ sets := srt_mem.mp (by rw [hx]; simp)
    have A2 := A1.step s2
    refine q_asg (R := Is K (domd sets one)) (ev_lcFD (K := K) (Ri := Is K) (fun o => decide (o ≠ one) && wthn one o) id (ei_listD (ev_var rfl R0)) (by omega) (fun x => go_name) fun o σ2 B' hb eb j => ?_) (S1.trans s2) fun v3 B3 H3 S3 s3 r3 => ?_
    · obtain ⟨z, hz, rfl⟩ := j
      exact ⟨rfl, et_and (et_test (ev_ne (K := K) (ev_var rfl hz) (ev_var rfl (Rp.mono _ eb hw)))) fun _ => et_B (K := K) (ev_call (p := p__law_within K) (one, o) (ea_cons (ev_var rfl (Rp.mono _ eb hw)) (ea_cons (ev_var rfl hz) ea_nil)) (Nat.le_trans (hp2 one hone) (by decide))), fun _ => ev_var rfl hz⟩
    have A3 := A2.step s3
    have W3 : (Is K one).P w B3 := Rp.mono _ s3.bb hw
    refine s_ifA A3 S3 (b := notIn one (pre.foldl F []) && decide (domd sets one = [])) (fun T eT rT => et_and (et_test (ev_nin (K := K) (ev_var rfl (Rp.mono _ eT W3)) (ev_var rfl (is_lst.mpr rT)))) fun _ => et_test (ev_eq (K := K) (ev_var rfl (Rp.mono _ eT r3)) (ev_lstD (α := List Bd) (xs := []) ea_nil))) (fun e H4 S4 s4 => ?_) (fun e H4 S4 s4 => ?_)
    · refine s_app (K := K) (x := one) (A3.step s4) (ev_var rfl rfl) (ev_var rfl W3) S4 ?_ fun B5 H5 H6 S6 s5 _ A6 => ⟨B5, S6, s2.bb.trans (s3.bb.trans s5.bb), some w, some v3, rfl, ?_⟩
      · have h1 := pre_len hx
        rw [srt_len] at h1
        have := Flen pre
        omega
      · rw [List.foldl_append]
        show Acc C H (Is K) l (F (pre.foldl F []) one) B5 H6
        show Acc C H (Is K (α := List Bd)) l (if _ then _ else _) B5 H6
        rw [if_pos e]; exact A6
    · refine ⟨B3, S4, s2.bb.trans s3.bb, some w, some v3, rfl, ?_⟩
      rw [List.foldl_append]
      show Acc C H (Is K (α := List Bd)) l (if _ then _ else _) B3 H4
      rw [if_neg (by rw [e]; exact Bool.false_ne_true)]; exact A3.step s4
  · subst hs
    exact s_retAcc A1 rfl S1 fun B2 S2 r => q _ B2 H1 S2 (is_lst.mpr r)
def p__law_met (K : PySem.W.Frag) : Pm (List (Tu Int) × List Bd) where
  n := 2
  args x := [Is K x.1, Is K x.2]
  pre x := (∀ r ∈ x.1, ∀ b ∈ x.2, 0 ≤ b.c ∧ b.c < r.l.length) ∧ x.2.length ≤ 1000 ∧ x.1.length ≤ 1000000
  res x := Is K (lawMet x.1 (srt Bd false x.2))
abbrev sp__law_met (K : PySem.W.Frag) : Sp := (p__law_met K).sp
def t__law_met (K : PySem.W.Frag) : TS := (tSeq (tAsg (tCB (SrtIn K false) (tCons (tVar 1) tNil)) (gName 2))
  (tRet (tLc (iList K (tVar 0)) (gName 3) tYes (tLc (iList K (tVar 2)) (gName 4) (tB (tCall (sp__law_meets K) [] E0 (tCons (tVar 3) (tCons (tLst (tCons (tVar 4) tNil)) tNil)))) (tVar 4) [4]) [3])))
theorem len__law_met (K : PySem.W.Frag) : ∀ vs H Q E, sp__law_met K vs H Q E → vs.length = 2 := Pm.len _ rfl
theorem pure__law_met (c : Kn0 K) : ∀ vs H Q E, sp__law_met K vs H Q E → t__law_met K { nx := fun _ H' => Q .non H', rt := Q } (start ["rows", "wish", "bounds", "row", "bound"] vs) H := by
  rintro vs H Q E ⟨C, B, ⟨rows, wish⟩, k, _, a, ⟨hv, hn, hr⟩, q⟩
  have hn : wish.length ≤ 1000 := hn
  have hr : rows.length ≤ 1000000 := hr
  obtain _ | @⟨_, v0, _, _, r0, _ | @⟨_, v1, _, _, r1, _ | _⟩⟩ := a
  refine q_asg (ev_sort (K := K) (xs := wish) (ev_var rfl r1) so_bd) k.refl fun v2 B2 H2 S2 s2 r2 => ?_
  refine s_ret (ev_lcMD (K := K) _ (ei_listD (ev_var rfl (Rp.mono _ s2.bb r0))) (by omega) (fun x => go_name) fun r σ2 B' hb eb j => ?_) S2 fun v B4 H4 S4 r4 => q v B4 H4 S4 r4
  obtain ⟨v, hv', rfl⟩ := j
  refine ⟨rfl, ev_lcFD (K := K) (Ri := Is K) (xs := srt Bd false wish) (fun b => [b].all (okB r.l)) id (ei_listD (ev_var rfl (Rp.mono _ eb r2))) (by rw [srt_len]; omega) (fun x => go_name) fun b σ2 B'' hb2 eb2 j => ?_⟩
  obtain ⟨u, hu, rfl⟩ := j
  exact ⟨rfl, et_B (K := K) (ev_call (p := p__law_meets K) (r.l, [b]) (ea_cons (ev_var rfl (Rp.mono _ eb2 hv')) (ea_cons (ev_lstD (α := Bd) (xs := [b]) (ea_cons (ev_var rfl hu) ea_nil)) ea_nil)) ⟨fun b' hb' => by rw [List.mem_singleton.mp hb']; exact hv r hb b (srt_mem.mp hb2), by simp⟩), fun _ => ev_var rfl hu⟩
structure NextIn where
  plans : List (List Int × List Int)
  wish : List Bd
  level : List (List Bd)
  N : Nat
structure NextOk (x : NextIn) : Prop where
  hv : ∀ p ∈ x.plans, ∀ b ∈ x.wish, 0 ≤ b.c ∧ b.c < p.2.length
  hn : x.wish.length ≤ 1000
  hN : ∀ p ∈ x.plans, (∀ m, m ≤ p.1.length → x.level.length ^ m ≤ x.N) ∧ p.1.length ≤ 1000
  hs : x.level.length + x.plans.length * x.N ≤ 15000000
  hl : ∀ s ∈ x.level, s.length ≤ 1000
def p__law_next_sets (K : PySem.W.Frag) : Pm NextIn where
  n := 3
  args x := [Is K x.plans, Is K x.wish, Is K x.level]
  pre x := NextOk x
  res x := Is K (lawNext x.plans (srt Bd false x.wish) x.level)
abbrev sp__law_next_sets (K : PySem.W.Frag) : Sp := (p__law_next_sets K).sp
def t__law_next_sets (K : PySem.W.Frag) : TS := (tSeq (tPar 3 4 (tCons (tCB (SrtIn K false) (tCons (tVar 1) tNil)) (tCons (tCB (rListQ K) (tCons (tVar 2) tNil)) tNil)))
  (tSeq (tFor (iList K (tVar 0)) (gName 5) (tSeq (tAsg (tCall (sp__law_rooms K) [] E0 (tCons (tVar 5) (tCons (tLc (iList K (tVar 3)) (gName 9) tYes (tSl (rSlA K) (tVar 9) tNoPart (tPart (tC (.int 2)))) [9]) tNil))) (gName 6))
  (tFor (iList K (tCall (sp__law_seatings K) [] E0 (tCons (tVar 2) (tCons (tCB (rLenQ K) (tCons (tOp (rIxT K) (tVar 5) (tC (.int 0))) tNil)) tNil)))) (gName 7) (tSeq (tAsg (tLst tNil) (gName 8))
  (tSeq (tFor (iZipM K true true (tCons (tVar 3) (tCons (tVar 6) tNil))) (gTup K 2 (gCons (gName 9) (gCons (gName 10) gNil))) (tIfS (tTest (tOp rLeI (tCB (rSum K) (tCons (tLc (iRng1 (tCons (tCB (rLenQ K) (tCons (tVar 7) tNil)) tNil)) (gName 11) (tTest (tOp (rNotInD K) (tVar 9) (tOp (rIxT K) (tVar 7) (tVar 11)))) (tOp (rIxL K) (tOp (rIxT K) (tVar 5) (tC (.int 0))) (tVar 11)) [11]) tNil)) (tVar 10))) (tDrop (tBM K "list" rAppend (tVar 8) (tCons (tVar 9) tNil))) tNext))
  (tIfS (tTest (tOp (rNotInD K) (tVar 8) (tVar 4))) (tDrop (tBM K "list" rAppend (tVar 4) (tCons (tVar 8) tNil))) tNext))))))
  (tRet (tCall (sp__law_greatest K) [] E0 (tCons (tVar 4) tNil)))))
theorem len__law_next_sets (K : PySem.W.Frag) : ∀ vs H Q E, sp__law_next_sets K vs H Q E → vs.length = 3 := Pm.len _ rfl
theorem lw_len {bds : List Bd} {rooms ws : List Int} : ∀ (ss : List (Tu (List Bd))) (acc : List (List Bd)), (ss.foldl (fun acc s => if notIn (someOf bds rooms ws s) acc = true then acc ++ [someOf bds rooms ws s] else acc) acc).length ≤ acc.length + ss.length
  | [], acc => Nat.le_refl _
  | s :: ss, acc => by
    have h := lw_len (bds := bds) (rooms := rooms) (ws := ws) ss (if notIn (someOf bds rooms ws s) acc = true then acc ++ [someOf bds rooms ws s] else acc)
    rw [List.foldl_cons, List.length_cons]
    refine Nat.le_trans h ?_
    split <;> simp <;> omega
theorem some_len {bds : List Bd} {rooms ws : List Int} {s : Tu (List Bd)} : (someOf bds rooms ws s).length ≤ bds.length := by
  unfold someOf
  rw [List.length_map]
  refine Nat.le_trans (List.length_filter_le _ _) ?_
  rw [List.length_zip]; exact Nat.min_le_left _ _
theorem lw_each {bds : List Bd} {rooms ws : List Int} : ∀ (ss : List (Tu (List Bd))) (acc : List (List Bd)), (∀ s ∈ acc, s.length ≤ 1000) → bds.length ≤ 1000 → ∀ s ∈ (ss.foldl (fun acc s => if notIn (someOf bds rooms ws s) acc = true then acc ++ [someOf bds rooms ws s] else acc) acc), s.length ≤ 1000
  | [], acc, h, _ => h
  | s :: ss, acc, h, hb => by
    rw [List.foldl_cons]
    refine lw_each ss _ (fun x hx => ?_) hb
    split at hx
    · rcases List.mem_append.mp hx with hx | hx
      · exact h x hx
      · rw [List.mem_singleton.mp hx]; exact Nat.le_trans some_len hb
    · exact h x hx
theorem lwStep_len {bds : List Bd} {level : List (List Bd)} {N : Nat} : ∀ (plans : List (List Int × List Int)) (acc : List (List Bd)), (∀ p ∈ plans, level.length ^ p.1.length ≤ N) → (plans.foldl (lwStep bds level) acc).length ≤ acc.length + plans.length * N
  | [], acc, _ => by simp
  | p :: plans, acc, h => by
    have h1 := lwStep_len (bds := bds) (level := level) (N := N) plans (lwStep bds level acc p) fun q hq => h q (List.mem_cons_of_mem _ hq)
    have h2 := lw_len (bds := bds) (rooms := roomsB p bds) (ws := p.1) (seats level p.1.length) acc
    rw [seats_len] at h2
    have h3 := h p List.mem_cons_self
    rw [List.foldl_cons, List.length_cons, Nat.succ_mul]
    have e : (lwStep bds level acc p).length ≤ acc.length + level.length ^ p.1.length := h2
    omega
theorem lwStep_each {bds : List Bd} {level : List (List Bd)} : ∀ (plans : List (List Int × List Int)) (acc : List (List Bd)), (∀ s ∈ acc, s.length ≤ 1000) → bds.length ≤ 1000 → ∀ s ∈ plans.foldl (lwStep bds level) acc, s.length ≤ 1000
  | [], acc, h, _ => h
  | p :: plans, acc, h, hb => by
    rw [List.foldl_cons]
    exact lwStep_each (bds := bds) (level := level) plans _ (lw_each _ _ h hb) hb
theorem pure__law_next_sets (c : Kn0 K) : ∀ vs H Q E, sp__law_next_sets K vs H Q E → t__law_next_sets K { nx := fun _ H' => Q .non H', rt := Q } (start ["plans", "wish", "level", "bounds", "found", "parts", "rooms", "seats", "some", "bound", "room", "k"] vs) H := by
  rintro vs H Q E ⟨C, B, z, k, _, a, ok, q⟩
  obtain ⟨plans, wish, level, N⟩ := z
  obtain ⟨hv, hn, hN, hs, hl⟩ := ok
  have hn : wish.length ≤ 1000 := hn
  have hs : level.length + plans.length * N ≤ 15000000 := hs
  obtain _ | @⟨_, v0, _, _, r0, _ | @⟨_, v1, _, _, r1, _ | @⟨_, v2, _, _, r2, _ | _⟩⟩⟩ := a
  let bds := srt Bd false wish
  have hbl : bds.length = wish.length := srt_len _
  -- bounds, found
  refine q_parR (fun v u H2 => ∃ B2 vs, Stp C B H B2 H2 ∧ (Is K bds).P v B2 ∧ Acc C H (Is K) (α := List Bd) vs level B2 H2 ∧ .ref vs = u) (fun Q' h => ?_) ?_
  · have es : Ev C (tCB (SrtIn K false) (tCons (tVar 1) tNil)) [some v0, some v1, some v2, none, none, none, none, none, none, none, none, none] B (Is K bds) := ev_sort (K := K) (xs := wish) (ev_var (i := 1) rfl r1) so_bd
    refine es B H (.refl _) k _ fun x B2 H2 s2 r3 => ?_
    obtain ⟨p, ys, e1, e2, e3⟩ := is_lst.mp (Rp.mono _ s2.bb r2)
    refine ⟨v2, rfl, p, ys, by rw [e1], .inl (rd_l (s2.ok.sub _ _ e2)), fun l hl2 => h _ _ _ ⟨B2, l, s2.loc (s2.new0 hl2) (s2.ok.sub.un hl2) (s2.ok.fresh hl2), r3, ⟨s2.new0 hl2, s2.ok.sub.un hl2, s2.ok.fresh hl2, ys, upd_same, e3⟩, rfl⟩⟩
  rintro v3 _ H2 ⟨B2, l, S2, r3, A2, rfl⟩
  refine q_forD (xs := plans) (Ri := Is K) (J := fun p => JN 5 (Is K p)) (ei_listD (ev_var rfl (Rp.mono _ S2.bb r0))) S2 (fun x => go_name)
    (fun pre σ1 B1 H1 => ∃ o5 o6 o7 o8 o9 o10, σ1 = [some v0, some v1, some v2, some v3, some (.ref l), o5, o6, o7, o8, o9, o10, none] ∧ Acc C H (Is K) l (pre.foldl (lwStep bds level) level) B1 H1)
    (fun B1 H1 S1 s1 => ⟨none, none, none, none, none, none, rfl, A2.step s1⟩) (fun pre p post σ1 B3 H3 B4 H4 hx S3 e3 ⟨o5, o6, o7, o8, o9, o10, hs', A3⟩ s4 σ2 j => ?_) (fun σ1 B3 H3 S3 e3 ⟨o5, o6, o7, o8, o9, o10, hs', A3⟩ => ?_)
  · subst hs'
    obtain ⟨v5, r5, rfl⟩ := j
    have hx : plans = pre ++ p :: post := hx
    have hp : p ∈ plans := by rw [hx]; simp
    have A4 := A3.step s4
    have S4 := S3.trans s4
    have e24 : Ex B2 B4 := e3.trans s4.bb
    have R3 : (Is K bds).P v3 B4 := Rp.mono _ e24 r3
    have hNp := hN p hp
    have hNp1 : ∀ m, m ≤ p.1.length → level.length ^ m ≤ N := hNp.1
    have hN15 : N ≤ 16000000 := by
      have h2 : N ≤ plans.length * N := Nat.le_mul_of_pos_left _ (List.length_pos_of_mem hp)
      omega
    refine q_asg (R := Is K (roomsB p bds)) (Ev.to (F := Is K) (ev_call (p := p__law_rooms K) (p, bds.map fun b => (b.c, b.w)) (ea_cons (ev_var rfl r5) (ea_cons (ev_lcMD (K := K) (xs := bds) (fun b => (b.c, b.w)) (ei_listD (ev_var rfl R3)) (by omega) (fun x => go_name) fun b σ2 B' hb eb j => ?_) ea_nil)) ?_) ?_) S4 fun v6 B5 H5 S5 s5 r6 => ?_
    · obtain ⟨v, hv', rfl⟩ := j
      exact ⟨rfl, ev_sl2 (ev_var rfl hv')⟩
    · refine ⟨fun s hs'' => ?_, by rw [List.length_map]; omega⟩
      obtain ⟨b, hb1, rfl⟩ := List.mem_map.mp hs''
      exact hv p hp b (srt_mem.mp hb1)
    · show List.map _ (List.map _ bds) = _
      rw [List.map_map]; rfl
    have A5 := A4.step s5
    have R5 : (Is K p).P v5 B5 := Rp.mono _ s5.bb r5
    have P5 := is_pair.mp R5
    have lenw : ∀ {σ : L2.St} {B'}, σ[5]? = some (some v5) → (Is K p).P v5 B' → Ev C (tOp (rIxT K) (tVar 5) (tC (.int 0))) σ B' (Is K p.1) := fun h r => ev_ixT (K := K) (Rs := [Is K p.1, Is K p.2]) (ev_var h (is_pair.mp r)) ev_int rfl
    refine s_forD (xs := seats level p.1.length) (Ri := Is K) (J := fun s => JN 7 (Is K s)) (ei_listD (ev_seatings (K := K) level p.1.length (ea_cons (ev_var rfl (Rp.mono _ (S2.bb.trans (e24.trans s5.bb)) r2)) (ea_cons (ev_lenD (K := K) (xs := p.1) (lenw rfl R5)) ea_nil)) ⟨fun m hm => Nat.le_trans (hNp1 m hm) hN15, hNp.2⟩)) S5 (fun x => go_name)
      (fun pre2 σ1 B1 H1 => ∃ o7 o8 o9 o10, σ1 = [some v0, some v1, some v2, some v3, some (.ref l), some v5, some v6, o7, o8, o9, o10, none] ∧ Ex B5 B1 ∧ Acc C H (Is K) l (pre2.foldl (fun acc s => if notIn (someOf bds (roomsB p bds) p.1 s) acc = true then acc ++ [someOf bds (roomsB p bds) p.1 s] else acc) (pre.foldl (lwStep bds level) level)) B1 H1)
      (fun B1 H1 S1 s1 => ⟨o7, o8, o9, o10, rfl, s1.bb, A5.step s1⟩) (fun pre2 s post2 σ1 B6 H6 B7 H7 hx2 S6 e6 ⟨o7, o8, o9, o10, hs', e56, A6⟩ s7 σ2 j => ?_) (fun σ1 B6 H6 S6 e6 ⟨o7, o8, o9, o10, hs', e56, A6⟩ => ?_)
    · subst hs'
      obtain ⟨v7, r7, rfl⟩ := j
      have hsm : s ∈ seats level p.1.length := by rw [hx2]; simp
      have hse := seats_each level _ s hsm
      have A7 := A6.step s7
      have e57 : Ex B5 B7 := e56.trans s7.bb
      refine q_new (Ra := Is K) (α := Bd) (S6.trans s7) fun l2 hl2 S8 A8 => ?_
      have nll : l ≠ l2 := by
        intro z; subst z
        obtain ⟨vs, g, _⟩ := A7.is
        rw [hl2] at g; cases g
      have A7' := A7.far (o := .lst []) nll
      have R37 : (Is K bds).P v3 B7 := Rp.mono _ (e24.trans (s5.bb.trans e57)) r3
      have R67 : (Is K (roomsB p bds)).P v6 B7 := Rp.mono _ e57 r6
      refine q_forD (xs := bds.zip (roomsB p bds)) (Ri := fun q => TupR [Is K q.1, Is K q.2]) (J := fun q => JP 9 10 (Is K q.1) (Is K q.2)) (ei_zipMD (K := K) (ea_cons ((ev_var rfl R37).le (sq_l (K := K) (xs := bds))) (ea_cons ((ev_var rfl R67).le (sq_l (K := K) (xs := roomsB p bds))) ea_nil))) S8 (fun x => go_pair)
        (fun pre3 σ1 B1 H1 => ∃ o9 o10, σ1 = [some v0, some v1, some v2, some v3, some (.ref l), some v5, some v6, some v7, some (.ref l2), o9, o10, none] ∧ Ex B7 B1 ∧ Acc C H (Is K) l2 ((pre3.filter fun q => decide (missSum p.1 s q.1 ≤ q.2)).map Prod.fst) B1 H1 ∧
          Acc C H (Is K) l (pre2.foldl (fun acc s => if notIn (someOf bds (roomsB p bds) p.1 s) acc = true then acc ++ [someOf bds (roomsB p bds) p.1 s] else acc) (pre.foldl (lwStep bds level) level)) B1 H1)
        (fun B1 H1 S1 s1 => ⟨o9, o10, rfl, s1.bb, A8.step s1, A7'.step s1⟩) (fun pre3 br post3 σ1 B9 H9 B10 H10 hx3 S9 e9 ⟨o9, o10, hs', e79, A9, A9'⟩ s10 σ2 j => ?_) (fun σ1 B9 H9 S9 e9 ⟨o9, o10, hs', e79, A9, A9'⟩ => ?_)
      · subst hs'
        obtain ⟨v9, v10, r9, r10, rfl⟩ := j
        have e710 := e79.trans s10.bb
        have A10 := A9.step s10
        have A10' := A9'.step s10
        have R7 : (Is K s).P v7 B10 := Rp.mono _ e710 r7
        have R510 : (Is K p).P v5 B10 := Rp.mono _ (e57.trans e710) R5
        have hw2 : (rng 0 ((s.l.length : Int)).toNat) = rng 0 s.l.length := by rw [Int.toNat_natCast]
        refine s_if (b := decide (missSum p.1 s br.1 ≤ br.2)) (et_test (ev_ib (K := K) (g := fun i j => decide (i ≤ j)) (i := missSum p.1 s br.1) (Ev.to (F := Is K) (ev_sum (K := K) (ev_lcFD (K := K) (Ri := Is K) (xs := rng 0 ((s.l.length : Int)).toNat) (fun k => decide (br.1 ∉ s.l.getD k.toNat [])) (fun k => p.1.getD k.toNat 0) (ei_range1 (K := K) (ea_cons (ev_lenTD (K := K) (xs := s) (ev_var rfl R7)) ea_nil) (by omega)) (by rw [rng_len]; omega) (fun x => go_name) fun kk σ2 B' hb eb j => ?_)) (by rw [hw2]; rfl)) (ev_var rfl r10))) (S9.trans s10) (fun e H11 S11 s11 => ?_) (fun e H11 S11 s11 => ?_)
        · obtain ⟨v, hv', rfl⟩ := j
          rw [hw2] at hb
          obtain ⟨n, hn1, rfl⟩ := List.mem_map.mp hb
          rw [List.mem_range] at hn1
          have i1 : atI s.l ((0 : Int) + (n : Int)) = some (s.l.getD ((0 : Int) + (n : Int)).toNat []) := by
            rw [atI_nn (by omega) (by omega), List.getD_eq_getElem?_getD, List.getElem?_eq_getElem (by omega)]; rfl
          refine ⟨rfl, et_test (ev_nin (K := K) (ev_var rfl (Rp.mono _ eb r9)) (ev_ixTd (K := K) (xs := s) (ev_var rfl (Rp.mono _ eb R7)) (ev_var rfl hv') i1)), fun _ => ?_⟩
          exact ev_ixLd (K := K) (xs := p.1) (lenw rfl (Rp.mono _ eb R510)) (ev_var rfl hv') (atI_some (by omega) (by rw [← hse.1]; omega))
        · refine s_app (K := K) (x := br.1) (A10.step s11) (ev_var rfl rfl) (ev_var rfl r9) S11 ?_ fun B12 H12 H13 S13 s12 hk A13 => ⟨B12, S13, s10.bb.trans s12.bb, some v9, some v10, rfl, e710.trans s12.bb, by rw [filter_snoc, if_pos e, List.map_append]; exact A13, ?_⟩
          · rw [List.length_map]
            have h1 := pre_len hx3
            rw [List.length_zip] at h1
            have := List.length_filter_le (fun q : Bd × Int => decide (missSum p.1 s q.1 ≤ q.2)) pre3
            omega
          · have A12 := (A10'.step s11).step s12
            obtain ⟨vs, g1, g2⟩ := A12.is
            exact ⟨A12.new, A12.off, A12.nm, vs, hk l _ nll g1, g2⟩
        · exact ⟨B10, S11, s10.bb, some v9, some v10, rfl, e710, by rw [filter_snoc, if_neg (by rw [e]; exact Bool.false_ne_true)]; exact A10.step s11, A10'.step s11⟩
      · subst hs'
        obtain ⟨B10, S10, e10, rl2, hk2⟩ := A9.frz S9
        have A10' := A9'.keep (hk2 l nll A9'.off) e10
        have R8 : (Is K (someOf bds (roomsB p bds) p.1 s)).P (.ref l2) B10 := is_lst.mpr rl2
        have h1 := pre_len hx2
        rw [seats_len] at h1
        have hNp2 := hNp1 _ (Nat.le_refl _)
        have h2 := lw_len (bds := bds) (rooms := roomsB p bds) (ws := p.1) pre2 (pre.foldl (lwStep bds level) level)
        have h3 := lwStep_len (bds := bds) (level := level) (N := N) pre level fun q hq => (hN q (by show q ∈ plans; rw [hx]; exact List.mem_append_left _ hq)).1 _ (Nat.le_refl _)
        have h4 : (pre.length + 1) * N ≤ plans.length * N := Nat.mul_le_mul_right _ (pre_len hx)
        rw [Nat.succ_mul] at h4
        refine s_ifA A10' S10 (b := notIn (someOf bds (roomsB p bds) p.1 s) _) (fun T eT rT => et_test (ev_nin (K := K) (ev_var rfl (Rp.mono _ eT R8)) (ev_var rfl (is_lst.mpr rT)))) (fun e H11 S11 s11 => ?_) (fun e H11 S11 s11 => ?_)
        · refine s_app (K := K) (x := someOf bds (roomsB p bds) p.1 s) (A10'.step s11) (ev_var rfl rfl) (ev_var rfl R8) S11 (by omega) fun B12 H12 H13 S13 s12 hk A13 => ⟨B12, S13, s7.bb.trans (e79.trans (e10.trans s12.bb)), some v7, some (.ref l2), o9, o10, rfl, e57.trans (e79.trans (e10.trans s12.bb)), ?_⟩
          rw [List.foldl_append]
          show Acc C H (Is K (α := List Bd)) l (if _ then _ else _) _ _
          rw [if_pos e]; exact A13
        · refine ⟨B10, S11, s7.bb.trans (e79.trans e10), some v7, some (.ref l2), o9, o10, rfl, e57.trans (e79.trans e10), ?_⟩
          rw [List.foldl_append]
          show Acc C H (Is K (α := List Bd)) l (if _ then _ else _) _ _
          rw [if_neg (by rw [e]; exact Bool.false_ne_true)]; exact A10'.step s11
    · subst hs'
      refine ⟨B6, S6, s4.bb.trans (s5.bb.trans e56), some v5, some v6, o7, o8, o9, o10, rfl, ?_⟩
      rw [List.foldl_append]
      exact A6
  · subst hs'
    have h3 := lwStep_len (bds := bds) (level := level) (N := N) plans level fun q hq => (hN q hq).1 _ (Nat.le_refl _)
    obtain ⟨B4, S4, e4, rl, _⟩ := A3.frz S3
    refine s_ret (ev_call (p := p__law_greatest K) (plans.foldl (lwStep bds level) level) (ea_cons (ev_var rfl (is_lst.mpr rl)) ea_nil) ⟨by omega, lwStep_each plans level hl (by omega)⟩) S4 fun v B5 H5 S5 r5 => q v B5 H5 S5 r5
end
end Pk

/-! The law's levels in turn; what it draws. -/
namespace Pk
open PySem L2
open Enc (enc dep)
structure LvIn where
  plans : List (List Int × List Int)
  rows : List (Tu Int)
  wish : List Bd
  N : Nat
  G : List (List Bd) → Prop
def LvIn.bds (x : LvIn) : List Bd := srt Bd false x.wish
structure LvOk (x : LvIn) : Prop where
  hv : ∀ r ∈ x.rows, ∀ b ∈ x.wish, 0 ≤ b.c ∧ b.c < r.l.length
  hn : x.wish.length ≤ 1000
  hr : x.rows.length ≤ 1000000
  g0 : x.G (lgr (lawMet x.rows x.bds))
  gn : ∀ l, x.G l → NextOk ⟨x.plans, x.wish, l, x.N⟩
  gs : ∀ l, x.G l → x.G (lawNext x.plans x.bds l)
section
variable {K : PySem.W.Frag}
def p__law_set_levels (K : PySem.W.Frag) : Pm LvIn where
  n := 3
  args x := [Is K x.plans, Is K x.rows, Is K x.wish]
  pre x := LvOk x
  res x := Is K (lvF (lawNext x.plans x.bds) 30 (lgr (lawMet x.rows x.bds)))
abbrev sp__law_set_levels (K : PySem.W.Frag) : Sp := (p__law_set_levels K).sp
def t__law_set_levels (K : PySem.W.Frag) : TS := (tSeq (tAsg (tLst (tCons (tCall (sp__law_greatest K) [] E0 (tCons (tCall (sp__law_met K) [] E0 (tCons (tVar 1) (tCons (tVar 2) tNil))) tNil)) tNil)) (gName 3))
  (tSeq (tFor (iRng1 (tCons (tC (.int 30)) tNil)) (gName 4) (tSeq (tAsg (tCall (sp__law_next_sets K) [] E0 (tCons (tVar 0) (tCons (tVar 2) (tCons (tOp (rIxL K) (tVar 3) (tUn rNeg (tC (.int 1)))) tNil)))) (gName 5))
  (tSeq (tIfS (tTest (tOp (rEqD K) (tVar 5) (tOp (rIxL K) (tVar 3) (tUn rNeg (tC (.int 1)))))) (tRet (tVar 3)) tNext)
  (tDrop (tBM K "list" rAppend (tVar 3) (tCons (tVar 5) tNil))))))
  (tRet (tVar 3))))
theorem len__law_set_levels (K : PySem.W.Frag) : ∀ vs H Q E, sp__law_set_levels K vs H Q E → vs.length = 3 := Pm.len _ rfl
theorem lvF_len (nx : List (List Bd) → List (List Bd)) : ∀ (f : Nat) (last : List (List Bd)), (lvF nx f last).length ≤ f + 1
  | 0, last => Nat.le_refl _
  | f + 1, last => by
    unfold lvF
    split
    · simp
    · have := lvF_len nx f (nx last); simp; omega
theorem pure__law_set_levels (c : Kn0 K) : ∀ vs H Q E, sp__law_set_levels K vs H Q E → t__law_set_levels K { nx := fun _ H' => Q .non H', rt := Q } (start ["plans", "rows", "wish", "levels", "turn", "later"] vs) H := by
  rintro vs H Q E ⟨C, B, z, k, _, a, ok, q⟩
  obtain ⟨plans, rows, wish, N, G⟩ := z
  obtain ⟨hv, hn, hr, g0, gn, gs⟩ := ok
  have hn : wish.length ≤ 1000 := hn
  have hr : rows.length ≤ 1000000 := hr
  let bds := srt Bd false wish
  have hbl : bds.length = wish.length := srt_len _
  let nx := lawNext plans bds
  let l0 := lgr (lawMet rows bds)
  obtain _ | @⟨_, v0, _, _, r0, _ | @⟨_, v1, _, _, r1, _ | @⟨_, v2, _, _, r2, _ | _⟩⟩⟩ := a
  refine q_lstO (Ra := Is K) (xs := [l0]) (ea_cons (ev_call (p := p__law_greatest K) (lawMet rows bds) (ea_cons (ev_call (p := p__law_met K) (rows, wish) (ea_cons (ev_var rfl r1) (ea_cons (ev_var rfl r2) ea_nil)) ⟨hv, hn, hr⟩) ea_nil) ⟨?_, ?_⟩) ea_nil B H (.refl _) k) k.refl (by simp) fun l B2 H2 S2 e2 A2 => ?_
  · show (List.map _ rows).length ≤ _
    rw [List.length_map]; omega
  · intro s hs
    obtain ⟨r, _, rfl⟩ := List.mem_map.mp hs
    rw [List.map_id]
    exact Nat.le_trans (List.length_filter_le _ _) (by omega)
  have hw : rng 0 ((30 : Int)).toNat = rng 0 30 := rfl
  refine q_forD (xs := rng 0 ((30 : Int)).toNat) (Ri := Is K) (J := fun i => JN 4 (Is K i)) (ei_range1 (K := K) (ea_cons ev_int ea_nil) (by decide)) S2 (fun x => go_name)
    (fun pre σ1 B1 H1 => ∃ o4 o5 done last, σ1 = [some v0, some v1, some v2, some (.ref l), o4, o5] ∧ Acc C H (Is K) l (done ++ [last]) B1 H1 ∧ G last ∧ done.length = pre.length ∧ lvF nx 30 l0 = done ++ lvF nx (30 - pre.length) last)
    (fun B1 H1 S1 s1 => ⟨none, none, [], l0, rfl, A2.step s1, g0, rfl, rfl⟩) (fun pre x post σ1 B3 H3 B4 H4 hx S3 e3 ⟨o4, o5, done, last, hs, A3, hG, hdl, hlv⟩ s4 σ2 j => ?_) (fun σ1 B3 H3 S3 e3 ⟨o4, o5, done, last, hs, A3, hG, hdl, hlv⟩ => ?_)
  · subst hs
    obtain ⟨v4, r4, rfl⟩ := j
    have A4 := A3.step s4
    have S4 := S3.trans s4
    have e4 : Ex B B4 := e2.trans (e3.trans s4.bb)
    have hpl := pre_len hx
    rw [rng_len] at hpl
    have hpl : pre.length < 30 := hpl
    have callA : EvAt C (tCall (sp__law_next_sets K) [] E0 (tCons (tVar 0) (tCons (tVar 2) (tCons (tOp (rIxL K) (tVar 3) (tUn rNeg (tC (.int 1)))) tNil)))) [some v0, some v1, some v2, some (.ref l), some v4, o5] B4 H4 (Is K (nx last)) := fun Q' q' =>
      ⟨v0, rfl, v2, rfl, acc_last (K := K) A4 S4.ok rfl _ fun w B5 H5 s5 r5 => by
        show (p__law_next_sets K).sp ([v0, v2, w] ++ []) H5 Q' E0
        exact ⟨C, B5, ⟨plans, wish, last, N⟩, s5.ok, trivial, .cons (Rp.mono _ (e4.trans s5.bb) r0) (.cons (Rp.mono _ (e4.trans s5.bb) r2) (.cons r5 .nil)), gn last hG, fun v B6 H6 s6 r6 => q' v B6 H6 (s5.trans s6) r6⟩⟩
    refine q_asgA callA S4 fun v5 B5 H5 S5 s5 r5 => ?_
    have A5 := A4.step s5
    have h30 : 30 - pre.length = (30 - (pre.length + 1)) + 1 := by omega
    refine q_ifA A5 S5 (b := decide (nx last = last)) (fun T eT rT => et_test (ev_eq (K := K) (ev_var rfl (Rp.mono _ eT r5)) (ev_ixLd (K := K) (xs := done ++ [last]) (ev_var rfl (is_lst.mpr rT)) (ev_un (K := K) (f := fun i => -i) ev_int) atI_last))) (fun e H6 S6 s6 => ?_) (fun e H6 S6 s6 => ?_)
    · refine s_retAcc (A5.step s6) rfl S6 fun B7 S7 r7 => q _ B7 H6 S7 ?_
      have e' : nx last = last := of_decide_eq_true e
      show (Is K (lvF nx 30 l0)).P _ _
      rw [hlv, h30]
      unfold lvF
      rw [if_pos e']
      exact is_lst.mpr r7
    · have e' : ¬ nx last = last := of_decide_eq_false e
      unfold tNext
      dsimp only
      refine s_app (K := K) (x := nx last) (A5.step s6) (ev_var rfl rfl) (ev_var rfl r5) S6 ?_ fun B7 H7 H8 S8 s7 _ A8 => ⟨B7, S8, s4.bb.trans (s5.bb.trans s7.bb), some v4, some v5, done ++ [last], nx last, rfl, A8, gs last hG, by simp [hdl], ?_⟩
      · rw [List.length_append, List.length_singleton, hdl]; omega
      · rw [hlv, h30, List.length_append, List.length_singleton]
        conv => lhs; unfold lvF
        rw [if_neg e', List.append_assoc]; rfl
  · subst hs
    refine s_retAcc A3 rfl S3 fun B7 S7 r7 => q _ B7 H3 S7 ?_
    show (Is K (lvF nx 30 l0)).P _ _
    have : (rng 0 ((30 : Int)).toNat).length = 30 := rng_len
    rw [hlv, this]
    exact is_lst.mpr r7
/-! alike -/
def DatR (K : PySem.W.Frag) (d : PyData) : Rp := ⟨fun v B => Dq K B v d, fun e h => dq_mono e _ _ h⟩
structure ShowOk (d : PyData) : Prop where
  sh : d.showable = true
  nd : d.hasDict = false
  dp : d.depth ≤ 60
  sz : d.shown.length ≤ sizeLine
  eq : PyData.eqv d d = true
  sp : SeqAt.shaped d = true
  ls : (∃ xs, d = .list xs) ∨ (∃ xs, d = .tuple xs) ∨ d = .none
def p__law_alike (K : PySem.W.Frag) : Pm PyData where
  n := 2
  args d := [DatR K d, DatR K d]
  pre d := ShowOk d
  res _ := Is K true
abbrev sp__law_alike (K : PySem.W.Frag) : Sp := (p__law_alike K).sp
def t__law_alike (K : PySem.W.Frag) : TS := (tRet (tAndV (tOp (rEqD K) (tVar 0) (tVar 1)) (tOp rEq (tCB (rRepr K) (tCons (tVar 0) tNil)) (tCB (rRepr K) (tCons (tVar 1) tNil)))))
theorem len__law_alike (K : PySem.W.Frag) : ∀ vs H Q E, sp__law_alike K vs H Q E → vs.length = 2 := Pm.len _ rfl
theorem pure__law_alike (c : Kn0 K) : ∀ vs H Q E, sp__law_alike K vs H Q E → t__law_alike K { nx := fun _ H' => Q .non H', rt := Q } (start ["found", "due"] vs) H := by
  rintro vs H Q E ⟨C, B, d, k, _, a, ok, q⟩
  obtain _ | @⟨_, v0, _, _, r0, _ | @⟨_, v1, _, _, r1, _ | _⟩⟩ := a
  have rp : ∀ {i : Nat} {v : V} {σ : L2.St}, σ[i]? = some (some v) → Dq K B v d → Ev C (tCB (rRepr K) (tCons (tVar i) tNil)) σ B (ValR (.str d.shown)) := fun h hv => ev_cb (ea_cons (ev_var (R := DatR K d) h hv) ea_nil) fun vs B1 H1 e k a Q q => by
    cases a with
    | @cons _ x _ _ r t =>
      cases t
      have hx : x = .non ∨ ∃ a, x = .ref a := by
        rcases ok.ls with ⟨xs, e1⟩ | ⟨xs, e1⟩ | e1
        · rw [e1] at r; cases r; exact .inr ⟨_, rfl⟩
        · rw [e1] at r; cases r; exact .inr ⟨_, rfl⟩
        · rw [e1] at r; cases r; exact .inl rfl
      exact ⟨x, d, rfl, hx, dq_dp k.sub _ _ r, ok.sh, ok.nd, ok.dp, ok.sz, q _ B1 H1 k.refl rfl⟩
  refine s_ret (R := Is K true) (ev_and (K := K) (b := true) (c := true) (ev_op (R := DatR K d) (R' := DatR K d) (ev_var rfl r0) (ev_var rfl r1) fun u w B1 H1 _ k hx hy Q q => ⟨d, d, dq_dp k.sub _ _ hx, dq_dp k.sub _ _ hy, ok.sp, ok.sp, q _ B1 H1 k.refl (by rw [ok.eq]; exact .bl _)⟩) fun _ => ?_) k.refl fun v B4 H4 S4 r4 => q v B4 H4 S4 r4
  refine ev_op (rp rfl r0) (rp rfl r1) fun u w B1 H1 _ k hx hy Q q => ?_
  have hx : u = .str d.shown := hx
  have hy : w = .str d.shown := hy
  subst hx hy
  have e : decide (V.str d.shown = V.str d.shown) = true := decide_eq_true rfl
  exact ⟨rfl, q _ B1 H1 k.refl (by rw [e]; exact .bl true)⟩
end
end Pk

/-! What the law draws. -/
namespace Pk
open PySem L2
open Enc (enc dep)
section
variable {K : PySem.W.Frag} {C : MI} {σ : L2.St} {B H : Hp} {ta : TE} {b : Addr} {n : Int} {i : Nat}
/-- a number is drawn -/
theorem ev_take (hB : HasBag b C) (hb : σ[i]? = some (some (.ref b))) (h : Ev C ta σ B (Is K n)) (h0 : 0 < n ∧ n ≤ 10000000000000000000) : Ev C (tCall (sp__law_take K) [] E0 (tCons (tVar i) (tCons ta tNil))) σ B (SomeR (fun r : Int => 0 ≤ r ∧ r < n) (Is K)) :=
  ev_call (p := p__law_take K) (b, n) (ea_cons (ev_var hb rfl) (ea_cons h ea_nil)) h0 hB
theorem some_range {lo hi : Int} (n : Int) : Ev C ta σ B (SomeR (fun r : Int => 0 ≤ r ∧ r < n) (Is K)) → (∀ r, 0 ≤ r → r < n → lo ≤ r ∧ r ≤ hi) → Ev C ta σ B (SomeR (fun r : Int => lo ≤ r ∧ r ≤ hi) (Is K)) := fun h g => h.le (some_le fun x hx => g x hx.1 hx.2)
theorem ev_callS {ι : Type} {p : Pm ι} {E' : XK} {t : TA} {Rs : List Rp} {R : Rp} (h : EvA C t σ B Rs) (g : ∀ vs B1, Args Rs vs B1 → ∃ x, Args (p.args x) vs B1 ∧ p.pre x ∧ p.need x C ∧ (p.res x).le R) : Ev C (tCall p.sp [] E' t) σ B R := fun B1 H1 e k Q q =>
  h B1 H1 e k _ fun vs B2 H2 s r => by
    rw [List.append_nil]
    obtain ⟨x, h1, h2, h3, h4⟩ := g vs B2 r
    exact ⟨C, B2, x, s.ok, h3, h1, h2, fun v B3 H3 s3 r3 => q v B3 H3 (s.trans s3) (h4 _ _ r3)⟩
def CouOk (w : Int) (p : List Int × List Int) : Prop := WsOk p.1 ∧ QsOk p.2 p.1.sum ∧ (p.2.length : Int) = w ∧ p.1.length ≤ 5
def p__law_council (K : PySem.W.Frag) : Pm (Addr × Int × Int) where
  n := 3
  need x C := HasBag x.1 C
  args x := [RefR x.1, Is K x.2.1, Is K x.2.2]
  pre x := 1 ≤ x.2.1 ∧ x.2.1 ≤ 6 ∧ 2 ≤ x.2.2 ∧ x.2.2 ≤ 7
  res x := SomeR (fun p : List Int × List Int => WsOk p.1 ∧ QsOk p.2 p.1.sum ∧ (p.2.length : Int) = x.2.1 ∧ (p.1.length : Int) ≤ x.2.2) (Is K)
abbrev sp__law_council (K : PySem.W.Frag) : Sp := (p__law_council K).sp
def t__law_council (K : PySem.W.Frag) : TS := (tSeq (tAsg (tTup (tCons (tOp rAddI (tC (.int 2)) (tCall (sp__law_take K) [] E0 (tCons (tVar 0) (tCons (tOp rSubI (tVar 2) (tC (.int 1))) tNil)))) (tCons (tCall (sp__law_take K) [] E0 (tCons (tVar 0) (tCons (tC (.int 5)) tNil))) tNil))) (gTup K 2 (gCons (gName 3) (gCons (gName 4) gNil))))
  (tSeq (tAsg (tLc (iRng1 (tCons (tVar 3) tNil)) (gName 10) tYes (tOp rAddI (tC (.int 1)) (tCall (sp__law_take K) [] E0 (tCons (tVar 0) (tCons (tOp (rIxL K) (tLst (tCons (tC (.int 1)) (tCons (tC (.int 1)) (tCons (tC (.int 2)) (tCons (tC (.int 5)) (tCons (tC (.int 1000000)) tNil)))))) (tVar 4)) tNil)))) [10]) (gName 5))
  (tSeq (tAsg (tCB (rSum K) (tCons (tVar 5) tNil)) (gName 6))
  (tSeq (tAsg (tLst tNil) (gName 7))
  (tSeq (tFor (iRng1 (tCons (tVar 1) tNil)) (gName 8) (tSeq (tAsg (tLst (tCons (tOp rAddI (tOp rDivI (tVar 6) (tC (.int 2))) (tC (.int 1))) (tCons (tOp rAddI (tC (.int 1)) (tCall (sp__law_take K) [] E0 (tCons (tVar 0) (tCons (tVar 6) tNil)))) (tCons (tC (.int 1)) (tCons (tVar 6) tNil))))) (gName 9))
  (tDrop (tBM K "list" rAppend (tVar 7) (tCons (tOp (rIxL K) (tVar 9) (tOp rMulI (tCB rMax2 (tCons (tC (.int 0)) (tCons (tOp rSubI (tCall (sp__law_take K) [] E0 (tCons (tVar 0) (tCons (tC (.int 6)) tNil))) (tC (.int 2))) tNil))) (tCB rInt (tCons (tOp rGtI (tVar 4) (tC (.int 0))) tNil)))) tNil)))))
  (tRet (tTup (tCons (tVar 5) (tCons (tVar 7) tNil)))))))))
theorem len__law_council (K : PySem.W.Frag) : ∀ vs H Q E, sp__law_council K vs H Q E → vs.length = 3 := Pm.len _ rfl
theorem sum_bounds : ∀ (ws : List Int), (∀ w ∈ ws, 1 ≤ w ∧ w ≤ 1000000) → (ws.length : Int) ≤ ws.sum ∧ ws.sum ≤ 1000000 * ws.length
  | [], _ => by simp
  | w :: ws, h => by
    have h1 := sum_bounds ws fun x hx => h x (List.mem_cons_of_mem _ hx)
    have h2 := h w List.mem_cons_self
    rw [List.sum_cons, List.length_cons]; omega
theorem pure__law_council (c : Kn0 K) : ∀ vs H Q E, sp__law_council K vs H Q E → t__law_council K { nx := fun _ H' => Q .non H', rt := Q } (start ["bag", "width", "most", "seats", "way", "weights", "total", "quotas", "column", "some", "k"] vs) H := by
  rintro vs H Q E ⟨C, B, ⟨b, width, most⟩, k, hB, a, ⟨hw1, hw6, hm2, hm7⟩, q⟩
  have hw1 : 1 ≤ width := hw1
  have hw6 : width ≤ 6 := hw6
  have hm2 : 2 ≤ most := hm2
  have hm7 : most ≤ 7 := hm7
  have hB : HasBag b C := hB
  obtain _ | @⟨_, v0, _, _, r0, _ | @⟨_, v1, _, _, r1, _ | @⟨_, v2, _, _, r2, _ | _⟩⟩⟩ := a
  have r0 : v0 = .ref b := r0
  subst r0
  have r1 : v1 = .int width := is_int.mp r1
  subst r1
  have r2 : v2 = .int most := is_int.mp r2
  subst r2
  refine q_asg2 (K := K) (R1 := SomeR (fun r : Int => 2 ≤ r ∧ r ≤ most) (Is K)) (R2 := SomeR (fun r : Int => 0 ≤ r ∧ r < 5) (Is K)) (ev_tup (ea_cons (ev_addS (K := K) ev_int (ev_take hB (i := 0) rfl (ev_i (K := K) (g := fun i j => i - j) (ev_var (i := 2) rfl (is_int.mpr rfl)) ev_int) (by omega)) fun x hx => by omega) (ea_cons (ev_take hB (i := 0) rfl ev_int (by decide)) ea_nil)) (by simp)) k.refl fun v3 v4 B2 H2 S2 s2 ⟨seats, hse, r3⟩ ⟨way, hwa, r4⟩ => ?_
  have r3 := is_int.mp r3
  subst r3
  have r4 := is_int.mp r4
  subst r4
  have hw : (rng 0 seats.toNat).length = seats.toNat := rng_len
  refine q_asg (ev_lcSD (K := K) (α := Int) (p := fun w => 1 ≤ w ∧ w ≤ 1000000) (ys := rng 0 seats.toNat) (Ri := Is K) (J := fun x => JN 10 (Is K x)) (ei_range1 (K := K) (ea_cons (ev_var (i := 3) rfl (is_int.mpr rfl)) ea_nil) (by omega)) (by rw [hw]; omega) (fun x => go_name) fun x σ2 B' hb eb j => ?_) S2 fun v5 B3 H3 S3 s3 ⟨ws, ⟨hwl, hws⟩, r5⟩ => ?_
  · obtain ⟨v, hv, rfl⟩ := j
    refine ⟨rfl, ev_addS (K := K) (p := fun r => 0 ≤ r ∧ r < 1000000) ev_int (ev_callS (p := p__law_take K) (Rs := [RefR b, SomeR (fun r : Int => 1 ≤ r ∧ r ≤ 1000000) (Is K)]) (ea_cons (ev_var rfl rfl) (ea_cons (ev_ixL (K := K) (Rs := [SomeR (fun r : Int => 1 ≤ r ∧ r ≤ 1000000) (Is K), SomeR (fun r : Int => 1 ≤ r ∧ r ≤ 1000000) (Is K), SomeR (fun r : Int => 1 ≤ r ∧ r ≤ 1000000) (Is K), SomeR (fun r : Int => 1 ≤ r ∧ r ≤ 1000000) (Is K), SomeR (fun r : Int => 1 ≤ r ∧ r ≤ 1000000) (Is K)]) (i := way)
      (ev_lst (ea_cons (ev_int.le (some_in (F := Is K) (by decide))) (ea_cons (ev_int.le (some_in (F := Is K) (by decide))) (ea_cons (ev_int.le (some_in (F := Is K) (by decide))) (ea_cons (ev_int.le (some_in (F := Is K) (by decide))) (ea_cons (ev_int.le (some_in (F := Is K) (by decide))) ea_nil))))) (by simp)) (ev_var (i := 4) rfl (is_int.mpr rfl)) ?_) ea_nil)) fun vs B1 a => ?_) fun x hx => by omega⟩
    · have h5 : way = 0 ∨ way = 1 ∨ way = 2 ∨ way = 3 ∨ way = 4 := by omega
      rcases h5 with rfl | rfl | rfl | rfl | rfl <;> rfl
    · obtain _ | @⟨_, u0, _, _, z0, _ | @⟨_, u1, _, _, ⟨m, hm, z1⟩, _ | _⟩⟩ := a
      exact ⟨(b, m), .cons z0 (.cons z1 .nil), ⟨by show 0 < m; omega, by show m ≤ _; omega⟩, hB, some_le fun x hx => ⟨hx.1, by have : x < m := hx.2; omega⟩⟩
  rw [hw] at hwl
  have hsb := sum_bounds ws hws
  have hWs : WsOk ws := ⟨by omega, by omega, hws⟩
  refine q_asg (ev_sum (K := K) (ns := ws) (ev_var rfl r5)) S3 fun v6 B4 H4 S4 s4 r6 => ?_
  have r6 := is_int.mp r6
  subst r6
  refine q_new (Ra := Is K) (α := Int) S4 fun l hl S5 A5 => ?_
  have hwd : (rng 0 width.toNat).length = width.toNat := rng_len
  refine q_forD (xs := rng 0 width.toNat) (Ri := Is K) (J := fun x => JN 8 (Is K x)) (ei_range1 (K := K) (ea_cons (ev_var (i := 1) rfl (is_int.mpr rfl)) ea_nil) (by omega)) S5 (fun x => go_name)
    (fun pre σ1 B1 H1 => ∃ (o8 o9 : Option V) (qs : List Int), σ1 = [some (.ref b), some (.int width), some (.int most), some (.int seats), some (.int way), some v5, some (.int ws.sum), some (.ref l), o8, o9, none] ∧ Acc C H (Is K) l qs B1 H1 ∧ qs.length = pre.length ∧ ∀ x ∈ qs, 1 ≤ x ∧ x ≤ ws.sum)
    (fun B1 H1 S1 s1 => ⟨none, none, [], rfl, A5.step s1, rfl, by simp⟩) (fun pre x post σ1 B6 H6 B7 H7 hx S6 e6 ⟨o8, o9, qs, hs, A6, hql, hqs⟩ s7 σ2 j => ?_) (fun σ1 B6 H6 S6 e6 ⟨o8, o9, qs, hs, A6, hql, hqs⟩ => ?_)
  · subst hs
    obtain ⟨v8, r8, rfl⟩ := j
    have hpl := pre_len hx
    rw [hwd] at hpl
    have A7 := A6.step s7
    let P := SomeR (fun r : Int => 1 ≤ r ∧ r ≤ ws.sum) (Is K)
    refine q_asg (R := LstR [P, P, P, P]) (ev_lst (ea_cons ((ev_i (K := K) (g := fun i j => i + j) (ev_ic (K := K) (c := CDivW) (g := fun i j => i / j) (ev_var (i := 6) rfl (is_int.mpr rfl)) ev_int (cdivW (by decide) (by decide))) ev_int).le (some_in (F := Is K) (by omega)))
      (ea_cons (ev_addS (K := K) (q := fun r => 1 ≤ r ∧ r ≤ ws.sum) ev_int (ev_take hB (i := 0) rfl (ev_var (i := 6) rfl (is_int.mpr rfl)) (by omega)) fun x hx => by omega) (ea_cons (ev_int.le (some_in (F := Is K) (by omega))) (ea_cons ((ev_var (i := 6) rfl (is_int.mpr rfl)).le (some_in (F := Is K) (by omega))) ea_nil)))) (by simp)) (S6.trans s7) fun v9 B8 H8 S8 s8 r9 => ?_
    have A8 := A7.step s8
    have ix : Ev C (tOp (rIxL K) (tVar 9) (tOp rMulI (tCB rMax2 (tCons (tC (.int 0)) (tCons (tOp rSubI (tCall (sp__law_take K) [] E0 (tCons (tVar 0) (tCons (tC (.int 6)) tNil))) (tC (.int 2))) tNil))) (tCB rInt (tCons (tOp rGtI (tVar 4) (tC (.int 0))) tNil))))
        [some (.ref b), some (.int width), some (.int most), some (.int seats), some (.int way), some v5, some (.int ws.sum), some (.ref l), some v8, some v9, none] B8 P := by
      refine ev_op (R := LstR [P, P, P, P]) (R' := SomeR (fun r : Int => 0 ≤ r ∧ r ≤ 3) (Is K)) (ev_var (i := 9) rfl r9) ?_ (rv_some fun i hi => rv_ixL ?_)
      · refine ev_op (R := SomeR (fun r : Int => 0 ≤ r ∧ r ≤ 3) (Is K)) (R' := Is K (if decide ((0 : Int) < way) = true then (1 : Int) else 0)) ?_ (ev_intB (K := K) (ev_ib (K := K) (g := fun i j => decide (j < i)) (ev_var (i := 4) rfl (is_int.mpr rfl)) ev_int)) (rv_someL fun i hi => (rv_I (K := K) (g := fun i j => .int (i * j)) (S := Is K (i * if decide ((0 : Int) < way) = true then (1 : Int) else 0)) (cmul01 _ _) fun _ => .int _).le (some_in (F := Is K) ?_))
        · refine ev_cb (Rs := [Is K 0, SomeR (fun r : Int => -2 ≤ r ∧ r ≤ 3) (Is K)]) (ea_cons ev_int (ea_cons ?_ ea_nil)) fun vs B1 H1 e k a Q q => ?_
          · exact ev_op (ev_take hB (i := 0) rfl ev_int (by decide)) ev_int (rv_someL fun x hx => (rv_I0 (K := K) (g := fun i j => .int (i - j)) (S := Is K (x - 2)) fun _ => .int _).le (some_in (F := Is K) (by omega)))
          · obtain _ | @⟨_, u0, _, _, z0, _ | @⟨_, u1, _, _, ⟨m, hm, z1⟩, _ | _⟩⟩ := a
            rw [is_int.mp z0, is_int.mp z1]
            refine ⟨0, m, rfl, q _ B1 H1 k.refl ⟨_, ?_, .int _⟩⟩
            split <;> omega
        · split <;> omega
      · have h4 : i = 0 ∨ i = 1 ∨ i = 2 ∨ i = 3 := by omega
        rcases h4 with rfl | rfl | rfl | rfl <;> rfl
    refine s_appS (K := K) A8 rfl (ix.here S8.ok) S8 (by omega) fun z B9 H9 H10 hz S10 s9 _ A10 => ⟨B9, S10, s7.bb.trans (s8.bb.trans s9.bb), some v8, some v9, qs ++ [z], rfl, A10, by simp [hql], fun y hy => ?_⟩
    rcases List.mem_append.mp hy with hy | hy
    · exact hqs y hy
    · rw [List.mem_singleton.mp hy]; exact hz
  · subst hs
    rw [hwd] at hql
    obtain ⟨B7, S7, e7, rl, _⟩ := A6.frz S6
    have R5 : (Is K ws).P v5 B7 := Rp.mono _ (s4.bb.trans (e6.trans e7)) r5
    refine s_ret (ev_pair (K := K) (x := ws) (y := qs) (ev_var rfl R5) (ev_var rfl (is_lst.mpr rl))) S7 fun v B8 H8 S8 r8 => q v B8 H8 S8 ⟨(ws, qs), ⟨hWs, ⟨by show 1 ≤ qs.length; omega, by show qs.length ≤ 6; omega, hqs⟩, by show (qs.length : Int) = width; omega, by show (ws.length : Int) ≤ most; omega⟩, r8⟩
end
end Pk

/-! What the law draws: rows, sides, wishes, plans. -/
namespace Pk
open PySem L2
open Enc (enc dep)
section
variable {K : PySem.W.Frag}
def RowOk (width : Int) (lo hi : Int) (r : Tu Int) : Prop := (r.l.length : Int) = width ∧ ∀ e ∈ r.l, lo ≤ e ∧ e ≤ hi
def p__law_row (K : PySem.W.Frag) : Pm (Addr × Int × Int) where
  n := 3
  need x C := HasBag x.1 C
  args x := [RefR x.1, Is K x.2.1, Is K x.2.2]
  pre x := 0 ≤ x.2.1 ∧ x.2.1 ≤ 6 ∧ 0 ≤ x.2.2 ∧ x.2.2 ≤ 1000000000000000000
  res x := SomeR (RowOk x.2.1 0 x.2.2) (Is K)
abbrev sp__law_row (K : PySem.W.Frag) : Sp := (p__law_row K).sp
def t__law_row (K : PySem.W.Frag) : TS := (tRet (tThen (tLc (iRng1 (tCons (tVar 1) tNil)) (gName 3) tYes (tCall (sp__law_take K) [] E0 (tCons (tVar 0) (tCons (tOp rAddI (tVar 2) (tC (.int 1))) tNil))) [3]) (kTup K)))
theorem len__law_row (K : PySem.W.Frag) : ∀ vs H Q E, sp__law_row K vs H Q E → vs.length = 3 := Pm.len _ rfl
theorem pure__law_row (c : Kn0 K) : ∀ vs H Q E, sp__law_row K vs H Q E → t__law_row K { nx := fun _ H' => Q .non H', rt := Q } (start ["bag", "width", "top", "column"] vs) H := by
  rintro vs H Q E ⟨C, B, ⟨b, width, top⟩, k, hB, a, ⟨h1, h2, h3, h4⟩, q⟩
  have h1 : 0 ≤ width := h1
  have h2 : width ≤ 6 := h2
  have h3 : 0 ≤ top := h3
  have h4 : top ≤ 1000000000000000000 := h4
  have hB : HasBag b C := hB
  obtain _ | @⟨_, v0, _, _, r0, _ | @⟨_, v1, _, _, r1, _ | @⟨_, v2, _, _, r2, _ | _⟩⟩⟩ := a
  have r0 : v0 = .ref b := r0
  subst r0
  have hw : (rng 0 width.toNat).length = width.toNat := rng_len
  have ev : Ev C (tThen (tLc (iRng1 (tCons (tVar 1) tNil)) (gName 3) tYes (tCall (sp__law_take K) [] E0 (tCons (tVar 0) (tCons (tOp rAddI (tVar 2) (tC (.int 1))) tNil))) [3]) (kTup K)) [some (.ref b), some v1, some v2, none] B (SomeR (RowOk width 0 top) (Is K)) := fun B1 H1 e k1 Q' q' => by
    refine ev_lcS (α := Int) (Ra := Is K) (p := fun w => 0 ≤ w ∧ w ≤ top) (ys := rng 0 width.toNat) (Ri := Is K) (J := fun x => JN 3 (Is K x)) (ei_range1 (K := K) (ea_cons (ev_var (i := 1) rfl r1) ea_nil) (by omega)) (by rw [hw]; omega) (fun x => go_name) (fun x σ2 B' hb eb j => ?_) B1 H1 e k1 _ fun v B2 H2 s2 ⟨ws, ⟨hwl, hws⟩, r⟩ => ?_
    · obtain ⟨v, hv, rfl⟩ := j
      exact ⟨rfl, (ev_take hB (i := 0) rfl (ev_i (K := K) (g := fun i j => i + j) (ev_var (i := 2) rfl (Rp.mono _ eb r2)) ev_int) (by omega)).le (some_le fun x hx => ⟨hx.1, by have h : x < top + 1 := hx.2; omega⟩)⟩
    · obtain ⟨p, ys, e1, e2, e3⟩ := r
      refine .inl ⟨p, ys, e1, rd_l (s2.ok.sub _ _ e2), fun l hl => q' _ _ _ (s2.trans (s2.ok.new hl)) ⟨⟨ws⟩, ⟨by show (ws.length : Int) = width; rw [hwl, hw]; omega, hws⟩, is_tup.mpr ⟨l, ys, rfl, upd_same, e3.mono (.new (s2.ok.sub.un hl))⟩⟩⟩
  exact s_ret ev k.refl fun v B4 H4 S4 r4 => q v B4 H4 S4 r4
def SdOk (width : Int) (s : Sd) : Prop := 0 ≤ s.1 ∧ s.1 < width
def p__law_sides (K : PySem.W.Frag) : Pm (Addr × Int × Int) where
  n := 3
  need x C := HasBag x.1 C
  args x := [RefR x.1, Is K x.2.1, Is K x.2.2]
  pre x := 1 ≤ x.2.1 ∧ x.2.1 ≤ 6 ∧ 0 ≤ x.2.2 ∧ x.2.2 ≤ 10
  res x := SomeR (fun ss : List Sd => ss.Nodup ∧ (ss.length : Int) ≤ x.2.2 ∧ ∀ s ∈ ss, SdOk x.2.1 s) (Is K)
abbrev sp__law_sides (K : PySem.W.Frag) : Sp := (p__law_sides K).sp
def t__law_sides (K : PySem.W.Frag) : TS := (tSeq (tAsg (tLst tNil) (gName 3))
  (tSeq (tFor (iRng1 (tCons (tCall (sp__law_take K) [] E0 (tCons (tVar 0) (tCons (tOp rAddI (tVar 2) (tC (.int 1))) tNil))) tNil)) (gName 4) (tSeq (tAsg (tTup (tCons (tCall (sp__law_take K) [] E0 (tCons (tVar 0) (tCons (tVar 1) tNil))) (tCons (tOp (rIxL K) (tLst (tCons (tC (.str "least")) (tCons (tC (.str "most")) tNil))) (tCall (sp__law_take K) [] E0 (tCons (tVar 0) (tCons (tC (.int 2)) tNil)))) tNil))) (gName 5))
  (tIfS (tTest (tOp (rNotInD K) (tVar 5) (tVar 3))) (tDrop (tBM K "list" rIns (tVar 3) (tCons (tCall (sp__law_take K) [] E0 (tCons (tVar 0) (tCons (tOp rAddI (tCB (rLenQ K) (tCons (tVar 3) tNil)) (tC (.int 1))) tNil))) (tCons (tVar 5) tNil)))) tNext)))
  (tRet (tVar 3))))
theorem len__law_sides (K : PySem.W.Frag) : ∀ vs H Q E, sp__law_sides K vs H Q E → vs.length = 3 := Pm.len _ rfl
theorem pure__law_sides (c : Kn0 K) : ∀ vs H Q E, sp__law_sides K vs H Q E → t__law_sides K { nx := fun _ H' => Q .non H', rt := Q } (start ["bag", "width", "most", "found", "k", "side"] vs) H := by
  rintro vs H Q E ⟨C, B, ⟨b, width, most⟩, k, hB, a, ⟨h1, h2, h3, h4⟩, q⟩
  have h1 : 1 ≤ width := h1
  have h2 : width ≤ 6 := h2
  have h3 : 0 ≤ most := h3
  have h4 : most ≤ 10 := h4
  have hB : HasBag b C := hB
  obtain _ | @⟨_, v0, _, _, r0, _ | @⟨_, v1, _, _, r1, _ | @⟨_, v2, _, _, r2, _ | _⟩⟩⟩ := a
  have r0 : v0 = .ref b := r0
  subst r0
  have r1 := is_int.mp r1
  subst r1
  have r2 := is_int.mp r2
  subst r2
  refine q_new (Ra := Is K) (α := Sd) k.refl fun l hl S A => ?_
  refine q_forR (p := fun n => 0 ≤ n ∧ n < most + 1) (K := K) (ev_take (K := K) (n := most + 1) hB (i := 0) rfl (ev_i (K := K) (g := fun i j => i + j) (ev_var (i := 2) rfl (is_int.mpr rfl)) ev_int) (by omega)) (fun n hn => by omega) S fun n B2 H2 hn S2 s2 => ?_
  have hw : (rng 0 n.toNat).length = n.toNat := rng_len
  refine q_forD (xs := rng 0 n.toNat) (Ri := Is K) (J := fun x => JN 4 (Is K x)) (ei_wiR (K := K) n) S2 (fun x => go_name)
    (fun pre σ1 B1 H1 => ∃ (o4 o5 : Option V) (ss : List Sd), σ1 = [some (.ref b), some (.int width), some (.int most), some (.ref l), o4, o5] ∧ Acc C H (Is K) l ss B1 H1 ∧ ss.length ≤ pre.length ∧ ss.Nodup ∧ ∀ s ∈ ss, SdOk width s)
    (fun B1 H1 S1 s1 => ⟨none, none, [], rfl, (A.step s2).step s1, by simp, List.nodup_nil, by simp⟩) (fun pre x post σ1 B3 H3 B4 H4 hx S3 e3 ⟨o4, o5, ss, hs, A3, hsl, hnd, hss⟩ s4 σ2 j => ?_) (fun σ1 B3 H3 S3 e3 ⟨o4, o5, ss, hs, A3, hsl, hnd, hss⟩ => ?_)
  · subst hs
    obtain ⟨v4, r4, rfl⟩ := j
    have hpl := pre_len hx
    rw [hw] at hpl
    have A4 := A3.step s4
    refine q_asg (R := SomeR (SdOk width) (Is K)) ?ev (S3.trans s4) fun v5 B5 H5 S5 s5 ⟨s, hsd, r5⟩ => ?_
    case ev =>
      refine (ev_tup (Rs := [SomeR (fun r : Int => 0 ≤ r ∧ r < width) (Is K), SomeR (fun _ : Wy => True) (Is K)]) (ea_cons (ev_take hB (i := 0) rfl (ev_var (i := 1) rfl (is_int.mpr rfl)) (by omega)) (ea_cons (ev_op (R := LstR [Is K Wy.least, Is K Wy.most]) (R' := SomeR (fun r : Int => 0 ≤ r ∧ r < 2) (Is K)) (ev_lst (ea_cons ev_least (ea_cons ev_most ea_nil)) (by simp)) (ev_take hB (i := 0) rfl ev_int (by decide)) (rv_some fun i hi => ?_)) ea_nil)) (by simp)).le fun v B ⟨a, vs, h1, h2, h3⟩ => ?_
      · have h2 : i = 0 ∨ i = 1 := by omega
        rcases h2 with rfl | rfl
        · exact (rv_ixL (R := Is K Wy.least) rfl).le (some_in (F := Is K) trivial)
        · exact (rv_ixL (R := Is K Wy.most) rfl).le (some_in (F := Is K) trivial)
      · obtain _ | @⟨_, u0, _, _, ⟨x, hx, z0⟩, _ | @⟨_, u1, _, _, ⟨y, hy, z1⟩, _ | _⟩⟩ := h3
        exact ⟨(x, y), hx, is_pair.mpr ⟨a, _, h1, h2, .cons z0 (.cons z1 .nil)⟩⟩
    have A5 := A4.step s5
    refine s_ifA A5 S5 (b := notIn s ss) (fun T eT rT => et_test (ev_nin (K := K) (ev_var (i := 5) rfl (Rp.mono _ eT r5)) (ev_var (i := 3) rfl (is_lst.mpr rT)))) (fun e H6 S6 s6 => ?_) (fun e H6 S6 s6 => ?_)
    · have hns : s ∉ ss := notIn_iff.mp e
      have A6 := A5.step s6
      refine s_ins (K := K) (x := s) A6 rfl (A6.peekF S6.ok (fun T eT rT => (ev_take hB (i := 0) rfl (ev_i (K := K) (g := fun i j => i + j) (i := (ss.length : Int)) (Ev.to (F := Is K) (ev_len (K := K) (Rs := ss.map (Is K)) (ev_var (i := 3) rfl rT)) (by rw [List.length_map])) ev_int) (by omega)).le (some_le fun x hx => ⟨hx.1, by have h : x < (ss.length : Int) + 1 := hx.2; omega⟩)) flat_int) (ev_var (i := 5) rfl r5) S6 (by omega) fun m B7 H7 S7 e7 A7 => ⟨B7, S7, s4.bb.trans (s5.bb.trans e7), some v4, some v5, _, rfl, A7, ?_, ?_, ?_⟩
      · have : ((ss.take m ++ [s] ++ ss.drop m)).length = ss.length + 1 := by
          rw [List.append_assoc, List.length_append, List.length_append, List.length_take, List.length_drop, List.length_singleton]; omega
        rw [this, List.length_append, List.length_singleton]; omega
      · have hp : (ss.take m ++ [s] ++ ss.drop m).Perm (s :: ss) := by
          have h1 : (ss.take m ++ [s] ++ ss.drop m).Perm ([s] ++ ss.take m ++ ss.drop m) := List.Perm.append_right _ List.perm_append_comm
          rw [show [s] ++ ss.take m ++ ss.drop m = s :: ss by rw [List.append_assoc, List.take_append_drop]; rfl] at h1
          exact h1
        exact hp.nodup_iff.mpr (List.nodup_cons.mpr ⟨hns, hnd⟩)
      · intro y hy
        rw [List.mem_append, List.mem_append] at hy
        rcases hy with (hy | hy) | hy
        · exact hss y (List.mem_of_mem_take hy)
        · rw [List.mem_singleton.mp hy]; exact hsd
        · exact hss y (List.mem_of_mem_drop hy)
    · exact ⟨B5, S6, s4.bb.trans s5.bb, some v4, some v5, ss, rfl, A5.step s6, by rw [List.length_append, List.length_singleton]; omega, hnd, hss⟩
  · subst hs
    rw [hw] at hsl
    exact s_retAcc A3 rfl S3 fun B4 S4 r => q _ B4 H3 S4 ⟨ss, ⟨hnd, by show (ss.length : Int) ≤ most; omega, hss⟩, is_lst.mpr r⟩
/-! rows -/
theorem cut_len {α : Type} (xs : List α) (lo hi : Option Int) : (cut xs lo hi).length ≤ xs.length := by
  unfold cut
  refine Nat.le_trans (List.length_take_le' _ _) ?_
  rw [List.length_drop]; omega
theorem cut_mem {α : Type} {xs : List α} {lo hi : Option Int} {x : α} (h : x ∈ cut xs lo hi) : x ∈ xs := by
  unfold cut at h
  exact List.mem_of_mem_drop (List.mem_of_mem_take h)
theorem cut_row {width lo hi : Int} {other row : Tu Int} {at_ : Int} (ho : RowOk width lo hi other) (hr : RowOk width lo hi row) (ha : 0 ≤ at_ ∧ at_ < width) : RowOk width lo hi ⟨cut other.l none (some at_) ++ [row.l.getD at_.toNat 0] ++ cut other.l (some (at_ + 1)) none⟩ := by
  have h1 := ho.1
  have h2 := hr.1
  constructor
  · obtain ⟨a, rfl⟩ : ∃ a : Nat, at_ = (a : Int) := ⟨at_.toNat, by omega⟩
    have e1 : cut other.l none (some (a : Int)) = other.l.take a := by
      unfold cut
      rw [HT.sIx_none, HT.sIx_nat, List.drop_zero, Nat.sub_zero, Nat.min_eq_left (by omega)]
    have e2 : cut other.l (some ((a : Int) + 1)) none = other.l.drop (a + 1) := by
      unfold cut
      rw [show (a : Int) + 1 = ((a + 1 : Nat) : Int) by omega, HT.sIx_none, HT.sIx_nat, Nat.min_eq_left (by omega), List.take_of_length_le (by rw [List.length_drop]; exact Nat.le_refl _)]
    show (((cut other.l none (some (a : Int)) ++ [row.l.getD (a : Int).toNat 0] ++ cut other.l (some ((a : Int) + 1)) none).length : Nat) : Int) = width
    rw [e1, e2, List.length_append, List.length_append, List.length_take, List.length_drop, List.length_singleton]; omega
  · intro e he
    rw [List.mem_append, List.mem_append] at he
    rcases he with (he | he) | he
    · exact ho.2 e (cut_mem he)
    · rw [List.mem_singleton.mp he, List.getD_eq_getElem?_getD, List.getElem?_eq_getElem (by omega)]
      exact hr.2 _ (List.getElem_mem _)
    · exact ho.2 e (cut_mem he)
def p__law_great_rows (K : PySem.W.Frag) : Pm (Addr × Int × Int) where
  n := 3
  need x C := HasBag x.1 C
  args x := [RefR x.1, Is K x.2.1, Is K x.2.2]
  pre x := 1 ≤ x.2.1 ∧ x.2.1 ≤ 6 ∧ 0 ≤ x.2.2 ∧ x.2.2 ≤ 100
  res x := SomeR (fun rs : List (Tu Int) => (rs.length : Int) ≤ x.2.2 ∧ ∀ r ∈ rs, RowOk x.2.1 (-1000000000000000000) 1000000000000000000 r) (Is K)
abbrev sp__law_great_rows (K : PySem.W.Frag) : Sp := (p__law_great_rows K).sp
def t__law_great_rows (K : PySem.W.Frag) : TS := (tSeq (tAsg (tOp (rIxL K) (tLst (tCons (tC (.int 1)) (tCons (tC (.int 3)) (tCons (tC (.int 20)) (tCons (tOp rPowI (tC (.int 10)) (tC (.int 18))) tNil))))) (tCall (sp__law_take K) [] E0 (tCons (tVar 0) (tCons (tC (.int 4)) tNil)))) (gName 3))
  (tSeq (tAsg (tLst tNil) (gName 4))
  (tSeq (tFor (iRng1 (tCons (tCall (sp__law_take K) [] E0 (tCons (tVar 0) (tCons (tOp rAddI (tVar 2) (tC (.int 1))) tNil))) tNil)) (gName 5) (tSeq (tAsg (tCall (sp__law_row K) [] E0 (tCons (tVar 0) (tCons (tVar 1) (tCons (tVar 3) tNil)))) (gName 7))
  (tSeq (tIfS (tAnd (tTest (tOp (rNeD K) (tVar 4) (tLst tNil))) (tTest (tOp (rEqD K) (tCall (sp__law_take K) [] E0 (tCons (tVar 0) (tCons (tC (.int 3)) tNil))) (tC (.int 0))))) (tSeq (tPar 8 9 (tCons (tCall (sp__law_take K) [] E0 (tCons (tVar 0) (tCons (tVar 1) tNil))) (tCons (tOp (rIxL K) (tVar 4) (tCall (sp__law_take K) [] E0 (tCons (tVar 0) (tCons (tCB (rLenQ K) (tCons (tVar 4) tNil)) tNil)))) tNil)))
  (tAsg (tOp (rCatA K) (tOp (rCatA K) (tSl (rSlA K) (tVar 9) tNoPart (tPart (tVar 8))) (tTup (tCons (tOp (rIxT K) (tVar 7) (tVar 8)) tNil))) (tSl (rSlA K) (tVar 9) (tPart (tOp rAddI (tVar 8) (tC (.int 1)))) tNoPart)) (gName 7))) tNext)
  (tDrop (tBM K "list" rAppend (tVar 4) (tCons (tVar 7) tNil))))))
  (tSeq (tAsg (tOp rMulI (tCall (sp__law_take K) [] E0 (tCons (tVar 0) (tCons (tOp rAddI (tVar 3) (tC (.int 1))) tNil))) (tCall (sp__law_take K) [] E0 (tCons (tVar 0) (tCons (tC (.int 2)) tNil)))) (gName 6))
  (tRet (tLc (iList K (tVar 4)) (gName 7) tYes (tThen (tLc (iTup K (tVar 7)) (gName 10) tYes (tOp rSubI (tVar 10) (tVar 6)) [10]) (kTup K)) [7]))))))
theorem len__law_great_rows (K : PySem.W.Frag) : ∀ vs H Q E, sp__law_great_rows K vs H Q E → vs.length = 3 := Pm.len _ rfl
theorem pure__law_great_rows (c : Kn0 K) : ∀ vs H Q E, sp__law_great_rows K vs H Q E → t__law_great_rows K { nx := fun _ H' => Q .non H', rt := Q } (start ["bag", "width", "many", "top", "found", "k", "down", "row", "at", "other", "entry"] vs) H := by
  rintro vs H Q E ⟨C, B, ⟨b, width, many⟩, k, hB, a, ⟨h1, h2, h3, h4⟩, q⟩
  have h1 : 1 ≤ width := h1
  have h2 : width ≤ 6 := h2
  have h3 : 0 ≤ many := h3
  have h4 : many ≤ 100 := h4
  have hB : HasBag b C := hB
  obtain _ | @⟨_, v0, _, _, r0, _ | @⟨_, v1, _, _, r1, _ | @⟨_, v2, _, _, r2, _ | _⟩⟩⟩ := a
  have r0 : v0 = .ref b := r0
  subst r0
  have r1 := is_int.mp r1
  subst r1
  have r2 := is_int.mp r2
  subst r2
  let P := SomeR (fun r : Int => 1 ≤ r ∧ r ≤ 1000000000000000000) (Is K)
  refine q_asg (R := P) (ev_op (R := LstR [P, P, P, P]) (R' := SomeR (fun r : Int => 0 ≤ r ∧ r < 4) (Is K)) (ev_lst (ea_cons (ev_int.le (some_in (F := Is K) (by decide))) (ea_cons (ev_int.le (some_in (F := Is K) (by decide))) (ea_cons (ev_int.le (some_in (F := Is K) (by decide))) (ea_cons ((ev_ic (K := K) (c := CPow) (g := fun i j => i ^ j.toNat) ev_int ev_int ⟨by decide, by decide, by decide⟩).le (some_in (F := Is K) (by decide))) ea_nil)))) (by simp)) (ev_take hB (i := 0) rfl ev_int (by decide)) (rv_some fun i hi => rv_ixL ?_)) k.refl fun v3 B2 H2 S2 s2 ⟨top, htop, r3⟩ => ?_
  · have h4 : i = 0 ∨ i = 1 ∨ i = 2 ∨ i = 3 := by omega
    rcases h4 with rfl | rfl | rfl | rfl <;> rfl
  have r3 := is_int.mp r3
  subst r3
  refine q_new (Ra := Is K) (α := Tu Int) S2 fun l hl S A => ?_
  refine q_forR (p := fun n => 0 ≤ n ∧ n < many + 1) (K := K) (ev_take (K := K) (n := many + 1) hB (i := 0) rfl (ev_i (K := K) (g := fun i j => i + j) (ev_var (i := 2) rfl (is_int.mpr rfl)) ev_int) (by omega)) (fun n hn => by omega) S fun n B3 H3 hn S3 s3 => ?_
  have hw : (rng 0 n.toNat).length = n.toNat := rng_len
  refine q_forD (xs := rng 0 n.toNat) (Ri := Is K) (J := fun x => JN 5 (Is K x)) (ei_wiR (K := K) n) S3 (fun x => go_name)
    (fun pre σ1 B1 H1 => ∃ (o5 o7 o8 o9 : Option V) (rs : List (Tu Int)), σ1 = [some (.ref b), some (.int width), some (.int many), some (.int top), some (.ref l), o5, none, o7, o8, o9, none] ∧ Acc C H (Is K) l rs B1 H1 ∧ rs.length = pre.length ∧ ∀ r ∈ rs, RowOk width 0 top r)
    (fun B1 H1 S1 s1 => ⟨none, none, none, none, [], rfl, (A.step s3).step s1, rfl, by simp⟩) (fun pre x post σ1 B4 H4 B5 H5 hx S4 e4 ⟨o5, o7, o8, o9, rs, hs, A4, hrl, hrs⟩ s5 σ2 j => ?_) (fun σ1 B4 H4 S4 e4 ⟨o5, o7, o8, o9, rs, hs, A4, hrl, hrs⟩ => ?_)
  · subst hs
    obtain ⟨v5, r5, rfl⟩ := j
    have hpl := pre_len hx
    rw [hw] at hpl
    have A5 := A4.step s5
    refine q_asg (ev_call (p := p__law_row K) (b, width, top) (ea_cons (ev_var (i := 0) rfl rfl) (ea_cons (ev_var (i := 1) rfl (is_int.mpr rfl)) (ea_cons (ev_var (i := 3) rfl (is_int.mpr rfl)) ea_nil))) ⟨by show 0 ≤ width; omega, h2, by show 0 ≤ top; omega, htop.2⟩ hB) (S4.trans s5) fun v7 B6 H6 S6 s6 ⟨row, hrow, r7⟩ => ?_
    have A6 := A5.step s6
    -- the end of the turn, for any row
    have fin : ∀ (row : Tu Int) (v7 : V) (o8 o9 : Option V) (B7 H7 : Hp), RowOk width 0 top row → (Is K row).P v7 B7 → Stp C B H B7 H7 → Ex B4 B7 → Acc C H (Is K) l rs B7 H7 → (tDrop (tBM K "list" rAppend (tVar 4) (tCons (tVar 7) tNil))) { nx := fun σ H' => ∃ B', Stp C B H B' H' ∧ Ex B4 B' ∧ ∃ (o5 o7 o8 o9 : Option V) (rs : List (Tu Int)), σ = [some (.ref b), some (.int width), some (.int many), some (.int top), some (.ref l), o5, none, o7, o8, o9, none] ∧ Acc C H (Is K) l rs B' H' ∧ rs.length = (pre ++ [x]).length ∧ ∀ r ∈ rs, RowOk width 0 top r, rt := Q } [some (.ref b), some (.int width), some (.int many), some (.int top), some (.ref l), some v5, none, some v7, o8, o9, none] H7 :=
      fun row v7 o8 o9 B7 H7 hrow r7 S7 e7 A7 => s_app (K := K) (x := row) A7 (ev_var rfl rfl) (ev_var rfl r7) S7 (by omega) fun B8 H8 H9 S9 s8 _ A9 => ⟨B8, S9, e7.trans s8.bb, some v5, some v7, o8, o9, _, rfl, A9, by simp [hrl], fun r hr => by
        rcases List.mem_append.mp hr with hr | hr
        · exact hrs r hr
        · rw [List.mem_singleton.mp hr]; exact hrow⟩
    have evT : ∀ T, Ex B6 T → (LstR (rs.map (Is K))).P (.ref l) T → EvT C (tTest (tOp (rNeD K) (tVar 4) (tLst tNil))) [some (.ref b), some (.int width), some (.int many), some (.int top), some (.ref l), some v5, none, some v7, o8, o9, none] T (decide (rs ≠ [])) := fun T eT rT => et_test (ev_ne (K := K) (ev_var (i := 4) rfl (is_lst.mpr rT)) (ev_lstD (α := Tu Int) (xs := []) ea_nil))
    obtain ⟨T, kT, eT, rT⟩ := A6.look S6.ok
    refine evT T eT rT T H6 (.refl _) kT _ fun H7 s7 => ?_
    have s7' := s7.down S6.ok eT
    have A7 := A6.step s7'
    have S7 := S6.trans s7'
    by_cases hne : rs = []
    · rw [decide_eq_false (fun h => h hne)]
      show (if false = true then _ else _)
      rw [if_neg Bool.false_ne_true]
      exact fin row v7 o8 o9 B6 H7 hrow r7 S7 (s5.bb.trans s6.bb) A7
    rw [decide_eq_true hne]
    have hpos : 0 < rs.length := List.length_pos_iff.mpr hne
    rw [if_pos rfl]
    unfold tTest
    refine (ev_op (R := SomeR (fun r : Int => 0 ≤ r ∧ r < 3) (Is K)) (R' := Is K (0 : Int)) (S := SomeR (fun _ : Bool => True) (Is K)) (r := rEqD K) (ev_take hB (i := 0) rfl ev_int (by decide)) ev_int (rv_someL fun z hz => fun u w B1 H1 _ k hx hy Q q => ⟨enc z, enc (0 : Int), dq_dp k.sub _ _ hx, dq_dp k.sub _ _ hy, Enc.shaped z, Enc.shaped (0 : Int), q _ B1 H1 k.refl ⟨_, trivial, .bl _⟩⟩)) B6 H7 (.refl _) S7.ok _ fun w B8 H8 s8 ⟨g, _, rg⟩ => ?_
    have rg := is_bool.mp rg
    subst rg
    refine ⟨g, rfl, ?_⟩
    have A8 := A7.step s8
    have S8 := S7.trans s8
    have e8 : Ex B4 B8 := s5.bb.trans (s6.bb.trans s8.bb)
    have r78 : (Is K row).P v7 B8 := Rp.mono _ s8.bb r7
    cases g with
    | false =>
      dsimp only
      rw [if_neg Bool.false_ne_true]
      exact fin row v7 o8 o9 B8 H8 hrow r78 S8 e8 A8
    | true =>
      dsimp only
      rw [if_pos rfl]
      -- at, other
      refine q_parR (fun v u H2 => ∃ B2, ∃ at_ : Int, ∃ other, Stp C B8 H8 B2 H2 ∧ .int at_ = v ∧ (0 ≤ at_ ∧ at_ < width) ∧ other ∈ rs ∧ (Is K other).P u B2) (fun Q' h => ?_) ?_
      · refine ev_take (K := K) (σ := [some (.ref b), some (.int width), some (.int many), some (.int top), some (.ref l), some v5, none, some v7, o8, o9, none]) hB (i := 0) rfl (ev_var (i := 1) (R := Is K width) rfl (is_int.mpr rfl)) (by omega) B8 H8 (.refl _) S8.ok _ fun u B9 H9 s9 ⟨at_, hat, ra⟩ => ?_
        have ra := is_int.mp ra
        subst ra
        have A9 := A8.step s9
        refine acc_ix (K := K) A9 rfl (A9.peekF s9.ok (fun T eT rT => ev_take hB (i := 0) rfl (Ev.to (F := Is K) (ev_len (K := K) (Rs := rs.map (Is K)) (ev_var (i := 4) rfl rT)) (by rw [List.length_map])) (by omega)) flat_int) _ fun w B10 H10 s10 ⟨other, ho, ro⟩ => ?_
        exact h _ _ _ ⟨B10, at_, other, s9.trans s10, rfl, hat, ho, ro⟩
      rintro _ v9 H9 ⟨B9, at_, other, s9, rfl, hat, ho, r9⟩
      have hro := hrs other ho
      have r79 : (Is K row).P v7 B9 := Rp.mono _ s9.bb r78
      have hrl2 : (row.l.length : Int) = width := hrow.1
      have hrl3 : (other.l.length : Int) = width := hro.1
      have hatl : at_ < (row.l.length : Int) := by rw [hrl2]; exact hat.2
      refine s_asg (i := 7) (R := Is K (⟨cut other.l none (some at_) ++ [row.l.getD at_.toNat 0] ++ cut other.l (some (at_ + 1)) none⟩ : Tu Int)) (ev_catTD (K := K) (xs := ⟨cut other.l none (some at_) ++ [row.l.getD at_.toNat 0]⟩) (ys := ⟨cut other.l (some (at_ + 1)) none⟩) (ev_catTD (K := K) (xs := ⟨cut other.l none (some at_)⟩) (ys := ⟨[row.l.getD at_.toNat 0]⟩) (ev_slTD (K := K) (xs := other) (ev_var (i := 9) rfl r9) eo_none (eo_some (K := K) (ev_var (i := 8) rfl (is_int.mpr rfl))))
        ((ev_tup (Rs := [Is K (row.l.getD at_.toNat 0)]) (ea_cons (ev_ixTd (K := K) (xs := row) (ev_var (i := 7) rfl r79) (ev_var (i := 8) rfl (is_int.mpr rfl)) (atI_some hat.1 hatl)) ea_nil) (by simp)).le fun _ _ r => is_tup.mpr r) ?_) (ev_slTD (K := K) (xs := other) (ev_var (i := 9) rfl r9) (eo_some (K := K) (ev_i (K := K) (g := fun i j => i + j) (ev_var (i := 8) rfl (is_int.mpr rfl)) ev_int)) eo_none) ?_) (S8.trans s9) fun v7' B10 H10 S10 s10 r10 => ?_
      · have := cut_len other.l none (some at_)
        simp only [List.length_singleton]; omega
      · have := cut_len other.l none (some at_)
        have := cut_len other.l (some (at_ + 1)) none
        simp only [List.length_append, List.length_singleton]; omega
      have A10 := (A8.step s9).step s10
      exact fin _ v7' _ _ B10 H10 (cut_row hro hrow hat) r10 S10 (e8.trans (s9.bb.trans s10.bb)) A10
  · subst hs
    rw [hw] at hrl
    obtain ⟨B5, S5, e5, rl, _⟩ := A4.frz S4
    have RL : (Is K rs).P (.ref l) B5 := is_lst.mpr rl
    refine q_asg (R := SomeR (fun r : Int => 0 ≤ r ∧ r ≤ 1000000000000000000) (Is K)) (ev_op (R := SomeR (fun r : Int => 0 ≤ r ∧ r < top + 1) (Is K)) (R' := SomeR (fun r : Int => 0 ≤ r ∧ r < 2) (Is K)) (ev_take hB (i := 0) rfl (ev_i (K := K) (g := fun i j => i + j) (ev_var (i := 3) rfl (is_int.mpr rfl)) ev_int) (by omega)) (ev_take hB (i := 0) rfl ev_int (by decide)) (rv_someL fun x hx => rv_some fun y hy => (rv_I (K := K) (g := fun i j => .int (i * j)) (S := Is K (x * y)) (.inr ⟨by omega, by omega⟩) fun _ => .int _).le (some_in (F := Is K) ?_))) S5 fun v6 B6 H6 S6 s6 ⟨down, hdown, r6⟩ => ?_
    · have hy2 : y = 0 ∨ y = 1 := by omega
      have hx2 : x < top + 1 := hx.2
      rcases hy2 with rfl | rfl
      · simp
      · rw [Int.mul_one]; omega
    have r6 := is_int.mp r6
    subst r6
    refine s_ret (ev_lcMD (K := K) (xs := rs) (fun r => (⟨r.l.map fun e => e - down⟩ : Tu Int)) (ei_listD (ev_var (i := 4) rfl (Rp.mono _ s6.bb RL))) (by omega) (fun x => go_name) fun r σ2 B' hb eb j => ?_) S6 fun v B8 H8 S8 r8 => q v B8 H8 S8 ⟨_, ⟨by show ((rs.map _).length : Int) ≤ many; rw [List.length_map]; omega, fun r hr => ?_⟩, r8⟩
    · obtain ⟨v, hv, rfl⟩ := j
      refine ⟨rfl, ev_tupleD (K := K) (ev_lcMD (K := K) (xs := r.l) (fun e => e - down) (ei_tupD (ev_var (i := 7) rfl hv)) ?_ (fun x => go_name) fun e σ3 B'' he' eb2 j => ?_)⟩
      · have := (hrs r hb).1; omega
      · obtain ⟨u, hu, rfl⟩ := j
        exact ⟨rfl, ev_i (K := K) (g := fun i j => i - j) (ev_var rfl hu) (ev_var (i := 6) rfl (is_int.mpr rfl))⟩
    · obtain ⟨r', hr', rfl⟩ := List.mem_map.mp hr
      have := hrs r' hr'
      refine ⟨by show ((r'.l.map _).length : Int) = width; rw [List.length_map]; exact this.1, fun e he => ?_⟩
      obtain ⟨e', he', rfl⟩ := List.mem_map.mp he
      have := this.2 e' he'
      omega
end
end Pk

/-! What the law draws: wishes, plans. -/
namespace Pk
open PySem L2
open Enc (enc dep)
section
variable {K : PySem.W.Frag}
structure WishOk (width : Int) (most : Int) (w : List Bd) : Prop where
  nd : (w.map fun b => (b.c, b.w)).Nodup
  len : (w.length : Int) ≤ most
  c : ∀ b ∈ w, 0 ≤ b.c ∧ b.c < width
  v : ∀ b ∈ w, -1000000000000000000 ≤ b.v ∧ b.v ≤ 1000000000000000000
def p__law_small_wish (K : PySem.W.Frag) : Pm (Addr × List (Tu Int) × Int × Int) where
  n := 4
  need x C := HasBag x.1 C
  args x := [RefR x.1, Is K x.2.1, Is K x.2.2.1, Is K x.2.2.2]
  pre x := 1 ≤ x.2.2.1 ∧ x.2.2.1 ≤ 6 ∧ 0 ≤ x.2.2.2 ∧ x.2.2.2 ≤ 10 ∧ x.2.1.length ≤ 1000 ∧ ∀ r ∈ x.2.1, RowOk x.2.2.1 (-1000000000000000000) 1000000000000000000 r
  res x := SomeR (WishOk x.2.2.1 x.2.2.2) (Is K)
abbrev sp__law_small_wish (K : PySem.W.Frag) : Sp := (p__law_small_wish K).sp
def t__law_small_wish (K : PySem.W.Frag) : TS := (tSeq (tAsg (tLst tNil) (gName 4))
  (tSeq (tFor (iList K (tCall (sp__law_sides K) [] E0 (tCons (tVar 0) (tCons (tVar 2) (tCons (tVar 3) tNil))))) (gName 5) (tSeq (tAsg (tCall (sp__law_take K) [] E0 (tCons (tVar 0) (tCons (tC (.int 3)) tNil))) (gName 6))
  (tSeq (tIfS (tAnd (tTest (tOp (rNeD K) (tVar 1) (tLst tNil))) (tTest (tOp rGtI (tCall (sp__law_take K) [] E0 (tCons (tVar 0) (tCons (tC (.int 4)) tNil))) (tC (.int 0))))) (tAsg (tOp (rIxT K) (tOp (rIxL K) (tVar 1) (tCall (sp__law_take K) [] E0 (tCons (tVar 0) (tCons (tCB (rLenQ K) (tCons (tVar 1) tNil)) tNil)))) (tOp (rIxT K) (tVar 5) (tC (.int 0)))) (gName 6)) tNext)
  (tDrop (tBM K "list" rAppend (tVar 4) (tCons (tOp (rCatA K) (tVar 5) (tTup (tCons (tVar 6) tNil))) tNil))))))
  (tRet (tVar 4))))
theorem len__law_small_wish (K : PySem.W.Frag) : ∀ vs H Q E, sp__law_small_wish K vs H Q E → vs.length = 4 := Pm.len _ rfl
theorem pure__law_small_wish (c : Kn0 K) : ∀ vs H Q E, sp__law_small_wish K vs H Q E → t__law_small_wish K { nx := fun _ H' => Q .non H', rt := Q } (start ["bag", "rows", "width", "most", "found", "side", "value"] vs) H := by
  rintro vs H Q E ⟨C, B, ⟨b, rows, width, most⟩, k, hB, a, ⟨h1, h2, h3, h4, h5, h6⟩, q⟩
  have h1 : 1 ≤ width := h1
  have h2 : width ≤ 6 := h2
  have h3 : 0 ≤ most := h3
  have h4 : most ≤ 10 := h4
  have h5 : rows.length ≤ 1000 := h5
  have h6 : ∀ r ∈ rows, RowOk width (-1000000000000000000) 1000000000000000000 r := h6
  have hB : HasBag b C := hB
  obtain _ | @⟨_, v0, _, _, r0, _ | @⟨_, v1, _, _, r1, _ | @⟨_, v2, _, _, r2, _ | @⟨_, v3, _, _, r3, _ | _⟩⟩⟩⟩ := a
  have r0 : v0 = .ref b := r0
  subst r0
  have r2 := is_int.mp r2
  subst r2
  have r3 := is_int.mp r3
  subst r3
  refine q_new (Ra := Is K) (α := Bd) k.refl fun l hl S A => ?_
  -- the sides
  have ecall : Ev C (tCall (sp__law_sides K) [] E0 (tCons (tVar 0) (tCons (tVar 2) (tCons (tVar 3) tNil)))) [some (.ref b), some v1, some (.int width), some (.int most), some (.ref l), none, none] B (SomeR (fun ss : List Sd => ss.Nodup ∧ (ss.length : Int) ≤ most ∧ ∀ s ∈ ss, SdOk width s) (Is K)) :=
    ev_call (p := p__law_sides K) (b, width, most) (ea_cons (ev_var (i := 0) rfl rfl) (ea_cons (ev_var (i := 2) rfl (is_int.mpr rfl)) (ea_cons (ev_var (i := 3) rfl (is_int.mpr rfl)) ea_nil))) ⟨h1, h2, h3, h4⟩ hB
  refine q_forSL (K := K) ((ecall.mono (.refl _))) S fun ss vv B2 H2 ⟨hnd, hsl, hss⟩ rv S2 s2 => ?_
  refine q_forD (xs := ss) (Ri := Is K) (J := fun x => JN 5 (Is K x)) (ei_listD (ev_val rv)) S2 (fun x => go_name)
    (fun pre σ1 B1 H1 => ∃ (o5 o6 : Option V) (w : List Bd), σ1 = [some (.ref b), some v1, some (.int width), some (.int most), some (.ref l), o5, o6] ∧ Acc C H (Is K) l w B1 H1 ∧ (w.map fun b => (b.c, b.w)) = pre ∧ ∀ b ∈ w, -1000000000000000000 ≤ b.v ∧ b.v ≤ 1000000000000000000)
    (fun B1 H1 S1 s1 => ⟨none, none, [], rfl, (A.step s2).step s1, rfl, by simp⟩) (fun pre s post σ1 B3 H3 B4 H4 hx S3 e3 ⟨o5, o6, w, hs, A3, hwp, hwv⟩ s4 σ2 j => ?_) (fun σ1 B3 H3 S3 e3 ⟨o5, o6, w, hs, A3, hwp, hwv⟩ => ?_)
  · subst hs
    obtain ⟨v5, r5, rfl⟩ := j
    have hsm : s ∈ ss := by rw [hx]; simp
    have hsd := hss s hsm
    have hsl2 := pre_len hx
    have hwl : w.length = pre.length := by rw [← hwp, List.length_map]
    have A4 := A3.step s4
    have S4 := S3.trans s4
    have e4 : Ex B B4 := s2.bb.trans (e3.trans s4.bb)
    refine q_asg (ev_take (K := K) (n := 3) hB (i := 0) rfl ev_int (by decide)) S4 fun v6 B5 H5 S5 s5 r6 => ?_
    obtain ⟨val, hval, rfl⟩ := int_flat r6
    have A5 := A4.step s5
    have fin : ∀ (val : Int) (B6 H6 : Hp), -1000000000000000000 ≤ val ∧ val ≤ 1000000000000000000 → Stp C B H B6 H6 → Ex B4 B6 → Acc C H (Is K) l w B6 H6 → (tDrop (tBM K "list" rAppend (tVar 4) (tCons (tOp (rCatA K) (tVar 5) (tTup (tCons (tVar 6) tNil))) tNil))) { nx := fun σ H' => ∃ B', Stp C B H B' H' ∧ Ex B3 B' ∧ ∃ (o5 o6 : Option V) (w : List Bd), σ = [some (.ref b), some v1, some (.int width), some (.int most), some (.ref l), o5, o6] ∧ Acc C H (Is K) l w B' H' ∧ (w.map fun b => (b.c, b.w)) = pre ++ [s] ∧ ∀ b ∈ w, -1000000000000000000 ≤ b.v ∧ b.v ≤ 1000000000000000000, rt := Q } [some (.ref b), some v1, some (.int width), some (.int most), some (.ref l), some v5, some (.int val)] H6 :=
      fun val B6 H6 hval S6 e6 A6 => s_app (K := K) (x := Bd.mk s.1 s.2 val) A6 (ev_var rfl rfl) (ev_side (K := K) (ev_var (i := 5) rfl (Rp.mono _ e6 r5)) (ev_var (i := 6) rfl (is_int.mpr rfl))) S6 (by omega) fun B8 H8 H9 S9 s8 _ A9 => ⟨B8, S9, s4.bb.trans (e6.trans s8.bb), some v5, some (.int val), _, rfl, A9, by rw [List.map_append, hwp]; rfl, fun y hy => by
        rcases List.mem_append.mp hy with hy | hy
        · exact hwv y hy
        · rw [List.mem_singleton.mp hy]; exact hval⟩
    have R1 : (Is K rows).P v1 B5 := Rp.mono _ (e4.trans s5.bb) r1
    by_cases hne : rows = []
    · refine q_if (b := false) ((et_and (et_test (ev_ne (K := K) (ev_var (i := 1) rfl R1) (ev_lstD (α := Tu Int) (xs := []) ea_nil))) (c := true) fun h => absurd hne (of_decide_eq_true h)).to (by rw [decide_eq_false (fun h => h hne)]; rfl)) S5 (fun e => by cases e) (fun _ H6 S6 s6 => ?_)
      exact fin val B5 H6 (by omega) S6 s5.bb (A5.step s6)
    · have hpos : 0 < rows.length := List.length_pos_iff.mpr hne
      show tSeq (tIfS (tAnd _ _) _ _) _ _ _ _
      refine (et_test (ev_ne (K := K) (ev_var (i := 1) rfl R1) (ev_lstD (α := Tu Int) (xs := []) ea_nil))) B5 H5 (.refl _) S5.ok _ fun H6 s6 => ?_
      rw [decide_eq_true hne]
      rw [if_pos rfl]
      unfold tTest
      refine (ev_op (R := SomeR (fun r : Int => 0 ≤ r ∧ r < 4) (Is K)) (R' := Is K (0 : Int)) (S := SomeR (fun _ : Bool => True) (Is K)) (r := rGtI) (ev_take hB (i := 0) rfl ev_int (by decide)) ev_int (rv_someL fun z hz => (rv_I0 (K := K) (g := fun i j => .bl (decide (j < i))) (S := Is K (decide ((0 : Int) < z))) fun _ => .bl _).le (some_in (F := Is K) trivial))) B5 H6 (.refl _) s6.ok _ fun wv B7 H7 s7 ⟨g, _, rg⟩ => ?_
      have rg := is_bool.mp rg
      subst rg
      refine ⟨g, rfl, ?_⟩
      have S7 := S5.trans (s6.trans s7)
      have A7 := (A5.step s6).step s7
      have e47 : Ex B4 B7 := s5.bb.trans (s6.bb.trans s7.bb)
      cases g with
      | false =>
        dsimp only
        rw [if_neg Bool.false_ne_true]
        exact fin val B7 H7 (by omega) S7 e47 A7
      | true =>
        dsimp only
        rw [if_pos rfl]
        have R17 : (Is K rows).P v1 B7 := Rp.mono _ (e4.trans e47) r1
        have R57 : (Is K s).P v5 B7 := Rp.mono _ e47 r5
        refine s_asg (i := 6) (R := SomeR (fun r : Int => -1000000000000000000 ≤ r ∧ r ≤ 1000000000000000000) (Is K)) (ev_op (R := SomeR (fun r : Tu Int => r ∈ rows) (Is K)) (R' := Is K s.1) (ev_op (R := Is K rows) (R' := SomeR (fun r : Int => 0 ≤ r ∧ r < (rows.length : Int)) (Is K)) (ev_var (i := 1) rfl R17) (ev_take hB (i := 0) rfl (ev_lenD (K := K) (ev_var (i := 1) rfl R17)) (by omega)) (rv_some fun i hi => ?_)) (ev_ixT (K := K) (Rs := [Is K s.1, Is K s.2]) (ev_var (i := 5) rfl (is_pair.mp R57)) ev_int rfl) (rv_someL fun r hr => ?_)) S7 fun v6 B8 H8 S8 s8 r8 => ?_
        · have hi2 : i.toNat < rows.length := by omega
          have hix : atI (rows.map (Is K)) i = some (Is K rows[i.toNat]) := by
            rw [atI_nn hi.1 (by rw [List.length_map]; exact hi.2), List.getElem?_map, List.getElem?_eq_getElem hi2]; rfl
          exact fun x y B1 H1 e k hx hy Q q => (rv_ixL (C := C) (K := K) (B := B1) hix) x y B1 H1 (.refl _) k (is_lst.mp hx) hy Q fun v B2 H2 s r => q v B2 H2 s ⟨rows[i.toNat], List.getElem_mem hi2, r⟩
        · have hro := h6 r hr
          have hl1 : s.1 < (r.l.length : Int) := by rw [hro.1]; exact hsd.2
          intro x y B1 H1 e k hx hy Q q
          obtain ⟨a, us, g1, g2, g3⟩ := is_tup.mp hx
          obtain ⟨z, z1, z2⟩ := atI_at g3 (atI_map (f := Is K) (atI_some hsd.1 hl1))
          refine ⟨a, us, s.1, z, g1, is_int.mp hy, rd_t (k.sub _ _ g2), z1, q _ B1 H1 k.refl ⟨_, ?_, z2⟩⟩
          rw [List.getD_eq_getElem?_getD, List.getElem?_eq_getElem (by have := hsd.1; omega)]
          exact hro.2 _ (List.getElem_mem _)
        · obtain ⟨val2, hval2, rfl⟩ := int_flat r8
          exact fin val2 B8 H8 hval2 S8 (e47.trans s8.bb) (A7.step s8)
  · subst hs
    refine s_retAcc A3 rfl S3 fun B4 S4 r => q _ B4 H3 S4 ⟨w, ⟨?_, ?_, fun b hb => ?_, hwv⟩, is_lst.mpr r⟩
    · rw [hwp]; exact hnd
    · have : w.length = ss.length := by rw [← hwp, List.length_map]
      have hsl' : (ss.length : Int) ≤ most := hsl
      rw [this]; exact hsl'
    · exact hss (b.c, b.w) (by rw [← hwp]; exact List.mem_map.mpr ⟨b, hb, rfl⟩)
def p__law_plans (K : PySem.W.Frag) : Pm (Addr × Int) where
  n := 2
  need x C := HasBag x.1 C
  args x := [RefR x.1, Is K x.2]
  pre x := 1 ≤ x.2 ∧ x.2 ≤ 6
  res x := SomeR (fun ps : List (List Int × List Int) => ps.length ≤ 3 ∧ ∀ p ∈ ps, CouOk x.2 p) (Is K)
abbrev sp__law_plans (K : PySem.W.Frag) : Sp := (p__law_plans K).sp
def t__law_plans (K : PySem.W.Frag) : TS := (tSeq (tAsg (tLc (iRng1 (tCons (tCall (sp__law_take K) [] E0 (tCons (tVar 0) (tCons (tC (.int 3)) tNil))) tNil)) (gName 4) tYes (tCall (sp__law_council K) [] E0 (tCons (tVar 0) (tCons (tVar 1) (tCons (tC (.int 4)) tNil)))) [4]) (gName 2))
  (tSeq (tIfS (tTest (tOp (rEqD K) (tCall (sp__law_take K) [] E0 (tCons (tVar 0) (tCons (tC (.int 3)) tNil))) (tC (.int 0)))) (tSeq (tAsg (tOp rAddI (tC (.int 2)) (tCall (sp__law_take K) [] E0 (tCons (tVar 0) (tCons (tC (.int 4)) tNil)))) (gName 3))
  (tDrop (tBM K "list" rAppend (tVar 2) (tCons (tTup (tCons (tOp rRep (tLst (tCons (tC (.int 1)) tNil)) (tVar 3)) (tCons (tLc (iRng1 (tCons (tVar 1) tNil)) (gName 5) tYes (tOp rAddI (tC (.int 1)) (tCall (sp__law_take K) [] E0 (tCons (tVar 0) (tCons (tVar 3) tNil)))) [5]) tNil))) tNil)))) tNext)
  (tRet (tVar 2))))
theorem len__law_plans (K : PySem.W.Frag) : ∀ vs H Q E, sp__law_plans K vs H Q E → vs.length = 2 := Pm.len _ rfl
theorem pure__law_plans (c : Kn0 K) : ∀ vs H Q E, sp__law_plans K vs H Q E → t__law_plans K { nx := fun _ H' => Q .non H', rt := Q } (start ["bag", "width", "plans", "many", "one", "column"] vs) H := by
  rintro vs H Q E ⟨C, B, ⟨b, width⟩, k, hB, a, ⟨h1, h2⟩, q⟩
  have h1 : 1 ≤ width := h1
  have h2 : width ≤ 6 := h2
  have hB : HasBag b C := hB
  obtain _ | @⟨_, v0, _, _, r0, _ | @⟨_, v1, _, _, r1, _ | _⟩⟩ := a
  have r0 : v0 = .ref b := r0
  subst r0
  have r1 := is_int.mp r1
  subst r1
  refine q_lcR (p := fun n => 0 ≤ n ∧ n < 3) (K := K) (ev_take (K := K) (n := 3) hB (i := 0) rfl ev_int (by decide)) (fun n hn => by omega) k.refl fun n B2 H2 hn S2 s2 => ?_
  have hw : (rng 0 n.toNat).length = n.toNat := rng_len
  refine q_lcO (α := List Int × List Int) (p := CouOk width) (Ra := Is K) (ys := rng 0 n.toNat) (Ri := Is K) (J := fun x => JN 4 (Is K x)) (ei_wiR (K := K) n) (by rw [hw]; omega) (fun x => go_name) S2 (fun x σ2 B' hb eb j => ?_) fun ps l B3 H3 hpl hps S3 e3 A3 => ?_
  · obtain ⟨v, hv, rfl⟩ := j
    exact ⟨rfl, (ev_call (p := p__law_council K) (b, width, 4) (ea_cons (ev_var (i := 0) rfl rfl) (ea_cons (ev_var (i := 1) rfl (is_int.mpr rfl)) (ea_cons ev_int ea_nil))) ⟨h1, h2, show (2 : Int) ≤ 4 by decide, show (4 : Int) ≤ 7 by decide⟩ hB).le (some_le fun p hp => ⟨hp.1, hp.2.1, hp.2.2.1, by have h : (p.1.length : Int) ≤ 4 := hp.2.2.2; omega⟩)⟩
  rw [hw] at hpl
  unfold tSeq tIfS tTest
  refine (ev_op (R := SomeR (fun r : Int => 0 ≤ r ∧ r < 3) (Is K)) (R' := Is K (0 : Int)) (S := SomeR (fun _ : Bool => True) (Is K)) (r := rEqD K) (ev_take hB (i := 0) rfl ev_int (by decide)) ev_int (rv_someL fun z hz => fun u w B1 H1 _ k hx hy Q q => ⟨enc z, enc (0 : Int), dq_dp k.sub _ _ hx, dq_dp k.sub _ _ hy, Enc.shaped z, Enc.shaped (0 : Int), q _ B1 H1 k.refl ⟨_, trivial, .bl _⟩⟩)) B3 H3 (.refl _) S3.ok _ fun wv B4 H4 s4 ⟨g, _, rg⟩ => ?_
  have rg := is_bool.mp rg
  subst rg
  refine ⟨g, rfl, ?_⟩
  have S4 := S3.trans s4
  have A4 := A3.step s4
  cases g with
  | false =>
    dsimp only
    rw [if_neg Bool.false_ne_true]
    exact s_retAcc (i := 2) A4 rfl S4 fun B5 S5 r => q _ B5 H4 S5 ⟨ps, ⟨by omega, hps⟩, is_lst.mpr r⟩
  | true =>
    dsimp only
    rw [if_pos rfl]
    refine ev_addS (K := K) (σ := [some (.ref b), some (.int width), some (.ref l), none, none, none]) (q := fun r : Int => 2 ≤ r ∧ r ≤ 5) ev_int (ev_take (K := K) (n := 4) hB (i := 0) rfl ev_int (by decide)) (fun x hx => by omega) B4 H4 (.refl _) S4.ok _ fun mv B5 H5 s5 rm => ?_
    obtain ⟨m, hm, rfl⟩ := int_flat rm
    have S5 := S4.trans s5
    have A5 := A4.step s5
    have hww : (rng 0 width.toNat).length = width.toNat := rng_len
    have evp : Ev C (tTup (tCons (tOp rRep (tLst (tCons (tC (.int 1)) tNil)) (tVar 3)) (tCons (tLc (iRng1 (tCons (tVar 1) tNil)) (gName 5) tYes (tOp rAddI (tC (.int 1)) (tCall (sp__law_take K) [] E0 (tCons (tVar 0) (tCons (tVar 3) tNil)))) [5]) tNil))) [some (.ref b), some (.int width), some (.ref l), some (.int m), none, none] B5 (SomeR (CouOk width) (Is K)) := by
      refine (ev_tup (Rs := [Is K (List.replicate m.toNat (1 : Int)), SomeR (fun zs : List Int => zs.length = (rng 0 width.toNat).length ∧ ∀ z ∈ zs, 1 ≤ z ∧ z ≤ m) (Is K)]) (ea_cons (ev_repD (K := K) (x := (1 : Int)) (ev_lstD (α := Int) (xs := [1]) (ea_cons ev_int ea_nil)) (ev_var (i := 3) rfl (is_int.mpr rfl)) (by omega)) (ea_cons (ev_lcSD (K := K) (α := Int) (p := fun z => 1 ≤ z ∧ z ≤ m) (ys := rng 0 width.toNat) (Ri := Is K) (J := fun x => JN 5 (Is K x)) (ei_range1 (K := K) (ea_cons (ev_var (i := 1) rfl (is_int.mpr rfl)) ea_nil) (by omega)) (by rw [hww]; omega) (fun x => go_name) fun x σ2 B' hb eb j => ?_) ea_nil)) (by simp)).le fun v B ⟨a, vs, g1, g2, g3⟩ => ?_
      · obtain ⟨v, hv, rfl⟩ := j
        exact ⟨rfl, ev_addS (K := K) ev_int (ev_take (K := K) (n := m) hB (i := 0) rfl (ev_var (i := 3) rfl (is_int.mpr rfl)) (by omega)) fun x hx => by omega⟩
      · obtain _ | @⟨_, u0, _, _, z0, _ | @⟨_, u1, _, _, ⟨qs, ⟨hql, hqs⟩, z1⟩, _ | _⟩⟩ := g3
        have hsum : (List.replicate m.toNat (1 : Int)).sum = m := by
          have : ∀ n : Nat, (List.replicate n (1 : Int)).sum = n := fun n => by
            induction n with
            | zero => rfl
            | succ n ih => rw [List.replicate_succ, List.sum_cons, ih]; omega
          rw [this]; omega
        rw [hww] at hql
        refine ⟨(List.replicate m.toNat 1, qs), ⟨⟨?_, ?_, fun w hw' => ?_⟩, ⟨?_, ?_, fun q hq => ?_⟩, ?_, ?_⟩, is_pair.mpr ⟨a, _, g1, g2, .cons z0 (.cons z1 .nil)⟩⟩
        · rw [List.length_replicate]; omega
        · rw [List.length_replicate]; omega
        · rw [List.eq_of_mem_replicate hw']; decide
        · show 1 ≤ qs.length; omega
        · show qs.length ≤ 6; omega
        · show 1 ≤ q ∧ q ≤ (List.replicate m.toNat (1 : Int)).sum
          rw [hsum]; exact hqs q hq
        · show (qs.length : Int) = width; omega
        · show (List.replicate m.toNat (1 : Int)).length ≤ 5
          rw [List.length_replicate]; omega
    refine s_appS (K := K) (i := 2) A5 rfl (evp.here S5.ok) S5 (by omega) fun z B6 H6 H7 hz S7 s6 _ A7 => ?_
    refine s_retAcc (i := 2) A7 rfl S7 fun B8 S8 r => q _ B8 H7 S8 ⟨ps ++ [z], ⟨by rw [List.length_append, List.length_singleton]; omega, fun p hp => ?_⟩, is_lst.mpr r⟩
    rcases List.mem_append.mp hp with hp | hp
    · exact hps p hp
    · rw [List.mem_singleton.mp hp]; exact hz
end
end Pk

/-! The plain law of k81: levels by masks, levels by sets. -/
namespace Pk
open PySem L2
open PySem.W (TotalLe sameRank dataLe sortLe sortLe_total sort_one sort_pairwise)
open Enc (enc dep)
/-! ### sorted lists -/
section
variable {α : Type} [Enc α]
theorem le_total : TotalLe (dataLe false (enc : α → PyData)) := sortLe_total _ _ _
theorem lex_pre (O : PyProof.Rows.KeyOrd) (a : O.α) : ∀ t : List O.α, PyProof.Rows.lexLt O t (t ++ [a]) = true
  | [] => rfl
  | x :: t => by
    have ih := lex_pre O a t
    have ir := O.irrefl x
    simp only [List.cons_append, PyProof.Rows.lexLt, ir, ih]
    simp
theorem le_anti [Alk α] {x y : α} (h1 : dataLe false enc x y = true) (h2 : dataLe false enc y x = true) : x = y := by
  have e1 : PyProof.Rows.lexLt PyProof.Rows.itemOrd (PySem.W.keyToks (enc y)) (PySem.W.keyToks (enc x)) = false := by
    have h : (!PyProof.Rows.lexLt PyProof.Rows.itemOrd (PySem.W.keyToks (enc y)) (PySem.W.keyToks (enc x))) = true := h1
    simpa using h
  have e2 : PyProof.Rows.lexLt PyProof.Rows.itemOrd (PySem.W.keyToks (enc x)) (PySem.W.keyToks (enc y)) = false := by
    have h : (!PyProof.Rows.lexLt PyProof.Rows.itemOrd (PySem.W.keyToks (enc x)) (PySem.W.keyToks (enc y))) = true := h2
    simpa using h
  have et : PySem.W.keyToks (enc x) = PySem.W.keyToks (enc y) := (PyProof.Rows.listOrd PyProof.Rows.itemOrd).total _ _ e2 e1
  have tk := PySem.W.toks_eqv (enc x) (enc y) (Alk.ali x y)
  cases q : PyData.eqv (enc x) (enc y) with
  | true => exact (Enc.inj x y).mp q
  | false =>
    have t1 := tk.2 q [] [.inl 0]
    rw [List.append_nil, e2, ← et] at t1
    have t2 := lex_pre PyProof.Rows.itemOrd (.inl 0) (PySem.W.keyToks (enc x))
    rw [t2] at t1
    cases t1
/-- two sorted lists without doubles, of the same items -/
theorem sorted_ext [Alk α] {m n : List α} (hm : m.Pairwise fun a b => dataLe false enc a b = true) (hn : n.Pairwise fun a b => dataLe false enc a b = true) (dm : m.Nodup) (dn : n.Nodup) (h : ∀ x, x ∈ m ↔ x ∈ n) : m = n := by
  refine List.Perm.eq_of_pairwise (le := fun a b => dataLe false enc a b = true) (fun a b _ _ h1 h2 => le_anti h1 h2) hm hn ?_
  exact (List.perm_ext_iff_of_nodup dm dn).mpr h
theorem srt_sorted (xs : List α) : (srt α false xs).Pairwise fun a b => dataLe false enc a b = true := sort_pairwise le_total xs
theorem srt_nodup {xs : List α} (h : xs.Nodup) : (srt α false xs).Nodup := (List.mergeSort_perm xs _).nodup_iff.mpr h
end
/-! ### masks and sets -/
theorem bits_lt {β : Type} (f : β → Bool) (xs : List β) : ((((bits xs.length).zip xs).filter fun p => f p.2).map Prod.fst).sum < 2 ^ xs.length := by
  have h1 := zip_sum_le (fun p : Nat × β => f p.2) (bits xs.length) xs
  have h2 := bits_sum xs.length
  omega
/-- the mask of the items with f -/
def sb {β : Type} (f : β → Bool) (xs : List β) : Nat := ((((bits xs.length).zip xs).filter fun p => f p.2).map Prod.fst).sum
theorem sb_lt {β : Type} (f : β → Bool) (xs : List β) : sb f xs < 2 ^ xs.length := bits_lt f xs
theorem sb_snoc {β : Type} (f : β → Bool) (xs : List β) (x : β) : sb f (xs ++ [x]) = sb f xs + if f x = true then 2 ^ xs.length else 0 := by
  unfold sb
  rw [List.length_append, List.length_singleton, bits_succ, List.zip_append (by rw [bits_len]), List.filter_append, List.map_append, List.sum_append]
  congr 1
  by_cases h : f x = true <;> simp [h]
theorem and_pow (m k : Nat) : m &&& 2 ^ k = if m.testBit k = true then 2 ^ k else 0 := Nat.eq_of_testBit_eq fun i => by
  rw [Nat.testBit_and, Nat.testBit_two_pow]
  by_cases e : k = i
  · subst e
    cases h : m.testBit k with
    | true => rw [if_pos rfl, Nat.testBit_two_pow]; simp
    | false => rw [if_neg Bool.false_ne_true]; simp
  · split
    · rw [Nat.testBit_two_pow]; simp [e]
    · simp [e]
theorem mem_snoc (xs : List Bd) (x : Bd) (m : Nat) : mem (xs ++ [x]) m = mem xs m ++ if m.testBit xs.length = true then [x] else [] := by
  unfold mem
  rw [List.length_append, List.length_singleton, bits_succ, List.zip_append (by rw [bits_len]), List.filter_append, List.map_append]
  congr 1
  have e : decide (m &&& 2 ^ xs.length ≠ 0) = m.testBit xs.length := by
    rw [and_pow]
    cases h : m.testBit xs.length with
    | true =>
      have : 2 ^ xs.length ≠ 0 := Nat.ne_of_gt (Nat.two_pow_pos _)
      simp [this]
    | false => simp
  show (List.filter (fun p : Bd × Nat => decide (m &&& p.2 ≠ 0)) [(x, 2 ^ xs.length)]).map Prod.fst = _
  rw [List.filter_cons]
  dsimp only
  rw [e]
  cases m.testBit xs.length <;> rfl
theorem mem_congr {m m' : Nat} : ∀ xs : List Bd, (∀ i, i < xs.length → m.testBit i = m'.testBit i) → mem xs m = mem xs m' := fun xs => by
  refine snoc_ind (P := fun xs => (∀ i, i < xs.length → m.testBit i = m'.testBit i) → mem xs m = mem xs m') (fun _ => rfl) (fun xs x ih h => ?_) xs
  rw [mem_snoc, mem_snoc, ih fun i hi => h i (by rw [List.length_append]; omega), h xs.length (by rw [List.length_append, List.length_singleton]; omega)]
theorem tb_add {a n i : Nat} (h : a < 2 ^ n) : (a + 2 ^ n).testBit i = if i = n then true else if i < n then a.testBit i else false := by
  rw [Nat.add_comm]
  by_cases e : i = n
  · subst e
    rw [if_pos rfl, Nat.testBit_two_pow_add_eq, Nat.testBit_lt_two_pow h]; rfl
  · rw [if_neg e]
    by_cases l : i < n
    · rw [if_pos l, Nat.testBit_two_pow_add_gt l]
    · rw [if_neg l]
      have : 2 ^ n + a < 2 ^ i := by
        have h2 : 2 ^ (n + 1) ≤ 2 ^ i := Nat.pow_le_pow_right (by decide) (by omega)
        rw [Nat.pow_succ] at h2; omega
      exact Nat.testBit_lt_two_pow this
/-- the set of a mask of items with f -/
theorem mem_sb (f : Bd → Bool) (xs : List Bd) : mem xs (sb f xs) = xs.filter f := by
  refine snoc_ind (P := fun xs => mem xs (sb f xs) = xs.filter f) rfl (fun xs x ih => ?_) xs
  rw [mem_snoc, List.filter_append, sb_snoc]
  have hlt := sb_lt f xs
  by_cases h : f x = true
  · rw [if_pos h, tb_add hlt, if_pos rfl, if_pos rfl, mem_congr (m' := sb f xs) xs fun i hi => by rw [tb_add hlt, if_neg (by omega), if_pos hi], ih]
    simp [h]
  · rw [if_neg h, Nat.add_zero, Nat.testBit_lt_two_pow hlt, if_neg Bool.false_ne_true, ih]
    simp [h]
theorem tb_sb {β : Type} (f : β → Bool) (xs : List β) : ∀ i, (sb f xs).testBit i = match xs[i]? with | some x => f x | none => false := by
  refine snoc_ind (P := fun xs => ∀ i, (sb f xs).testBit i = match xs[i]? with | some x => f x | none => false) (fun i => by simp [sb, bits]) (fun xs x ih i => ?_) xs
  rw [sb_snoc]
  have hlt := sb_lt f xs
  by_cases h : f x = true
  · rw [if_pos h, tb_add hlt]
    by_cases e : i = xs.length
    · subst e; simp [h]
    · rw [if_neg e]
      by_cases l : i < xs.length
      · rw [if_pos l, ih, List.getElem?_append_left l]
      · rw [if_neg l, List.getElem?_eq_none (by simp; omega)]
  · rw [if_neg h, Nat.add_zero, ih]
    by_cases l : i < xs.length
    · rw [List.getElem?_append_left l]
    · rw [List.getElem?_eq_none (by omega)]
      by_cases e : i = xs.length
      · subst e; simp [h]
      · rw [List.getElem?_eq_none (by simp; omega)]
/-- who is in the set -/
theorem in_mem {b : Bd} {xs : List Bd} {m : Nat} : b ∈ mem xs m ↔ ∃ i, xs[i]? = some b ∧ m.testBit i = true := by
  refine snoc_ind (P := fun xs => b ∈ mem xs m ↔ ∃ i, xs[i]? = some b ∧ m.testBit i = true) (by simp [mem]) (fun xs x ih => ?_) xs
  rw [mem_snoc, List.mem_append, ih]
  constructor
  · rintro (⟨i, h1, h2⟩ | h)
    · exact ⟨i, by rw [List.getElem?_append_left (List.getElem?_eq_some_iff.mp h1).1]; exact h1, h2⟩
    · split at h
      · rename_i ht
        exact ⟨xs.length, by rw [List.mem_singleton.mp h]; simp, ht⟩
      · cases h
  · rintro ⟨i, h1, h2⟩
    by_cases l : i < xs.length
    · rw [List.getElem?_append_left l] at h1; exact .inl ⟨i, h1, h2⟩
    · have hi := (List.getElem?_eq_some_iff.mp h1).1
      rw [List.length_append, List.length_singleton] at hi
      have : i = xs.length := by omega
      subst this
      simp at h1
      right
      rw [if_pos h2, h1]; simp
theorem nd_ix {xs : List Bd} (nd : xs.Nodup) {i j : Nat} {b : Bd} (h1 : xs[i]? = some b) (h2 : xs[j]? = some b) : i = j := by
  obtain ⟨a1, b1⟩ := List.getElem?_eq_some_iff.mp h1
  obtain ⟨a2, b2⟩ := List.getElem?_eq_some_iff.mp h2
  exact (List.getElem_inj nd).mp (b1.trans b2.symm)
theorem in_mem_ix {xs : List Bd} (nd : xs.Nodup) {i : Nat} {b : Bd} {m : Nat} (h : xs[i]? = some b) : b ∈ mem xs m ↔ m.testBit i = true := by
  rw [in_mem]
  exact ⟨fun ⟨j, h1, h2⟩ => by rw [nd_ix nd h h1]; exact h2, fun h2 => ⟨i, h, h2⟩⟩
theorem and_eq {m o n : Nat} (h : m < 2 ^ n) : m &&& o = m ↔ ∀ i, i < n → m.testBit i = true → o.testBit i = true := by
  constructor
  · intro e i _ hm
    have h2 : (m &&& o).testBit i = m.testBit i := by rw [e]
    rw [Nat.testBit_and, hm, Bool.true_and] at h2
    exact h2
  · intro g
    apply Nat.eq_of_testBit_eq
    intro i
    rw [Nat.testBit_and]
    by_cases hi : i < n
    · cases hm : m.testBit i with
      | false => rfl
      | true => rw [g i hi hm]; rfl
    · rw [Nat.testBit_lt_two_pow (Nat.lt_of_lt_of_le h (Nat.pow_le_pow_right (by decide) (by omega)))]; rfl
theorem wthn_iff {x y : List Bd} : wthn x y = true ↔ ∀ b ∈ x, b ∈ y := by
  unfold wthn; rw [List.all_eq_true]
  exact ⟨fun h b hb => of_decide_eq_true (h b hb), fun h b hb => decide_eq_true (h b hb)⟩
theorem wthn_mem {xs : List Bd} (nd : xs.Nodup) {m o : Nat} (h : m < 2 ^ xs.length) : wthn (mem xs m) (mem xs o) = true ↔ m &&& o = m := by
  rw [wthn_iff, and_eq h]
  constructor
  · intro g i hi hm
    exact (in_mem_ix nd (List.getElem?_eq_getElem hi)).mp (g _ ((in_mem_ix nd (List.getElem?_eq_getElem hi)).mpr hm))
  · intro g b hb
    obtain ⟨i, h1, h2⟩ := in_mem.mp hb
    exact in_mem.mpr ⟨i, h1, g i (List.getElem?_eq_some_iff.mp h1).1 h2⟩
theorem mem_inj {xs : List Bd} (nd : xs.Nodup) {m o : Nat} (hm : m < 2 ^ xs.length) (ho : o < 2 ^ xs.length) (h : mem xs m = mem xs o) : m = o := by
  have h1 : m &&& o = m := (wthn_mem nd hm).mp (by rw [h]; exact wthn_iff.mpr fun _ z => z)
  have h2 : o &&& m = o := (wthn_mem nd ho).mp (by rw [h]; exact wthn_iff.mpr fun _ z => z)
  rw [← h1, Nat.and_comm, h2]
/-! ### the greatest -/
theorem mem_grt {ms : List Nat} {m : Nat} : m ∈ grt ms ↔ m ∈ ms ∧ ∀ o ∈ ms, ¬ (m ≠ o ∧ m &&& o = m) := by
  unfold grt
  rw [List.mem_filter, srt_mem, Bool.not_eq_true', List.any_eq_false]
  refine and_congr_right fun _ => forall_congr' fun o => imp_congr_right fun _ => ?_
  rw [Bool.and_eq_true, decide_eq_true_iff, decide_eq_true_iff]
theorem grt_sorted (ms : List Nat) : (grt ms).Pairwise fun a b => dataLe false enc a b = true := (srt_sorted ms).filter _
theorem grt_nodup {ms : List Nat} (h : ms.Nodup) : (grt ms).Nodup := (srt_nodup h).filter _
theorem domd_iff {sets : List (List Bd)} {one : List Bd} : domd sets one = [] ↔ ∀ o ∈ sets, ¬ (o ≠ one ∧ wthn one o = true) := by
  unfold domd
  rw [List.map_id, List.filter_eq_nil_iff]
  refine forall_congr' fun o => imp_congr_right fun _ => ?_
  rw [Bool.and_eq_true, decide_eq_true_iff]
theorem lgr_gen (sets : List (List Bd)) : ∀ xs acc : List (List Bd), acc.Nodup → (acc ++ xs).Pairwise (fun a b => dataLe false enc a b = true) →
    (xs.foldl (fun acc one => if notIn one acc && decide (domd sets one = []) then acc ++ [one] else acc) acc).Nodup ∧
    (xs.foldl (fun acc one => if notIn one acc && decide (domd sets one = []) then acc ++ [one] else acc) acc).Pairwise (fun a b => dataLe false enc a b = true) ∧
    ∀ s, s ∈ xs.foldl (fun acc one => if notIn one acc && decide (domd sets one = []) then acc ++ [one] else acc) acc ↔ s ∈ acc ∨ (s ∈ xs ∧ domd sets s = [])
  | [], acc, nd, pw => ⟨nd, by rw [List.append_nil] at pw; exact pw, fun s => by simp⟩
  | x :: xs, acc, nd, pw => by
    rw [List.foldl_cons]
    have pw2 : (acc ++ xs).Pairwise (fun a b => dataLe false enc a b = true) := pw.sublist (List.Sublist.append (List.Sublist.refl _) (List.sublist_cons_self _ _))
    by_cases c : (notIn x acc && decide (domd sets x = [])) = true
    · rw [if_pos c]
      have c1 := notIn_iff.mp (Bool.and_eq_true_iff.mp c).1
      have c2 := of_decide_eq_true (Bool.and_eq_true_iff.mp c).2
      obtain ⟨h1, h2, h3⟩ := lgr_gen sets xs (acc ++ [x]) (List.nodup_append.mpr ⟨nd, by simp, fun a ha b hb e => by rw [List.mem_singleton.mp hb] at e; rw [e] at ha; exact c1 ha⟩) (by rw [List.append_assoc]; exact pw)
      refine ⟨h1, h2, fun s => (h3 s).trans ?_⟩
      rw [List.mem_append, List.mem_singleton, List.mem_cons]
      constructor
      · rintro ((h | h) | h)
        · exact .inl h
        · exact .inr ⟨.inl h, by rw [h]; exact c2⟩
        · exact .inr ⟨.inr h.1, h.2⟩
      · rintro (h | ⟨h | h, h'⟩)
        · exact .inl (.inl h)
        · exact .inl (.inr h)
        · exact .inr ⟨h, h'⟩
    · rw [if_neg c]
      obtain ⟨h1, h2, h3⟩ := lgr_gen sets xs acc nd pw2
      refine ⟨h1, h2, fun s => (h3 s).trans ?_⟩
      rw [List.mem_cons]
      constructor
      · rintro (h | h)
        · exact .inl h
        · exact .inr ⟨.inr h.1, h.2⟩
      · rintro (h | ⟨h | h, h'⟩)
        · exact .inl h
        · subst h
          by_cases hin : s ∈ acc
          · exact .inl hin
          · exact absurd (Bool.and_eq_true_iff.mpr ⟨notIn_iff.mpr hin, decide_eq_true h'⟩) c
        · exact .inr ⟨h, h'⟩
theorem mem_lgr {sets : List (List Bd)} {s : List Bd} : s ∈ lgr sets ↔ s ∈ sets ∧ ∀ o ∈ sets, ¬ (o ≠ s ∧ wthn s o = true) := by
  have h := (lgr_gen sets (srt (List Bd) false sets) [] List.nodup_nil (by rw [List.nil_append]; exact srt_sorted sets)).2.2 s
  rw [← domd_iff]
  refine h.trans ?_
  rw [srt_mem]
  simp
theorem lgr_nodup (sets : List (List Bd)) : (lgr sets).Nodup := (lgr_gen sets (srt (List Bd) false sets) [] List.nodup_nil (by rw [List.nil_append]; exact srt_sorted sets)).1
theorem lgr_sorted (sets : List (List Bd)) : (lgr sets).Pairwise fun a b => dataLe false enc a b = true := (lgr_gen sets (srt (List Bd) false sets) [] List.nodup_nil (by rw [List.nil_append]; exact srt_sorted sets)).2.1
theorem map_nodup {xs : List Bd} (nd : xs.Nodup) {ms : List Nat} (h : NdLt (2 ^ xs.length) ms) : (ms.map (mem xs)).Nodup := by
  unfold List.Nodup
  rw [List.pairwise_map]
  exact List.Pairwise.imp_of_mem (fun ha hb hne e => hne (mem_inj nd (h.lt _ ha) (h.lt _ hb) e)) h.nd
/-- the greatest of masks, of sets -/
theorem lgr_grt {xs : List Bd} (nd : xs.Nodup) {ms : List Nat} {sets : List (List Bd)} (hm : NdLt (2 ^ xs.length) ms) (hs : ∀ s, s ∈ sets ↔ ∃ m ∈ ms, s = mem xs m) : lgr sets = srt (List Bd) false ((grt ms).map (mem xs)) := by
  have hg : NdLt (2 ^ xs.length) (grt ms) := ⟨grt_nodup hm.nd, fun x hx => hm.lt x (mem_grt.mp hx).1⟩
  refine sorted_ext (lgr_sorted _) (srt_sorted _) (lgr_nodup _) (srt_nodup (map_nodup nd hg)) fun s => ?_
  rw [mem_lgr, srt_mem, List.mem_map]
  constructor
  · rintro ⟨h1, h2⟩
    obtain ⟨m, hm1, rfl⟩ := (hs s).mp h1
    refine ⟨m, mem_grt.mpr ⟨hm1, fun o ho ⟨hne, he⟩ => ?_⟩, rfl⟩
    exact h2 (mem xs o) ((hs _).mpr ⟨o, ho, rfl⟩) ⟨fun e => hne (mem_inj nd (hm.lt _ hm1) (hm.lt _ ho) e.symm), (wthn_mem nd (hm.lt _ hm1)).mpr he⟩
  · rintro ⟨m, hm1, rfl⟩
    obtain ⟨g1, g2⟩ := mem_grt.mp hm1
    refine ⟨(hs _).mpr ⟨m, g1, rfl⟩, fun o ho ⟨hne, hw⟩ => ?_⟩
    obtain ⟨o', ho', rfl⟩ := (hs o).mp ho
    exact g2 o' ho' ⟨fun e => hne (by rw [e]), (wthn_mem nd (hm.lt _ g1)).mp hw⟩
end Pk

/-! The plain law of k81: one round. -/
namespace Pk
open PySem L2
open Enc (enc dep)
/-! ### the states -/
theorem putN_keys {α ν : Type} [DecidableEq α] {st : List (α × ν)} {k x : α} {v : ν} : x ∈ (putN st k v).map Prod.fst ↔ x ∈ st.map Prod.fst ∨ x = k := by
  unfold putN
  split
  · rename_i h
    exact ⟨.inl, fun z => z.elim id fun e => by rw [e]; exact h⟩
  · rw [List.map_append, List.mem_append]; simp
section
variable {bs : List Nat} {rooms : List Int} {level : List Nat}
theorem inner_keys (w : Int) (h : List Int) (ms : List Nat) (x : List Int) : ∀ (level : List Nat) (acc : List (List Int × List Nat)), x ∈ (inner bs rooms w h ms acc level).map Prod.fst ↔ x ∈ acc.map Prod.fst ∨ ∃ m ∈ level, x = nxt bs rooms h w m
  | [], acc => by simp [inner]
  | m :: level, acc => by
    show x ∈ (inner bs rooms w h ms (putN acc _ _) level).map Prod.fst ↔ _
    rw [inner_keys w h ms x level, putN_keys]
    simp only [List.mem_cons, exists_eq_or_imp, or_assoc]
theorem later_keys (w : Int) (x : List Int) : ∀ (st acc : List (List Int × List Nat)), x ∈ (st.foldl (fun acc p => inner bs rooms w p.1 p.2 acc level) acc).map Prod.fst ↔ x ∈ acc.map Prod.fst ∨ ∃ h ∈ st.map Prod.fst, ∃ m ∈ level, x = nxt bs rooms h w m
  | [], acc => by simp
  | p :: st, acc => by
    rw [List.foldl_cons, later_keys w x st, inner_keys]
    simp only [List.map_cons, List.mem_cons, exists_eq_or_imp, or_assoc]
def run (bs : List Nat) (rooms : List Int) (n : Nat) (ps : List (Int × Nat)) : List Int := ps.foldl (fun h p => nxt bs rooms h p.1 p.2) (List.replicate n 0)
theorem run_snoc (n : Nat) (ps : List (Int × Nat)) (p : Int × Nat) : run bs rooms n (ps ++ [p]) = nxt bs rooms (run bs rooms n ps) p.1 p.2 := by unfold run; rw [List.foldl_append]; rfl
theorem snoc_of {α : Type} {xs : List α} (h : xs ≠ []) : ∃ ys y, xs = ys ++ [y] := ⟨xs.dropLast, xs.getLast h, (List.dropLast_concat_getLast h).symm⟩
theorem states_keys (n : Nat) (x : List Int) (ws : List Int) : x ∈ (statesOf bs rooms level n ws).map Prod.fst ↔ ∃ ps : List (Int × Nat), ps.map Prod.fst = ws ∧ (∀ p ∈ ps, p.2 ∈ level) ∧ x = run bs rooms n ps := by
  refine snoc_ind (P := fun ws => ∀ x, x ∈ (statesOf bs rooms level n ws).map Prod.fst ↔ ∃ ps : List (Int × Nat), ps.map Prod.fst = ws ∧ (∀ p ∈ ps, p.2 ∈ level) ∧ x = run bs rooms n ps) (fun x => ?_) (fun ws w ih x => ?_) ws x
  · constructor
    · intro h
      have : x = List.replicate n 0 := by simpa [statesOf] using h
      exact ⟨[], rfl, by simp, this⟩
    · rintro ⟨ps, h1, _, h3⟩
      have : ps = [] := by simpa using h1
      subst this
      rw [h3]; simp [statesOf, run]
  · have e : statesOf bs rooms level n (ws ++ [w]) = laterOf bs rooms level (statesOf bs rooms level n ws) w := by unfold statesOf; rw [List.foldl_append]; rfl
    rw [e]
    unfold laterOf
    rw [later_keys]
    constructor
    · rintro (h | ⟨h, h1, m, h2, rfl⟩)
      · cases h
      · obtain ⟨ps, g1, g2, rfl⟩ := (ih h).mp h1
        refine ⟨ps ++ [(w, m)], by rw [List.map_append, g1]; rfl, fun p hp => ?_, by rw [run_snoc]⟩
        rcases List.mem_append.mp hp with hp | hp
        · exact g2 p hp
        · rw [List.mem_singleton.mp hp]; exact h2
    · rintro ⟨ps, g1, g2, rfl⟩
      obtain ⟨qs, p, rfl⟩ := snoc_of (xs := ps) (fun z => by rw [z] at g1; simp at g1)
      rw [List.map_append] at g1
      have g3 := List.append_inj' g1 rfl
      have g4 : p.1 = w := by simpa using g3.2
      refine .inr ⟨run bs rooms n qs, (ih _).mpr ⟨qs, g3.1, fun p hp => g2 p (List.mem_append_left _ hp), rfl⟩, p.2, g2 p (by simp), by rw [run_snoc, g4]⟩
theorem found_keys (st : List (List Int × List Nat)) (k : Nat) : k ∈ (foundOf bs rooms st).map Prod.fst ↔ ∃ h ∈ st.map Prod.fst, k = wholeOf bs rooms h := by
  refine snoc_ind (P := fun st => k ∈ (foundOf bs rooms st).map Prod.fst ↔ ∃ h ∈ st.map Prod.fst, k = wholeOf bs rooms h) (by simp [foundOf]) (fun st p ih => ?_) st
  have : foundOf bs rooms (st ++ [p]) = putN (foundOf bs rooms st) (wholeOf bs rooms p.1) p.2 := by unfold foundOf; rw [List.foldl_append]; rfl
  rw [this, putN_keys, ih]
  simp only [List.map_append, List.mem_append, List.map_cons, List.map_nil, List.mem_singleton, or_and_right, exists_or, exists_eq_left]
end
theorem fold_keys {ν : Type} (k : Nat) : ∀ (xs : List (Nat × ν)) (acc : List (Nat × Unit)), k ∈ (xs.foldl (fun acc p => putN acc p.1 ()) acc).map Prod.fst ↔ k ∈ acc.map Prod.fst ∨ k ∈ xs.map Prod.fst
  | [], acc => by simp
  | x :: xs, acc => by
    rw [List.foldl_cons, fold_keys k xs, putN_keys]
    simp only [List.map_cons, List.mem_cons, or_assoc]
theorem ways_keys {bds : List Bd} {last : List Nat} (k : Nat) (cs : List (List Int × List Int)) : k ∈ (waysOf cs bds last).map Prod.fst ↔ ∃ c ∈ cs, k ∈ (sessOf c.1 (roomsB c bds) last bds.length).map Prod.fst := by
  refine snoc_ind (P := fun cs => k ∈ (waysOf cs bds last).map Prod.fst ↔ ∃ c ∈ cs, k ∈ (sessOf c.1 (roomsB c bds) last bds.length).map Prod.fst) (by simp [waysOf]) (fun cs c ih => ?_) cs
  have : waysOf (cs ++ [c]) bds last = wayStep last bds (waysOf cs bds last) c := by unfold waysOf; rw [List.foldl_append]; rfl
  rw [this]
  unfold wayStep
  rw [fold_keys, ih]
  simp only [List.mem_append, List.mem_singleton, or_and_right, exists_or, exists_eq_left]
theorem next_masks {bds : List Bd} {last : List Nat} {cs : List (List Int × List Int)} (k : Nat) : k ∈ difs (last ++ (waysOf cs bds last).map Prod.fst) ↔ k ∈ last ∨ ∃ c ∈ cs, ∃ ps : List (Int × Nat), ps.map Prod.fst = c.1 ∧ (∀ p ∈ ps, p.2 ∈ last) ∧ k = wholeOf (bits bds.length) (roomsB c bds) (run (bits bds.length) (roomsB c bds) bds.length ps) := by
  rw [difs_mem, List.mem_append, ways_keys]
  refine or_congr_right ?_
  refine exists_congr fun c => and_congr_right fun _ => ?_
  unfold sessOf
  rw [found_keys]
  constructor
  · rintro ⟨h, h1, rfl⟩
    obtain ⟨ps, g1, g2, rfl⟩ := (states_keys _ _ _).mp h1
    exact ⟨ps, g1, g2, rfl⟩
  · rintro ⟨ps, g1, g2, rfl⟩
    exact ⟨_, (states_keys _ _ _).mpr ⟨ps, g1, g2, rfl⟩, rfl⟩
/-! ### what is missed -/
def capv (s r : Int) : Int := if r + 1 < s then r + 1 else s
theorem capv_add {s r d : Int} (h : 0 ≤ d) : capv (capv s r + d) r = capv (s + d) r := by
  unfold capv
  repeat' split
  all_goals omega
def missN (i : Nat) (ps : List (Int × Nat)) : Int := (ps.map fun p => if p.2.testBit i = true then 0 else p.1).sum
theorem missN_snoc (i : Nat) (ps : List (Int × Nat)) (p : Int × Nat) : missN i (ps ++ [p]) = missN i ps + if p.2.testBit i = true then 0 else p.1 := by unfold missN; simp
theorem run_len {n : Nat} {rooms : List Int} (hr : rooms.length = n) (ps : List (Int × Nat)) : (run (bits n) rooms n ps).length = n := by
  refine snoc_ind (P := fun ps => (run (bits n) rooms n ps).length = n) (by simp [run]) (fun ps p ih => ?_) ps
  rw [run_snoc]; exact nxt_len (bits_len n) hr ih
theorem nxt_get {n : Nat} {rooms h : List Int} {w : Int} {m i : Nat} {x r : Int} (hi : i < n) (h1 : h[i]? = some x) (h2 : rooms[i]? = some r) : (nxt (bits n) rooms h w m)[i]? = some (capv (x + w * if decide (m &&& 2 ^ i = 0) = true then 1 else 0) r) := by
  unfold nxt cap
  rw [List.getElem?_map]
  have e : ((mis m h w (bits n)).zip rooms)[i]? = some (x + w * (if decide (m &&& 2 ^ i = 0) = true then 1 else 0), r) := by
    rw [List.getElem?_zip_eq_some]
    refine ⟨?_, h2⟩
    unfold mis
    rw [List.getElem?_map]
    have : (h.zip (bits n))[i]? = some (x, 2 ^ i) := by rw [List.getElem?_zip_eq_some]; exact ⟨h1, bits_get hi⟩
    rw [this]; rfl
  rw [e]; rfl
theorem run_get {n : Nat} {rooms : List Int} {i : Nat} {r : Int} (hi : i < n) (h2 : rooms[i]? = some r) (hr : 0 ≤ r) (ps : List (Int × Nat)) : (∀ p ∈ ps, 0 ≤ p.1) → (run (bits n) rooms n ps)[i]? = some (capv (missN i ps) r) := by
  refine snoc_ind (P := fun ps => (∀ p ∈ ps, 0 ≤ p.1) → (run (bits n) rooms n ps)[i]? = some (capv (missN i ps) r)) (fun _ => ?_) (fun ps p ih hw => ?_) ps
  · have : capv (missN i []) r = 0 := by unfold capv missN; simp; omega
    rw [this]; unfold run; simp [hi]
  · rw [run_snoc, nxt_get hi (ih fun q hq => hw q (List.mem_append_left _ hq)) h2, missN_snoc]
    have e : p.1 * (if decide (p.2 &&& 2 ^ i = 0) = true then 1 else 0) = if p.2.testBit i = true then 0 else p.1 := by
      rw [and_pow]
      cases p.2.testBit i with
      | true =>
        have : ¬ 2 ^ i = 0 := Nat.ne_of_gt (Nat.two_pow_pos _)
        simp [this]
      | false => simp
    rw [e, capv_add]
    have := hw p (by simp)
    split <;> omega
theorem filt_zip {α β : Type} (f : β → Bool) : ∀ (X : List α) (L : List β), ((X.zip L).filter fun p => f p.2).map Prod.fst = ((X.zip (L.map f)).filter Prod.snd).map Prod.fst
  | [], _ => by simp
  | _ :: _, [] => by simp
  | x :: X, l :: L => by
    have ih := filt_zip f X L
    simp only [List.zip_cons_cons, List.map_cons, List.filter_cons]
    split <;> simp [ih]
theorem filt_zip2 {α β : Type} (g : α × β → Bool) : ∀ (X : List α) (L : List β), ((X.zip L).filter g).map Prod.fst = ((X.zip (List.zipWith (fun a b => g (a, b)) X L)).filter Prod.snd).map Prod.fst
  | [], _ => by simp
  | _ :: _, [] => by simp
  | x :: X, l :: L => by
    have ih := filt_zip2 g X L
    simp only [List.zip_cons_cons, List.zipWith_cons_cons, List.filter_cons]
    split <;> simp [ih]
theorem mem_sbL {β : Type} (f : β → Bool) : ∀ (k : Nat) (xs : List Bd) (L : List β), xs.length = k → L.length = k → mem xs (sb f L) = ((xs.zip L).filter fun p => f p.2).map Prod.fst
  | 0, xs, L, h1, h2 => by
    have : xs = [] := List.length_eq_zero_iff.mp h1
    subst this; simp [mem]
  | k + 1, xs, L, h1, h2 => by
    obtain ⟨ys, y, rfl⟩ := snoc_of (xs := xs) (fun z => by rw [z] at h1; cases h1)
    obtain ⟨M, z, rfl⟩ := snoc_of (xs := L) (fun z => by rw [z] at h2; cases h2)
    have h1' : ys.length = k := by simpa using h1
    have h2' : M.length = k := by simpa using h2
    rw [List.zip_append (by omega), List.filter_append, List.map_append, mem_snoc, sb_snoc, ← mem_sbL f k ys M h1' h2']
    have hlt := sb_lt f M
    rw [h1', h2']
    rw [h2'] at hlt
    by_cases h : f z = true
    · rw [if_pos h, tb_add hlt, if_pos rfl, if_pos rfl, mem_congr (m' := sb f M) ys fun i hi => by rw [tb_add hlt, if_neg (by omega), if_pos (by omega)]]
      simp [h]
    · rw [if_neg h, Nat.add_zero, Nat.testBit_lt_two_pow hlt, if_neg Bool.false_ne_true]
      simp [h]
theorem rng_snoc (n : Nat) : rng 0 (n + 1) = rng 0 n ++ [(n : Int)] := by unfold rng; rw [List.range_succ, List.map_append]; simp
theorem miss_snoc {ws : List Int} {ss : List (List Bd)} (h : ws.length = ss.length) (w : Int) (s : List Bd) (b : Bd) : missSum (ws ++ [w]) ⟨ss ++ [s]⟩ b = missSum ws ⟨ss⟩ b + if b ∈ s then 0 else w := by
  unfold missSum
  show (List.map _ (List.filter _ (rng 0 (ss ++ [s]).length))).sum = _
  rw [List.length_append, List.length_singleton, rng_snoc, List.filter_append, List.map_append, List.sum_append]
  congr 1
  · have inr : ∀ k ∈ rng 0 ss.length, k.toNat < ss.length := fun k hk => by
      unfold rng at hk
      obtain ⟨i, hi, rfl⟩ := List.mem_map.mp hk
      rw [List.mem_range] at hi; omega
    have e1 : (rng 0 ss.length).filter (fun k => decide (b ∉ (ss ++ [s]).getD k.toNat [])) = (rng 0 ss.length).filter (fun k => decide (b ∉ ss.getD k.toNat [])) := List.filter_congr fun k hk => by
      rw [List.getD_eq_getElem?_getD, List.getElem?_append_left (inr k hk), ← List.getD_eq_getElem?_getD]
    rw [e1]
    congr 1
    apply List.map_congr_left
    intro k hk
    have := inr k (List.mem_filter.mp hk).1
    rw [List.getD_eq_getElem?_getD, List.getElem?_append_left (by omega), ← List.getD_eq_getElem?_getD]
  · rw [List.filter_cons]
    have e1 : (ss ++ [s]).getD ((ss.length : Nat) : Int).toNat [] = s := by simp [List.getD_eq_getElem?_getD]
    have e2 : (ws ++ [w]).getD ((ss.length : Nat) : Int).toNat 0 = w := by simp [List.getD_eq_getElem?_getD, ← h]
    rw [e1]
    by_cases hb : b ∈ s
    · simp [hb]
    · simp only [hb, not_false_eq_true, decide_true, if_true, List.filter_nil, List.map_cons, List.map_nil, List.sum_cons, List.sum_nil, e2, if_false]; omega
theorem miss_eq {bds : List Bd} (nd : bds.Nodup) {i : Nat} {b : Bd} (hb : bds[i]? = some b) (ps : List (Int × Nat)) : missSum (ps.map Prod.fst) ⟨(ps.map Prod.snd).map (mem bds)⟩ b = missN i ps := by
  refine snoc_ind (P := fun ps => missSum (ps.map Prod.fst) ⟨(ps.map Prod.snd).map (mem bds)⟩ b = missN i ps) (by simp [missSum, missN, rng]) (fun ps p ih => ?_) ps
  rw [List.map_append, List.map_append, List.map_append]
  show missSum (ps.map Prod.fst ++ [p.1]) ⟨(ps.map Prod.snd).map (mem bds) ++ [mem bds p.2]⟩ b = _
  rw [miss_snoc (by simp), ih, missN_snoc]
  congr 1
  have := in_mem_ix nd hb (m := p.2)
  by_cases h : p.2.testBit i = true
  · rw [if_pos h, if_pos (this.mpr h)]
  · rw [if_neg h, if_neg fun z => h (this.mp z)]
/-- a seating of masks makes what the seating of their sets makes -/
theorem some_eq {bds : List Bd} (nd : bds.Nodup) {rooms : List Int} (hr : rooms.length = bds.length) (h0 : ∀ r ∈ rooms, 0 ≤ r) (ps : List (Int × Nat)) (hw : ∀ p ∈ ps, 0 ≤ p.1) :
    mem bds (wholeOf (bits bds.length) rooms (run (bits bds.length) rooms bds.length ps)) = someOf bds rooms (ps.map Prod.fst) ⟨(ps.map Prod.snd).map (mem bds)⟩ := by
  have hl := run_len hr ps
  have hz : ((run (bits bds.length) rooms bds.length ps).zip rooms).length = bds.length := by rw [List.length_zip, hl, hr, Nat.min_self]
  have e : wholeOf (bits bds.length) rooms (run (bits bds.length) rooms bds.length ps) = sb (fun p : Int × Int => decide (p.1 ≤ p.2)) ((run (bits bds.length) rooms bds.length ps).zip rooms) := by
    unfold wholeOf sb; rw [hz]
  rw [e, mem_sbL _ _ bds _ rfl hz, filt_zip (fun p : Int × Int => decide (p.1 ≤ p.2))]
  unfold someOf
  rw [filt_zip2 (fun p : Bd × Int => decide (missSum (ps.map Prod.fst) ⟨(ps.map Prod.snd).map (mem bds)⟩ p.1 ≤ p.2))]
  refine congrArg (fun L => ((bds.zip L).filter Prod.snd).map Prod.fst) ?_
  apply List.ext_getElem?
  intro i
  by_cases hi : i < bds.length
  · have hb : bds[i]? = some bds[i] := List.getElem?_eq_getElem hi
    have hri : rooms[i]? = some (rooms[i]'(by omega)) := List.getElem?_eq_getElem (by omega)
    have hrun := run_get (n := bds.length) hi hri (h0 _ (List.getElem_mem _)) ps hw
    have hzz : ((run (bits bds.length) rooms bds.length ps).zip rooms)[i]? = some (capv (missN i ps) (rooms[i]'(by omega)), rooms[i]'(by omega)) := by rw [List.getElem?_zip_eq_some]; exact ⟨hrun, hri⟩
    rw [List.getElem?_map, hzz, List.getElem?_zipWith, hb, hri]
    show some _ = some _
    congr 1
    show decide (capv _ _ ≤ _) = decide (missSum _ _ _ ≤ _)
    rw [miss_eq nd hb]
    have : capv (missN i ps) (rooms[i]'(by omega)) ≤ rooms[i]'(by omega) ↔ missN i ps ≤ rooms[i]'(by omega) := by unfold capv; split <;> omega
    exact decide_eq_decide.mpr this
  · rw [List.getElem?_eq_none (by rw [List.length_map, hz]; omega), List.getElem?_eq_none (by rw [List.length_zipWith]; omega)]
end Pk

/-! The plain law of k81: all rounds. -/
namespace Pk
open PySem L2
open PySem.W (dataLe)
open Enc (enc dep)
theorem seats_iff {α : Type} (rows : List α) : ∀ n s, s ∈ seats rows n ↔ s.l.length = n ∧ ∀ x ∈ s.l, x ∈ rows
  | 0, s => by
    unfold seats
    rw [List.mem_singleton]
    constructor
    · rintro rfl; exact ⟨rfl, fun x hx => by cases hx⟩
    · rintro ⟨h, _⟩
      cases s with
      | mk l => have : l = [] := List.length_eq_zero_iff.mp h; subst this; rfl
  | n + 1, s => by
    refine ⟨fun h => seats_each rows (n + 1) s h, fun ⟨h1, h2⟩ => ?_⟩
    cases s with
    | mk l =>
      have h1 : l.length = n + 1 := h1
      obtain ⟨ys, y, rfl⟩ := snoc_of (xs := l) (fun z => by rw [z] at h1; cases h1)
      unfold seats
      rw [List.mem_flatMap]
      exact ⟨⟨ys⟩, (seats_iff rows n ⟨ys⟩).mpr ⟨by simpa using h1, fun x hx => h2 x (List.mem_append_left _ hx)⟩, List.mem_map.mpr ⟨y, h2 y (by simp), rfl⟩⟩
theorem lw_mem {bds : List Bd} {rooms ws : List Int} {x : List Bd} : ∀ (ss : List (Tu (List Bd))) (acc : List (List Bd)), x ∈ (ss.foldl (fun acc s => if notIn (someOf bds rooms ws s) acc = true then acc ++ [someOf bds rooms ws s] else acc) acc) ↔ x ∈ acc ∨ ∃ s ∈ ss, x = someOf bds rooms ws s
  | [], acc => by simp
  | s :: ss, acc => by
    rw [List.foldl_cons, lw_mem ss]
    simp only [List.mem_cons, exists_eq_or_imp, ← or_assoc]
    refine or_congr_left ?_
    split
    · rw [List.mem_append, List.mem_singleton]
    · rename_i h
      have : someOf bds rooms ws s ∈ acc := Decidable.byContradiction fun z => h (notIn_iff.mpr z)
      exact ⟨.inl, fun z => z.elim id fun e => by rw [e]; exact this⟩
theorem lwStep_mem {bds : List Bd} {level : List (List Bd)} {x : List Bd} : ∀ (plans : List (List Int × List Int)) (acc : List (List Bd)), x ∈ plans.foldl (lwStep bds level) acc ↔ x ∈ acc ∨ ∃ p ∈ plans, ∃ s ∈ seats level p.1.length, x = someOf bds (roomsB p bds) p.1 s
  | [], acc => by simp
  | p :: plans, acc => by
    rw [List.foldl_cons, lwStep_mem plans]
    unfold lwStep
    rw [lw_mem]
    simp only [List.mem_cons, exists_eq_or_imp, or_assoc]
/-! ### levels -/
structure Good (n : Nat) (l : List Nat) : Prop where
  nl : NdLt (2 ^ n) l
  so : l.Pairwise fun a b => dataLe false enc a b = true
  an : ∀ m ∈ l, ∀ o ∈ l, m &&& o = m → m = o
theorem good_grt {n : Nat} {ms : List Nat} (h : NdLt (2 ^ n) ms) : Good n (grt ms) :=
  ⟨⟨grt_nodup h.nd, fun x hx => h.lt x (mem_grt.mp hx).1⟩, grt_sorted ms, fun m hm o ho e => Decidable.byContradiction fun hne => (mem_grt.mp hm).2 o (mem_grt.mp ho).1 ⟨hne, e⟩⟩
theorem grt_above {n : Nat} {ms : List Nat} (h : NdLt (2 ^ n) ms) : ∀ (k m : Nat), 2 ^ n - m ≤ k → m ∈ ms → ∃ t ∈ grt ms, m &&& t = m
  | 0, m, hk, hm => by have := h.lt m hm; omega
  | k + 1, m, hk, hm => by
    by_cases hg : ∀ o ∈ ms, ¬ (m ≠ o ∧ m &&& o = m)
    · exact ⟨m, mem_grt.mpr ⟨hm, hg⟩, Nat.and_self m⟩
    · have : ∃ o ∈ ms, m ≠ o ∧ m &&& o = m := Decidable.byContradiction fun z => hg fun o ho c => z ⟨o, ho, c⟩
      obtain ⟨o, ho, hne, he⟩ := this
      have hle : m ≤ o := by rw [← he]; exact Nat.and_le_right
      have hlo := h.lt o ho
      obtain ⟨t, ht, e⟩ := grt_above h k o (by omega) ho
      exact ⟨t, ht, by rw [← he, Nat.and_assoc, e]⟩
structure CsOk (bds : List Bd) (cs : List (List Int × List Int)) : Prop where
  w : ∀ c ∈ cs, ∀ x ∈ c.1, 0 ≤ x
  r : ∀ c ∈ cs, ∀ x ∈ roomsB c bds, 0 ≤ x
  ne : ∀ c ∈ cs, c.1 ≠ []
section
variable {bds : List Bd} {cs : List (List Int × List Int)}
theorem nx_ms {last : List Nat} (g : NdLt (2 ^ bds.length) last) : NdLt (2 ^ bds.length) (difs (last ++ (waysOf cs bds last).map Prod.fst)) := ⟨difs_nodup _, fun x hx => by
  rw [difs_mem, List.mem_append] at hx
  exact hx.elim (g.lt x) ((ways_ndlt cs).lt x)⟩
theorem good_next {last : List Nat} (g : Good bds.length last) : Good bds.length (nextOf cs bds last) := good_grt (nx_ms g.nl)
theorem good_lev0 (rows : List (Tu Int)) : Good bds.length (lev0 rows bds) := good_grt ⟨difs_nodup _, fun x hx => by
  rw [difs_mem] at hx
  obtain ⟨r, _, rfl⟩ := List.mem_map.mp hx
  exact met_lt⟩
def psi (bds : List Bd) (l : List Nat) : List (List Bd) := srt (List Bd) false (l.map (mem bds))
theorem in_psi {l : List Nat} {s : List Bd} : s ∈ psi bds l ↔ ∃ m ∈ l, s = mem bds m := by
  unfold psi
  rw [srt_mem, List.mem_map]
  exact exists_congr fun m => and_congr_right fun _ => eq_comm
theorem psi_inj (nd : bds.Nodup) {l l' : List Nat} (g : Good bds.length l) (g' : Good bds.length l') (h : psi bds l = psi bds l') : l = l' := by
  refine sorted_ext g.so g'.so g.nl.nd g'.nl.nd fun m => ?_
  constructor
  · intro hm
    have : mem bds m ∈ psi bds l' := by rw [← h]; exact in_psi.mpr ⟨m, hm, rfl⟩
    obtain ⟨o, ho, e⟩ := in_psi.mp this
    rw [mem_inj nd (g.nl.lt m hm) (g'.nl.lt o ho) e]; exact ho
  · intro hm
    have : mem bds m ∈ psi bds l := by rw [h]; exact in_psi.mpr ⟨m, hm, rfl⟩
    obtain ⟨o, ho, e⟩ := in_psi.mp this
    rw [mem_inj nd (g'.nl.lt m hm) (g.nl.lt o ho) e]; exact ho
theorem met_sb (r : Tu Int) : metOf bds r = sb (fun b => [b].all (okB r.l)) bds := rfl
theorem lev0_eq (nd : bds.Nodup) (rows : List (Tu Int)) : lgr (lawMet rows bds) = psi bds (lev0 rows bds) := by
  refine lgr_grt nd (ms := difs (rows.map (metOf bds))) ⟨difs_nodup _, fun x hx => ?_⟩ fun s => ?_
  · rw [difs_mem] at hx
    obtain ⟨r, _, rfl⟩ := List.mem_map.mp hx
    exact met_lt
  · unfold lawMet
    rw [List.mem_map]
    constructor
    · rintro ⟨r, hr, rfl⟩
      exact ⟨metOf bds r, (difs_mem _ _).mpr (List.mem_map.mpr ⟨r, hr, rfl⟩), by rw [met_sb, mem_sb, List.map_id]⟩
    · rintro ⟨m, hm, rfl⟩
      rw [difs_mem] at hm
      obtain ⟨r, hr, rfl⟩ := List.mem_map.mp hm
      exact ⟨r, hr, by rw [met_sb, mem_sb, List.map_id]⟩
theorem choose_masks {last : List Nat} : ∀ (ss : List (List Bd)), (∀ s ∈ ss, ∃ m ∈ last, s = mem bds m) → ∃ ms : List Nat, ms.map (mem bds) = ss ∧ ∀ m ∈ ms, m ∈ last
  | [], _ => ⟨[], rfl, by simp⟩
  | s :: ss, h => by
    obtain ⟨m, h1, h2⟩ := h s List.mem_cons_self
    obtain ⟨ms, h3, h4⟩ := choose_masks ss fun x hx => h x (List.mem_cons_of_mem _ hx)
    exact ⟨m :: ms, by rw [List.map_cons, h3, h2], fun x hx => by
      rcases List.mem_cons.mp hx with rfl | hx
      · exact h1
      · exact h4 x hx⟩
theorem next_eq (nd : bds.Nodup) (ok : CsOk bds cs) {last : List Nat} (g : Good bds.length last) : lawNext cs bds (psi bds last) = psi bds (nextOf cs bds last) := by
  refine lgr_grt nd (nx_ms (cs := cs) g.nl) fun s => ?_
  rw [lwStep_mem, in_psi]
  constructor
  · rintro (⟨m, hm, rfl⟩ | ⟨p, hp, t, ht, rfl⟩)
    · exact ⟨m, (next_masks m).mpr (.inl hm), rfl⟩
    · obtain ⟨h1, h2⟩ := (seats_iff _ _ _).mp ht
      obtain ⟨ms, h3, h4⟩ := choose_masks t.l fun s hs => in_psi.mp (h2 s hs)
      have hlen : ms.length = p.1.length := by rw [← h1, ← h3, List.length_map]
      have e1 : (p.1.zip ms).map Prod.fst = p.1 := List.map_fst_zip (by omega)
      have e2 : (p.1.zip ms).map Prod.snd = ms := List.map_snd_zip (by omega)
      have e := some_eq nd (rooms := roomsB p bds) (by unfold roomsB; rw [List.length_map]) (ok.r p hp) (p.1.zip ms) fun q hq => ok.w p hp q.1 (List.of_mem_zip (a := q.1) (b := q.2) hq).1
      rw [e1, e2, h3] at e
      refine ⟨_, (next_masks _).mpr (.inr ⟨p, hp, p.1.zip ms, e1, fun q hq => h4 q.2 (List.of_mem_zip (a := q.1) (b := q.2) hq).2, rfl⟩), ?_⟩
      rw [e]
  · rintro ⟨m, hm, rfl⟩
    rcases (next_masks m).mp hm with hm | ⟨p, hp, ps, h1, h2, rfl⟩
    · exact .inl ⟨m, hm, rfl⟩
    · have e := some_eq nd (rooms := roomsB p bds) (by unfold roomsB; rw [List.length_map]) (ok.r p hp) ps fun q hq => ok.w p hp q.1 (by rw [← h1]; exact List.mem_map.mpr ⟨q, hq, rfl⟩)
      rw [h1] at e
      refine .inr ⟨p, hp, ⟨(ps.map Prod.snd).map (mem bds)⟩, (seats_iff _ _ _).mpr ⟨by show ((ps.map Prod.snd).map (mem bds)).length = _; rw [← h1]; simp, fun x hx => ?_⟩, e⟩
      obtain ⟨m, hm, rfl⟩ := List.mem_map.mp (show x ∈ (ps.map Prod.snd).map (mem bds) from hx)
      obtain ⟨q, hq, rfl⟩ := List.mem_map.mp hm
      exact in_psi.mpr ⟨q.2, h2 q hq, rfl⟩
theorem next_nil (ok : CsOk bds cs) : nextOf cs bds [] = [] := by
  have : difs ([] ++ (waysOf cs bds []).map Prod.fst) = [] := by
    apply List.eq_nil_iff_forall_not_mem.mpr
    intro k hk
    rcases (next_masks k).mp hk with hk | ⟨c, hc, ps, h1, h2, _⟩
    · cases hk
    · have : ps = [] := List.eq_nil_iff_forall_not_mem.mpr fun p hp => by have := h2 p hp; cases this
      rw [this] at h1
      exact ok.ne c hc h1.symm
  unfold nextOf
  rw [this]
  simp [grt, srt]
theorem levels_eq (nd : bds.Nodup) (ok : CsOk bds cs) : ∀ (f : Nat) (last : List Nat), Good bds.length last → (levelsFrom (nextOf cs bds) f last).map (psi bds) = lvF (lawNext cs bds) f (psi bds last)
  | 0, last, _ => rfl
  | f + 1, last, g => by
    unfold levelsFrom lvF
    rw [next_eq nd ok g]
    by_cases h : nextOf cs bds last = last
    · rw [if_pos (.inr h), if_pos (by rw [h])]; rfl
    · by_cases h0 : last = []
      · exact absurd (by rw [h0]; exact next_nil ok) h
      · rw [if_neg (fun z => z.elim h0 h), if_neg fun e => h (psi_inj nd (good_next g) g e), List.map_cons, levels_eq nd ok f _ (good_next g)]
/-! ### they end -/
def dn (n : Nat) (l : List Nat) : Nat := ((List.range (2 ^ n)).filter fun m => l.any fun t => decide (m &&& t = m)).length
theorem filt_mono {α : Type} {p q : α → Bool} : ∀ (L : List α), (∀ x ∈ L, p x = true → q x = true) → (L.filter p).length ≤ (L.filter q).length ∧ ((L.filter q).length ≤ (L.filter p).length → ∀ x ∈ L, q x = true → p x = true)
  | [], _ => ⟨Nat.le_refl _, fun _ x hx => by cases hx⟩
  | x :: L, h => by
    obtain ⟨h1, h2⟩ := filt_mono L fun y hy => h y (List.mem_cons_of_mem _ hy)
    have hx := h x List.mem_cons_self
    rw [List.filter_cons, List.filter_cons]
    cases hp : p x with
    | true =>
      rw [hx hp, if_pos rfl, if_pos rfl, List.length_cons, List.length_cons]
      refine ⟨by omega, fun z y hy hq => ?_⟩
      rcases List.mem_cons.mp hy with rfl | hy
      · exact hp
      · exact h2 (by omega) y hy hq
    | false =>
      rw [if_neg Bool.false_ne_true]
      cases hq : q x with
      | true =>
        rw [if_pos rfl, List.length_cons]
        exact ⟨by omega, fun z => by omega⟩
      | false =>
        rw [if_neg Bool.false_ne_true]
        refine ⟨h1, fun z y hy hqy => ?_⟩
        rcases List.mem_cons.mp hy with rfl | hy
        · rw [hq] at hqy; cases hqy
        · exact h2 z y hy hqy
theorem below_next {last : List Nat} (g : Good bds.length last) {m : Nat} (hm : m ∈ last) : ∃ t ∈ nextOf cs bds last, m &&& t = m :=
  grt_above (nx_ms g.nl) _ m (Nat.le_refl _) (by rw [difs_mem]; exact List.mem_append_left _ hm)
theorem any_iff {l : List Nat} {m : Nat} : (l.any fun t => decide (m &&& t = m)) = true ↔ ∃ t ∈ l, m &&& t = m := by
  rw [List.any_eq_true]
  exact exists_congr fun t => and_congr_right fun _ => decide_eq_true_iff
theorem dn_grows {last : List Nat} (g : Good bds.length last) (h : nextOf cs bds last ≠ last) : dn bds.length last < dn bds.length (nextOf cs bds last) := by
  have g' : Good bds.length (nextOf cs bds last) := good_next g
  have mono := filt_mono (p := fun m => last.any fun t => decide (m &&& t = m)) (q := fun m => (nextOf cs bds last).any fun t => decide (m &&& t = m)) (List.range (2 ^ bds.length)) fun m _ hm => by
    obtain ⟨t, ht, e⟩ := any_iff.mp hm
    obtain ⟨u, hu, e2⟩ := below_next (cs := cs) g ht
    exact any_iff.mpr ⟨u, hu, by rw [← e, Nat.and_assoc, e2]⟩
  rcases Nat.lt_or_ge (dn bds.length last) (dn bds.length (nextOf cs bds last)) with hlt | hge
  · exact hlt
  · exfalso
    have back := mono.2 hge
    have sub1 : ∀ t ∈ nextOf cs bds last, t ∈ last := fun t ht => by
      obtain ⟨u, hu, e⟩ := any_iff.mp (back t (List.mem_range.mpr (g'.nl.lt t ht)) (any_iff.mpr ⟨t, ht, Nat.and_self t⟩))
      obtain ⟨t', ht', e2⟩ := below_next (cs := cs) g hu
      have : t = t' := g'.an t ht t' ht' (by rw [← e, Nat.and_assoc, e2])
      subst this
      have : u = t := by rw [← e2, Nat.and_comm, e]
      rw [← this]; exact hu
    apply h
    refine sorted_ext g'.so g.so g'.nl.nd g.nl.nd fun m => ⟨sub1 m, fun hm => ?_⟩
    obtain ⟨t, ht, e⟩ := below_next (cs := cs) g hm
    rw [g.an m hm t (sub1 t ht) e]; exact ht
theorem stops_all : ∀ (f : Nat) (last : List Nat), Good bds.length last → 2 ^ bds.length ≤ dn bds.length last + f → stops (nextOf cs bds) f last
  | 0, last, g, h => by
    refine .inr (Decidable.byContradiction fun hne => ?_)
    have h1 := dn_grows g hne
    have h2 : dn bds.length (nextOf cs bds last) ≤ 2 ^ bds.length := by
      unfold dn
      refine Nat.le_trans (List.length_filter_le _ _) (by rw [List.length_range]; exact Nat.le_refl _)
    omega
  | f + 1, last, g, h => by
    by_cases hne : nextOf cs bds last = last
    · exact .inr (.inl hne)
    · have h1 := dn_grows g hne
      exact .inr (.inr (stops_all f _ (good_next g) (by omega)))
/-- one level, the next one -/
theorem pairs_next : ∀ (f : Nat) (last : List Nat), Good bds.length last → ∀ p ∈ (levelsFrom (nextOf cs bds) f last).zip ((levelsFrom (nextOf cs bds) f last).drop 1), Good bds.length p.1 ∧ p.2 = nextOf cs bds p.1
  | 0, last, g, p, hp => by simp [levelsFrom] at hp
  | f + 1, last, g, p, hp => by
    unfold levelsFrom at hp
    split at hp
    · simp at hp
    · have hd : ∃ rest, levelsFrom (nextOf cs bds) f (nextOf cs bds last) = nextOf cs bds last :: rest := by
        cases f with
        | zero => exact ⟨[], rfl⟩
        | succ f =>
          unfold levelsFrom
          split
          · exact ⟨[], rfl⟩
          · exact ⟨_, rfl⟩
      obtain ⟨rest, e⟩ := hd
      have ih := pairs_next f (nextOf cs bds last) (good_next g)
      rw [e] at hp ih
      rw [List.drop_succ_cons, List.drop_zero, List.zip_cons_cons] at hp
      rcases List.mem_cons.mp hp with rfl | hp
      · exact ⟨g, rfl⟩
      · exact ih p (by rw [List.drop_succ_cons, List.drop_zero]; exact hp)
theorem levels_good : ∀ (f : Nat) (last : List Nat), Good bds.length last → ∀ l ∈ levelsFrom (nextOf cs bds) f last, Good bds.length l
  | 0, last, g, l, hl => by rw [List.mem_singleton.mp hl]; exact g
  | f + 1, last, g, l, hl => by
    unfold levelsFrom at hl
    split at hl
    · rw [List.mem_singleton.mp hl]; exact g
    · rcases List.mem_cons.mp hl with rfl | hl
      · exact g
      · exact levels_good f _ (good_next g) l hl
end
end Pk

/-! The law's own sessions. -/
namespace Pk
open PySem L2
open Enc (enc dep)
def stepE (q : Int) (s : Int × Option Int) (p : Int × Int) : Int × Option Int := (s.1 + p.2, if s.1 < q then some p.1 else s.2)
def colOf (ws es : List Int) (q : Int) : Option Int := ((srt (Int × Int) false (es.zip ws)).foldl (stepE q) (0, none)).2
def stl (ws qs : List Int) (rows : List (Tu Int)) : List Int := (List.range qs.length).map fun c => (colOf ws (rows.map fun r => r.l.getD c 0) (qs.getD c 0)).getD 0
structure StlOk (p : List Int × List Int) (rows : List (Tu Int)) : Prop where
  n : rows.length = p.1.length
  w : ∀ r ∈ rows, p.2.length ≤ r.l.length
  q : ∀ x ∈ p.2, 1 ≤ x
  ne : p.1 ≠ []
  s1 : p.1.length ≤ 1000
  s2 : p.2.length ≤ 1000
def optV : Option Int → V
  | none => .non
  | some i => .int i
theorem step_some {q : Int} : ∀ (ps : List (Int × Int)) (s : Int × Option Int), (s.2.isSome = true ∨ (s.1 < q ∧ ps ≠ [])) → (ps.foldl (stepE q) s).2.isSome = true
  | [], s, h => by
    rcases h with h | h
    · exact h
    · exact absurd rfl h.2
  | p :: ps, s, h => by
    rw [List.foldl_cons]
    refine step_some ps _ (.inl ?_)
    unfold stepE
    dsimp only
    split
    · rfl
    · rename_i hn
      rcases h with h | h
      · exact h
      · exact absurd h.1 hn
theorem col_some {ws es : List Int} {q : Int} (hq : 1 ≤ q) (h : es.length = ws.length) (ne : ws ≠ []) : (colOf ws es q).isSome = true := by
  refine step_some _ _ (.inr ⟨by show (0 : Int) < q; omega, fun z => ?_⟩)
  have := congrArg List.length z
  rw [srt_len, List.length_zip, h, Nat.min_self] at this
  exact ne (List.length_eq_zero_iff.mp this)
theorem getD_lt {α : Type} {xs : List α} {i : Nat} {d : α} (h : i < xs.length) : xs.getD i d = xs[i] := by rw [List.getD_eq_getElem?_getD, List.getElem?_eq_getElem h]; rfl
theorem rng_pre {n : Nat} {pre post : List Int} {x : Int} (h : rng 0 n = pre ++ x :: post) : x = (pre.length : Int) ∧ pre.length < n := by
  have h1 := pre_len h
  rw [rng_len] at h1
  have h2 : (rng 0 n)[pre.length]? = some x := by rw [h]; simp
  rw [rng_get h1] at h2
  exact ⟨by have := Option.some.inj h2; omega, h1⟩
section
variable {K : PySem.W.Frag} {α β : Type} [Enc α] [Enc β]
theorem is_lstP {xs : List (α × β)} : (Is K xs).le (LstR (xs.map fun p => TupR [Is K p.1, Is K p.2])) := fun v B h => by
  obtain ⟨a, vs, h1, h2, h3⟩ := is_lst.mp h
  exact ⟨a, vs, h1, h2, Args.le (fun x v B => is_pair.mp) h3⟩
theorem atI_get {xs : List α} {d : α} {i : Nat} (h : i < xs.length) : atI xs (i : Int) = some (xs.getD i d) := by
  rw [atI_nn (by omega) (by omega), Int.toNat_natCast, List.getD_eq_getElem?_getD, List.getElem?_eq_getElem h]; rfl
end
section
variable {K : PySem.W.Frag}
def p__law_settle (K : PySem.W.Frag) : Pm ((List Int × List Int) × List (Tu Int)) where
  n := 2
  args x := [Is K x.1, Is K (Tu.mk x.2)]
  pre x := StlOk x.1 x.2
  res x := Is K (Tu.mk (stl x.1.1 x.1.2 x.2))
abbrev sp__law_settle (K : PySem.W.Frag) : Sp := (p__law_settle K).sp
def t__law_settle (K : PySem.W.Frag) : TS := (tSeq (tAsg (tVar 0) (gTup K 2 (gCons (gName 2) (gCons (gName 3) gNil))))
  (tSeq (tAsg (tLst tNil) (gName 4))
  (tSeq (tFor (iRng1 (tCons (tCB (rLenQ K) (tCons (tVar 3) tNil)) tNil)) (gName 5) (tSeq (tAsg (tTup (tCons (tC (.int 0)) (tCons (tC .non) tNil))) (gTup K 2 (gCons (gName 6) (gCons (gName 7) gNil))))
  (tSeq (tFor (iList K (tCB (SrtIn K false) (tCons (tLc (iRng1 (tCons (tCB (rLenQ K) (tCons (tVar 2) tNil)) tNil)) (gName 10) tYes (tTup (tCons (tOp (rIxT K) (tOp (rIxT K) (tVar 1) (tVar 10)) (tVar 5)) (tCons (tOp (rIxL K) (tVar 2) (tVar 10)) tNil))) [10]) tNil))) (gTup K 2 (gCons (gName 8) (gCons (gName 9) gNil))) (tSeq (tIfS (tTest (tOp rLtI (tVar 6) (tOp (rIxL K) (tVar 3) (tVar 5)))) (tAsg (tVar 8) (gName 7)) tNext)
  (tAug 6 (tVar 9) (ipI fun i j => i + j))))
  (tDrop (tBM K "list" rAppend (tVar 4) (tCons (tVar 7) tNil))))))
  (tRet (tThen (tVar 4) (kTup K))))))
theorem len__law_settle (K : PySem.W.Frag) : ∀ vs H Q E, sp__law_settle K vs H Q E → vs.length = 2 := Pm.len _ rfl
theorem pure__law_settle (c : Kn0 K) : ∀ vs H Q E, sp__law_settle K vs H Q E → t__law_settle K { nx := fun _ H' => Q .non H', rt := Q } (start ["parts", "rows", "weights", "quotas", "found", "column", "reached", "entry", "value", "weight", "k"] vs) H := by
  rintro vs H Q E ⟨C, B, ⟨⟨ws, qs⟩, rows⟩, k, _, a, ok, q⟩
  obtain ⟨hn, hw, hq, ne, hs1, hs2⟩ := ok
  have hn : rows.length = ws.length := hn
  have hw : ∀ r ∈ rows, qs.length ≤ r.l.length := hw
  have hq : ∀ x ∈ qs, 1 ≤ x := hq
  have ne : ws ≠ [] := ne
  have hs1 : ws.length ≤ 1000 := hs1
  have hs2 : qs.length ≤ 1000 := hs2
  obtain _ | @⟨_, v0, _, _, r0, _ | @⟨_, v1, _, _, r1, _ | _⟩⟩ := a
  let es (c : Nat) : List Int := rows.map fun r => r.l.getD c 0
  let cv (c : Nat) : Int := (colOf ws (es c) (qs.getD c 0)).getD 0
  refine q_asg2 (K := K) (ev_var rfl (is_pair.mp r0)) k.refl fun v2 v3 B2 H2 S2 s2 r2 r3 => ?_
  refine q_new (Ra := Is K) (α := Int) S2 fun l hl S A => ?_
  refine q_forD (xs := rng 0 ((qs.length : Int)).toNat) (Ri := Is K) (J := fun i => JN 5 (Is K i)) (ei_range1 (K := K) (ea_cons (ev_lenD (K := K) (ev_var (i := 3) rfl r3)) ea_nil) (by omega)) S (fun x => go_name)
    (fun pre σ1 B1 H1 => ∃ o5 o6 o7 o8 o9, σ1 = [some v0, some v1, some v2, some v3, some (.ref l), o5, o6, o7, o8, o9, none] ∧ Acc C H (Is K) l ((List.range pre.length).map cv) B1 H1)
    (fun B1 H1 S1 s1 => ⟨none, none, none, none, none, rfl, A.step s1⟩) (fun pre x post σ1 B3 H3 B4 H4 hx S3 e3 ⟨o5, o6, o7, o8, o9, hs, A3⟩ s4 σ2 j => ?_) (fun σ1 B3 H3 S3 e3 ⟨o5, o6, o7, o8, o9, hs, A3⟩ => ?_)
  · subst hs
    obtain ⟨v5, r5, rfl⟩ := j
    obtain ⟨rfl, hc⟩ := rng_pre hx
    have hc : pre.length < qs.length := by omega
    refine q_asg2 (K := K) (R1 := Is K (0 : Int)) (R2 := Is K ()) (ev_tup (ea_cons ev_int (ea_cons ev_non ea_nil)) (by simp)) (S3.trans s4) fun v6 v7 B5 H5 S5 s5 r6 r7 => ?_
    have r6 := is_int.mp r6
    have r7 := is_non.mp r7
    subst r6 r7
    have A5 := (A3.step s4).step s5
    have e25 : Ex B2 B5 := e3.trans (s4.bb.trans s5.bb)
    have R1 : (Is K (Tu.mk rows)).P v1 B5 := Rp.mono _ (s2.bb.trans e25) r1
    have R2 : (Is K ws).P v2 B5 := Rp.mono _ e25 r2
    have R3 : (Is K qs).P v3 B5 := Rp.mono _ e25 r3
    have R5 : (Is K (pre.length : Int)).P v5 B5 := Rp.mono _ s5.bb r5
    let c := pre.length
    have hprs : ((rng 0 ws.length).map fun k => (((rows.getD k.toNat ⟨[]⟩).l.getD c 0, ws.getD k.toNat 0) : Int × Int)) = (es c).zip ws := by
      apply List.ext_getElem
      · rw [List.length_map, rng_len, List.length_zip, List.length_map, hn, Nat.min_self]
      · intro i h1 h2
        rw [List.length_map, rng_len] at h1
        have h3 : (rng 0 ws.length)[i]'(by rw [rng_len]; exact h1) = (i : Int) := by
          have := rng_get (lo := 0) h1
          rw [List.getElem?_eq_getElem (by rw [rng_len]; exact h1)] at this
          have := Option.some.inj this
          omega
        have h4 : i < rows.length := by omega
        rw [List.getElem_map, h3, List.getElem_zip, List.getElem_map, Int.toNat_natCast, getD_lt h4, getD_lt h1]
    have evs : Ev C (tCB (SrtIn K false) (tCons (tLc (iRng1 (tCons (tCB (rLenQ K) (tCons (tVar 2) tNil)) tNil)) (gName 10) tYes (tTup (tCons (tOp (rIxT K) (tOp (rIxT K) (tVar 1) (tVar 10)) (tVar 5)) (tCons (tOp (rIxL K) (tVar 2) (tVar 10)) tNil))) [10]) tNil)) [some v0, some v1, some v2, some v3, some (.ref l), some v5, some (.int 0), some .non, o8, o9, none] B5 (Is K (srt (Int × Int) false ((es c).zip ws))) := by
      refine ev_sort (K := K) (Ev.to (F := Is K) (ev_lcMD (K := K) (xs := rng 0 ((ws.length : Int)).toNat) (fun k => (((rows.getD k.toNat ⟨[]⟩).l.getD c 0, ws.getD k.toNat 0) : Int × Int)) (ei_range1 (K := K) (ea_cons (ev_lenD (K := K) (ev_var (i := 2) rfl R2)) ea_nil) (by omega)) (by rw [rng_len]; omega) (fun x => go_name) fun i σ2 B' hb eb j => ?_) (by rw [Int.toNat_natCast]; exact hprs)) so_pair
      obtain ⟨v, hv, rfl⟩ := j
      obtain ⟨n', hn', rfl⟩ : ∃ n' : Nat, n' < ws.length ∧ i = (n' : Int) := by
        unfold rng at hb
        obtain ⟨n', h1, rfl⟩ := List.mem_map.mp hb
        rw [List.mem_range] at h1
        exact ⟨n', by omega, by omega⟩
      have h4 : n' < rows.length := by omega
      have hin : rows.getD n' ⟨[]⟩ ∈ rows := by rw [List.getD_eq_getElem?_getD, List.getElem?_eq_getElem h4]; exact List.getElem_mem h4
      refine ⟨rfl, ev_pair (K := K) (ev_ixTd (K := K) (ev_ixTd (K := K) (ev_var (i := 1) rfl (Rp.mono _ eb R1)) (ev_var (i := 10) rfl hv) (atI_get (xs := rows) (d := ⟨[]⟩) h4)) (ev_var (i := 5) rfl (Rp.mono _ eb R5)) (atI_get (d := 0) (Nat.lt_of_lt_of_le hc (hw _ hin)))) (ev_ixLd (K := K) (ev_var (i := 2) rfl (Rp.mono _ eb R2)) (ev_var (i := 10) rfl hv) (atI_get (d := 0) hn'))⟩
    refine q_forD (xs := srt (Int × Int) false ((es c).zip ws)) (Ri := fun p => TupR [Is K p.1, Is K p.2]) (J := fun p => JP 8 9 (Is K p.1) (Is K p.2)) (ei_list (evs.le is_lstP)) S5 (fun x => go_pair)
      (fun pre2 σ1 B1 H1 => ∃ o8 o9, σ1 = [some v0, some v1, some v2, some v3, some (.ref l), some v5, some (.int (pre2.foldl (stepE (qs.getD c 0)) (0, none)).1), some (optV (pre2.foldl (stepE (qs.getD c 0)) (0, none)).2), o8, o9, none] ∧ Acc C H (Is K) l ((List.range pre.length).map cv) B1 H1)
      (fun B1 H1 S1 s1 => ⟨o8, o9, rfl, A5.step s1⟩) (fun pre2 p post2 σ1 B6 H6 B7 H7 hx2 S6 e6 ⟨o8, o9, hs, A6⟩ s7 σ2 j => ?_) (fun σ1 B6 H6 S6 e6 ⟨o8, o9, hs, A6⟩ => ?_)
    · subst hs
      obtain ⟨v8, v9, r8, r9, rfl⟩ := j
      have r8 := is_int.mp r8
      have r9 := is_int.mp r9
      subst r8 r9
      let s := pre2.foldl (stepE (qs.getD c 0)) (0, none)
      have es' : (pre2 ++ [p]).foldl (stepE (qs.getD c 0)) (0, none) = stepE (qs.getD c 0) s p := by rw [List.foldl_append]; rfl
      have R3' : (Is K qs).P v3 B7 := Rp.mono _ (e6.trans s7.bb) R3
      have R5' : (Is K (pre.length : Int)).P v5 B7 := Rp.mono _ (e6.trans s7.bb) R5
      refine q_if (b := decide (s.1 < qs.getD c 0)) (et_test (ev_ib (K := K) (g := fun i j => decide (i < j)) (ev_var (i := 6) rfl (is_int.mpr rfl)) (ev_ixLd (K := K) (ev_var (i := 3) rfl R3') (ev_var (i := 5) rfl R5') (atI_get (d := 0) hc)))) (S6.trans s7) (fun e H8 S8 s8 => ?_) (fun e H8 S8 s8 => ?_)
      · have e' : s.1 < qs.getD c 0 := of_decide_eq_true e
        refine s_asg (i := 7) (R := Is K p.1) (ev_var (i := 8) rfl (is_int.mpr rfl)) S8 fun v B9 H9 S9 s9 r9 => ?_
        have r9 := is_int.mp r9
        subst r9
        refine ⟨.int s.1, rfl, .int p.2, rfl, s.1, p.2, rfl, rfl, B9, S9, s7.bb.trans s9.bb, some (.int p.1), some (.int p.2), ?_, ((A6.step s7).step s8).step s9⟩
        rw [es']
        unfold stepE
        dsimp only
        rw [if_pos e']
        rfl
      · have e' : ¬ s.1 < qs.getD c 0 := of_decide_eq_false e
        refine ⟨.int s.1, rfl, .int p.2, rfl, s.1, p.2, rfl, rfl, B7, S8, s7.bb, some (.int p.1), some (.int p.2), ?_, (A6.step s7).step s8⟩
        rw [es']
        unfold stepE
        dsimp only
        rw [if_neg e']
        rfl
    · subst hs
      have hqc : qs.getD c 0 ∈ qs := by rw [List.getD_eq_getElem?_getD, List.getElem?_eq_getElem hc]; exact List.getElem_mem hc
      have hsome := col_some (ws := ws) (es := es c) (hq _ hqc) (by rw [List.length_map]; exact hn) ne
      obtain ⟨z, hz⟩ := Option.isSome_iff_exists.mp hsome
      have hz' : ((srt (Int × Int) false ((es c).zip ws)).foldl (stepE (qs.getD c 0)) (0, none)).2 = some z := hz
      have ecv : cv c = z := by show (colOf ws (es c) (qs.getD c 0)).getD 0 = z; rw [hz]; rfl
      refine s_app (K := K) (x := z) A6 (ev_var rfl rfl) (ev_var (i := 7) rfl (by rw [hz']; exact is_int.mpr rfl)) S6 (by rw [List.length_map, List.length_range]; omega) fun B8 H8 H9 S9 s8 _ A9 => ⟨B8, S9, s4.bb.trans (s5.bb.trans (e6.trans s8.bb)), some v5, _, _, o8, o9, rfl, ?_⟩
      rw [List.length_append, List.length_singleton, List.range_succ, List.map_append, List.map_singleton, ecv]
      exact A9
  · subst hs
    rw [rng_len, Int.toNat_natCast] at A3
    obtain ⟨B8, S8, e8, rl, _⟩ := A3.frz S3
    exact s_ret (ev_tupleD (K := K) (xs := (List.range qs.length).map cv) (ev_var (i := 4) rfl (is_lst.mpr rl))) S8 fun v B4 H4 S4 r4 => q v B4 H4 S4 r4
end
end Pk

/-! sorted(set(rows)); the law's rounds of rows. -/
namespace Pk
open PySem L2
open PySem.W (dataLe)
open Enc (enc dep)
def sset (xs : List (Tu Int)) : List (Tu Int) := srt (Tu Int) false (difs xs)
def FewT (xs : List (Tu Int)) : Prop := ∀ L : List (Tu Int), (∀ x ∈ L, x ∈ xs) → L.Nodup → L.length < 63
theorem sset_mem {xs : List (Tu Int)} {x : Tu Int} : x ∈ sset xs ↔ x ∈ xs := by unfold sset; rw [srt_mem, difs_mem]
theorem sset_nodup (xs : List (Tu Int)) : (sset xs).Nodup := srt_nodup (difs_nodup xs)
theorem sset_few {xs : List (Tu Int)} (f : FewT xs) : (sset xs).length < 63 := f _ (fun x hx => sset_mem.mp hx) (sset_nodup xs)
section
variable {C : MI} {K : PySem.W.Frag} {σ : L2.St} {B0 H0 B H : Hp} {te : TE} {tz : TS} {D : Ends} {i : Nat}
theorem rows_ks : ∀ {xs : List (Tu Int)} {vs : List V}, Args (xs.map (Is K)) vs B → ∃ ks : List (Addr × List Int), vs = ks.map (fun p => V.ref p.1) ∧ xs = ks.map (fun p => (⟨p.2⟩ : Tu Int)) ∧ ∀ p ∈ ks, B p.1 = some (.tup (p.2.map V.int))
  | [], _, h => by cases h; exact ⟨[], rfl, rfl, fun _ h => by cases h⟩
  | x :: xs, _, h => by
    cases h with
    | cons r t =>
      obtain ⟨ks, h1, h2, h3⟩ := rows_ks t
      obtain ⟨a, vs, rfl, g1, g2⟩ := is_tup.mp r
      have := args_ints.mp g2
      subst this
      exact ⟨(a, x.l) :: ks, by rw [h1]; rfl, by rw [h2]; rfl, fun p hp => by
        rcases List.mem_cons.mp hp with rfl | hp
        · exact g1
        · exact h3 p hp⟩
theorem ev_ss {xs : List (Tu Int)} (h : Ev C te σ B (Is K xs)) (few : FewT xs) (ne : ∀ x ∈ xs, x.l ≠ []) : Ev C (tSS K te) σ B (Is K (sset xs)) := fun B1 H1 e k Q q =>
  h B1 H1 e k _ fun v B2 H2 s r => by
    obtain ⟨a, vs, rfl, h2, h3⟩ := is_lst.mp r
    obtain ⟨ks, rfl, rfl, hk⟩ := rows_ks h3
    refine ⟨a, ks, rfl, rd_l (s.ok.sub _ _ h2), fun p hp => rd_t (s.ok.sub _ _ (hk p hp)), fun L hL nd => ?_, fun p hp => ne _ (List.mem_map.mpr ⟨p, hp, rfl⟩), fun a' o L p ha hpa hp sub all nd => ?_⟩
    · have := few (L.map fun p => (⟨p.2⟩ : Tu Int)) (fun x hx => by
        obtain ⟨p, hp, rfl⟩ := List.mem_map.mp hx
        exact List.mem_map.mpr ⟨p, hL p hp, rfl⟩) (by
        have : L.map (fun p => (⟨p.2⟩ : Tu Int)) = (L.map Prod.snd).map Tu.mk := by rw [List.map_map]; rfl
        rw [this]
        unfold List.Nodup at *
        rw [List.pairwise_map]
        exact nd.imp fun h e => h (by cases e; rfl))
      rwa [List.length_map] at this
    · have hp2 : (upd H2 a' o) p = none := by rw [upd_ne hpa]; exact hp
      have S1 := s.ok.new (o := o) ha
      have S2 := S1.ok.new (o := .lst ((L.mergeSort (PySem.W.dataLe false encT)).map fun q => V.ref q.1)) hp2
      refine q _ _ _ (s.trans (S1.trans S2)) (is_lst.mpr ⟨p, _, rfl, upd_same, ?_⟩)
      have hset : sset (ks.map fun p => (⟨p.2⟩ : Tu Int)) = (L.mergeSort (PySem.W.dataLe false encT)).map fun q => (⟨q.2⟩ : Tu Int) := by
        apply sorted_ext
        · exact srt_sorted _
        · rw [List.pairwise_map]
          exact PySem.W.sort_pairwise (PySem.W.sortLe_total _ _ _) L
        · exact sset_nodup _
        · have pm := (List.mergeSort_perm L (PySem.W.dataLe false encT)).map Prod.snd
          have nd2 := pm.nodup_iff.mpr nd
          have : (L.mergeSort (PySem.W.dataLe false encT)).map (fun q => (⟨q.2⟩ : Tu Int)) = ((L.mergeSort (PySem.W.dataLe false encT)).map Prod.snd).map Tu.mk := by rw [List.map_map]; rfl
          rw [this]
          unfold List.Nodup at *
          rw [List.pairwise_map]
          exact nd2.imp fun h e => h (by cases e; rfl)
        · intro x
          rw [sset_mem, List.mem_map, List.mem_map]
          constructor
          · rintro ⟨p, hp, rfl⟩
            obtain ⟨q, hq, e⟩ := List.mem_map.mp (all p hp)
            exact ⟨q, List.mem_mergeSort.mpr hq, by rw [e]⟩
          · rintro ⟨q, hq, rfl⟩
            exact ⟨q, sub q (List.mem_mergeSort.mp hq), rfl⟩
      rw [hset]
      have e2 : Ex B2 (upd (upd B2 a' o) p (.lst ((L.mergeSort (PySem.W.dataLe false encT)).map fun q => V.ref q.1))) := S1.bb.trans S2.bb
      have : ∀ M : List (Addr × List Int), (∀ q ∈ M, q ∈ ks) → Args ((M.map fun q => (⟨q.2⟩ : Tu Int)).map (Is K)) (M.map fun q => V.ref q.1) (upd (upd B2 a' o) p (.lst ((L.mergeSort (PySem.W.dataLe false encT)).map fun q => V.ref q.1))) := by
        intro M
        induction M with
        | nil => intro _; exact .nil
        | cons q M ih =>
          intro hM
          exact .cons (is_tup.mpr ⟨q.1, _, rfl, e2 _ _ (hk q (hM q List.mem_cons_self)), args_ints.mpr rfl⟩) (ih fun z hz => hM z (List.mem_cons_of_mem _ hz))
      exact this _ fun q hq => sub q (List.mem_mergeSort.mp hq)
/-- x = list(..), its own -/
theorem q_listO {α : Type} {Ra : α → Rp} {xs : List α} (h : Ev C te σ B (LstR (xs.map Ra))) (S : Stp C B0 H0 B H) (k : ∀ l B2 H2, Stp C B0 H0 B2 H2 → Ex B B2 → Acc C H0 Ra l xs B2 H2 → tz D (σ.set i (some (.ref l))) H2) : tSeq (tAsg (tCB (rListQ K) (tCons te tNil)) (gName i)) tz D σ H :=
  h B H (.refl _) S.ok _ fun v B2 H2 s ⟨p, ys, e1, h2, h3⟩ => ⟨p, ys, by rw [e1], .inl (rd_l (s.ok.sub _ _ h2)), fun l hl => by
    have S2 := S.trans s
    exact k l B2 _ (S2.loc (S2.new0 hl) (s.ok.sub.un hl) (s.ok.fresh hl)) s.bb ⟨S2.new0 hl, s.ok.sub.un hl, s.ok.fresh hl, ys, upd_same, h3⟩⟩
end
/-! ### a round of rows -/
def made (p : List Int × List Int) (rows : List (Tu Int)) : List (Tu Int) := (seats rows p.1.length).map fun s => (⟨stl p.1 p.2 s.l⟩ : Tu Int)
def rndAll (plans : List (List Int × List Int)) (rows : List (Tu Int)) : List (Tu Int) := rows ++ plans.flatMap fun p => made p rows
def rnd (plans : List (List Int × List Int)) (rows : List (Tu Int)) : List (Tu Int) := sset (rndAll plans rows)
structure PlanOk (w : Nat) (p : List Int × List Int) : Prop where
  ne : p.1 ≠ []
  q : ∀ x ∈ p.2, 1 ≤ x
  l1 : p.1.length ≤ 7
  l2 : p.2.length = w
structure RndOk (w : Nat) (plans : List (List Int × List Int)) (rows : List (Tu Int)) : Prop where
  pl : plans.length ≤ 10
  ps : ∀ p ∈ plans, PlanOk w p
  w1 : 1 ≤ w
  w2 : w ≤ 1000
  rl : ∀ r ∈ rows, r.l.length = w
  pw : ∀ p ∈ plans, ∀ m, m ≤ p.1.length → rows.length ^ m ≤ 1000000
  rs : rows.length ≤ 1000
  few : FewT (rndAll plans rows)
theorem stl_len {ws qs : List Int} {rows : List (Tu Int)} : (stl ws qs rows).length = qs.length := by unfold stl; rw [List.length_map, List.length_range]
theorem made_len {p : List Int × List Int} {rows : List (Tu Int)} : (made p rows).length = rows.length ^ p.1.length := by unfold made; rw [List.length_map, seats_len]
theorem flat_len {α β : Type} (f : α → List β) (N : Nat) : ∀ xs : List α, (∀ x ∈ xs, (f x).length ≤ N) → (xs.flatMap f).length ≤ xs.length * N
  | [], _ => by simp
  | x :: xs, h => by
    rw [List.flatMap_cons, List.length_append, List.length_cons, Nat.succ_mul]
    have h1 := flat_len f N xs fun y hy => h y (List.mem_cons_of_mem _ hy)
    have h2 := h x List.mem_cons_self
    omega
section
variable {K : PySem.W.Frag}
def p__law_round (K : PySem.W.Frag) : Pm (Nat × List (List Int × List Int) × List (Tu Int)) where
  n := 2
  args x := [Is K x.2.1, Is K x.2.2]
  pre x := RndOk x.1 x.2.1 x.2.2
  res x := Is K (rnd x.2.1 x.2.2)
abbrev sp__law_round (K : PySem.W.Frag) : Sp := (p__law_round K).sp
def t__law_round (K : PySem.W.Frag) : TS := (tSeq (tAsg (tCB (rListQ K) (tCons (tVar 1) tNil)) (gName 2))
  (tSeq (tFor (iList K (tVar 0)) (gName 3) (tDrop (tBM K "list" rExtend (tVar 2) (tCons (tLc (iList K (tCall (sp__law_seatings K) [] E0 (tCons (tVar 1) (tCons (tCB (rLenQ K) (tCons (tOp (rIxT K) (tVar 3) (tC (.int 0))) tNil)) tNil)))) (gName 4) tYes (tCall (sp__law_settle K) [] E0 (tCons (tVar 3) (tCons (tVar 4) tNil))) [4]) tNil))))
  (tRet (tSS K (tVar 2)))))
theorem len__law_round (K : PySem.W.Frag) : ∀ vs H Q E, sp__law_round K vs H Q E → vs.length = 2 := Pm.len _ rfl
theorem pure__law_round (c : Kn0 K) : ∀ vs H Q E, sp__law_round K vs H Q E → t__law_round K { nx := fun _ H' => Q .non H', rt := Q } (start ["plans", "rows", "found", "parts", "one"] vs) H := by
  rintro vs H Q E ⟨C, B, ⟨w, plans, rows⟩, k, _, a, ok, q⟩
  obtain ⟨pl, ps, w1, w2, rl, pw, rs, few⟩ := ok
  have pl : plans.length ≤ 10 := pl
  have rs : rows.length ≤ 1000 := rs
  have w1 : 1 ≤ w := w1
  have w2 : w ≤ 1000 := w2
  have rl : ∀ r ∈ rows, r.l.length = w := rl
  have ps : ∀ p ∈ plans, PlanOk w p := ps
  have pw : ∀ p ∈ plans, ∀ m, m ≤ p.1.length → rows.length ^ m ≤ 1000000 := pw
  obtain _ | @⟨_, v0, _, _, r0, _ | @⟨_, v1, _, _, r1, _ | _⟩⟩ := a
  refine q_listO (Ra := Is K) (xs := rows) ((ev_var (i := 1) rfl r1).le fun _ _ => is_lst.mp) k.refl fun l B2 H2 S2 e2 A2 => ?_
  have ml : ∀ p ∈ plans, (made p rows).length ≤ 1000000 := fun p hp => by rw [made_len]; exact pw p hp _ (Nat.le_refl _)
  refine q_forD (xs := plans) (Ri := Is K) (J := fun p => JN 3 (Is K p)) (ei_listD (ev_var (i := 0) rfl (Rp.mono _ e2 r0))) S2 (fun x => go_name)
    (fun pre σ1 B1 H1 => ∃ o3, σ1 = [some v0, some v1, some (.ref l), o3, none] ∧ Acc C H (Is K) l (rows ++ pre.flatMap fun p => made p rows) B1 H1)
    (fun B1 H1 S1 s1 => ⟨none, rfl, by rw [List.flatMap_nil, List.append_nil]; exact A2.step s1⟩) (fun pre p post σ1 B3 H3 B4 H4 hx S3 e3 ⟨o3, hs, A3⟩ s4 σ2 j => ?_) (fun σ1 B3 H3 S3 e3 ⟨o3, hs, A3⟩ => ?_)
  · subst hs
    obtain ⟨v3, r3, rfl⟩ := j
    have hp : p ∈ plans := by rw [hx]; simp
    have hpl := pre_len hx
    have pok := ps p hp
    have e04 : Ex B B4 := e2.trans (e3.trans s4.bb)
    have A4 := A3.step s4
    have l7 : p.1.length ≤ 7 := pok.l1
    refine s_ext (K := K) (ys := made p rows) A4 (ev_var rfl rfl) ((ev_lcMD (K := K) (xs := seats rows p.1.length) (fun s => (⟨stl p.1 p.2 s.l⟩ : Tu Int)) (ei_listD (ev_seatings (K := K) rows p.1.length (ea_cons (ev_var (i := 1) rfl (Rp.mono _ e04 r1)) (ea_cons (Ev.to (F := Is K) (ev_lenD (K := K) (xs := p.1) (ev_ixT (K := K) (i := 0) ((ev_var (i := 3) rfl r3).le fun _ _ => is_pair.mp) ev_int rfl)) rfl) ea_nil)) ⟨fun m hm => Nat.le_trans (pw p hp m hm) (by decide), by omega⟩)) (by rw [seats_len]; exact Nat.le_trans (pw p hp _ (Nat.le_refl _)) (by decide)) (fun x => go_name) fun s σ2 B' hb eb j => ?_).le fun _ _ => is_lst.mp) (S3.trans s4) ?_ fun B8 H8 H9 S9 s8 _ A9 => ⟨B8, S9, s4.bb.trans s8.bb, some v3, rfl, by rw [List.flatMap_append, List.flatMap_singleton, ← List.append_assoc]; exact A9⟩
    · obtain ⟨v, hv, rfl⟩ := j
      obtain ⟨h1, h2⟩ := seats_each rows _ s hb
      exact ⟨rfl, ev_call (p := p__law_settle K) (p, s.l) (ea_cons (ev_var (i := 3) rfl (Rp.mono _ eb r3)) (ea_cons (ev_var (i := 4) rfl hv) ea_nil)) ⟨h1, fun r hr => by rw [rl r (h2 r hr)]; exact Nat.le_of_eq pok.l2, pok.q, pok.ne, by show p.1.length ≤ 1000; omega, by show p.2.length ≤ 1000; rw [pok.l2]; exact w2⟩⟩
    · have h1 := flat_len (fun p => made p rows) 1000000 pre fun x hx' => ml x (by rw [hx]; simp [hx'])
      have h2 := ml p hp
      have h3 : pre.length * 1000000 ≤ 9 * 1000000 := Nat.mul_le_mul_right _ (by omega)
      rw [List.length_append]; omega
  · subst hs
    obtain ⟨B8, S8, e8, r8, _⟩ := A3.frz S3
    refine s_ret (ev_ss (K := K) (xs := rndAll plans rows) (ev_var (i := 2) rfl (is_lst.mpr r8)) few fun x hx => ?_) S8 fun v B4 H4 S4 r4 => q v B4 H4 S4 r4
    have hxl : x.l.length = w := by
      rcases List.mem_append.mp hx with hx | hx
      · exact rl x hx
      · obtain ⟨p, hp, hx⟩ := List.mem_flatMap.mp hx
        obtain ⟨s, _, rfl⟩ := List.mem_map.mp hx
        show (stl p.1 p.2 s.l).length = w
        rw [stl_len, (ps p hp).l2]
    intro z
    rw [z] at hxl
    have : (0 : Nat) = w := hxl
    omega
end
end Pk

/-! What a session makes: the made row meets a bound just if the seats that miss it are light enough. -/
namespace Pk
open PySem L2
open PySem.W (dataLe sort_pairwise)
open Enc (enc dep)
theorem pair_le {x y : Int × Int} (h : dataLe false enc x y = true) : x.1 ≤ y.1 := by
  have e : PyProof.Rows.lexLt PyProof.Rows.itemOrd (PySem.W.keyToks (enc y)) (PySem.W.keyToks (enc x)) = false := by
    have h : (!PyProof.Rows.lexLt PyProof.Rows.itemOrd (PySem.W.keyToks (enc y)) (PySem.W.keyToks (enc x))) = true := h
    simpa using h
  have t : ∀ z : Int × Int, PySem.W.keyToks (enc z) = [.inl 1, .inl z.1, .inl 1, .inl z.2, .inl 0] := fun z => by
    show PySem.W.keyToks (.tuple [.int z.1, .int z.2]) = _
    simp [PySem.W.keyToks, PySem.W.keyToksAll]
  rw [t, t, PyProof.Rows.lex_false] at e
  rcases e.2 with h1 | h1
  · have : decide ((1 : Int) < 1) = true := h1
    simp at this
  · rw [PyProof.Rows.lex_false] at h1
    have : decide (y.1 < x.1) = false := h1.1
    have := of_decide_eq_false this
    omega
def sumB (f : Int → Bool) (ps : List (Int × Int)) : Int := (ps.map fun p => if f p.1 = true then p.2 else 0).sum
theorem sumB_cons (f : Int → Bool) (p : Int × Int) (ps : List (Int × Int)) : sumB f (p :: ps) = (if f p.1 = true then p.2 else 0) + sumB f ps := by unfold sumB; rw [List.map_cons, List.sum_cons]
theorem sum_perm : ∀ {l m : List Int}, l.Perm m → l.sum = m.sum := fun h => by
  induction h with
  | nil => rfl
  | cons x _ ih => rw [List.sum_cons, List.sum_cons, ih]
  | swap x y l => rw [List.sum_cons, List.sum_cons, List.sum_cons, List.sum_cons]; omega
  | trans _ _ h1 h2 => rw [h1, h2]
theorem sumB_perm {f : Int → Bool} {l m : List (Int × Int)} (h : l.Perm m) : sumB f l = sumB f m := sum_perm (h.map _)
theorem sumB_nn {f : Int → Bool} : ∀ ps : List (Int × Int), (∀ p ∈ ps, 0 ≤ p.2) → 0 ≤ sumB f ps
  | [], _ => by simp [sumB]
  | p :: ps, h => by
    rw [sumB_cons]
    have h1 := sumB_nn (f := f) ps fun x hx => h x (List.mem_cons_of_mem _ hx)
    have h2 := h p List.mem_cons_self
    split <;> omega
theorem sumB_none {f : Int → Bool} : ∀ ps : List (Int × Int), (∀ p ∈ ps, f p.1 = false) → sumB f ps = 0
  | [], _ => rfl
  | p :: ps, h => by
    rw [sumB_cons, h p List.mem_cons_self, sumB_none ps fun x hx => h x (List.mem_cons_of_mem _ hx)]
    simp
theorem fold_keep {q v : Int} : ∀ (ps : List (Int × Int)) (r e : Int), v ≤ e → (∀ p ∈ ps, v ≤ p.1) → ∃ e', (ps.foldl (stepE q) (r, some e)).2 = some e' ∧ v ≤ e'
  | [], r, e, h, _ => ⟨e, rfl, h⟩
  | p :: ps, r, e, h, hp => by
    rw [List.foldl_cons]
    unfold stepE
    dsimp only
    split
    · exact fold_keep ps _ _ (hp p List.mem_cons_self) fun x hx => hp x (List.mem_cons_of_mem _ hx)
    · exact fold_keep ps _ _ h fun x hx => hp x (List.mem_cons_of_mem _ hx)
theorem fold_stop {q : Int} : ∀ (ps : List (Int × Int)) (r : Int) (o : Option Int), (∀ p ∈ ps, 0 ≤ p.2) → q ≤ r → (ps.foldl (stepE q) (r, o)).2 = o
  | [], r, o, _, _ => rfl
  | p :: ps, r, o, hp, h => by
    rw [List.foldl_cons]
    unfold stepE
    dsimp only
    rw [if_neg (by omega)]
    exact fold_stop ps _ _ (fun x hx => hp x (List.mem_cons_of_mem _ hx)) (by have := hp p List.mem_cons_self; omega)
theorem fold_ge {q v : Int} : ∀ (ps : List (Int × Int)) (r : Int) (o : Option Int), ps.Pairwise (fun a b => a.1 ≤ b.1) → (∀ p ∈ ps, 0 ≤ p.2) → r + sumB (fun x => decide (x < v)) ps < q → q ≤ r + sumB (fun _ => true) ps →
    ∃ e, (ps.foldl (stepE q) (r, o)).2 = some e ∧ v ≤ e
  | [], r, o, _, _, h1, h2 => by
    exfalso
    have e1 : sumB (fun x => decide (x < v)) [] = 0 := rfl
    have e2 : sumB (fun _ => true) [] = 0 := rfl
    omega
  | p :: ps, r, o, hs, hp, h1, h2 => by
    rw [sumB_cons] at h1 h2
    have hs' := List.pairwise_cons.mp hs
    have hp0 := hp p List.mem_cons_self
    have hps : ∀ x ∈ ps, 0 ≤ x.2 := fun x hx => hp x (List.mem_cons_of_mem _ hx)
    rw [List.foldl_cons]
    by_cases hv : p.1 < v
    · rw [if_pos (decide_eq_true hv)] at h1
      rw [if_pos rfl] at h2
      exact fold_ge ps (r + p.2) _ hs'.2 hps (by omega) (by omega)
    · have z := sumB_nn (f := fun x => decide (x < v)) ps hps
      rw [if_neg (by simp [hv])] at h1
      unfold stepE
      dsimp only
      rw [if_pos (by omega)]
      exact fold_keep ps _ _ (by omega) fun x hx => by have := hs'.1 x hx; omega
theorem fold_lt {q v : Int} : ∀ (ps : List (Int × Int)) (r : Int) (o : Option Int), ps.Pairwise (fun a b => a.1 ≤ b.1) → (∀ p ∈ ps, 0 ≤ p.2) → r < q → q ≤ r + sumB (fun x => decide (x < v)) ps →
    ∃ e, (ps.foldl (stepE q) (r, o)).2 = some e ∧ e < v
  | [], r, o, _, _, h1, h2 => by
    exfalso
    have e1 : sumB (fun x => decide (x < v)) [] = 0 := rfl
    omega
  | p :: ps, r, o, hs, hp, h1, h2 => by
    rw [sumB_cons] at h2
    have hs' := List.pairwise_cons.mp hs
    have hps : ∀ x ∈ ps, 0 ≤ x.2 := fun x hx => hp x (List.mem_cons_of_mem _ hx)
    rw [List.foldl_cons]
    by_cases hv : p.1 < v
    · rw [if_pos (decide_eq_true hv)] at h2
      unfold stepE
      dsimp only
      rw [if_pos h1]
      by_cases hq : q ≤ r + p.2
      · exact ⟨p.1, fold_stop ps _ _ hps hq, hv⟩
      · exact fold_lt ps (r + p.2) _ hs'.2 hps (by omega) (by omega)
    · exfalso
      rw [if_neg (by simp [hv]), sumB_none ps fun x hx => by have := hs'.1 x hx; simp; omega] at h2
      omega
theorem srt_pw (ps : List (Int × Int)) : (srt (Int × Int) false ps).Pairwise fun a b => a.1 ≤ b.1 := (srt_sorted ps).imp fun h => pair_le h
theorem zip_snd {es ws : List Int} {p : Int × Int} (h : p ∈ es.zip ws) : p.2 ∈ ws := (List.of_mem_zip (a := p.1) (b := p.2) h).2
theorem sumB_all {es ws : List Int} (h : es.length = ws.length) : sumB (fun _ => true) (es.zip ws) = ws.sum := by
  unfold sumB
  have : (es.zip ws).map (fun p => if (fun _ : Int => true) p.1 = true then p.2 else 0) = (es.zip ws).map Prod.snd := List.map_congr_left fun p _ => if_pos rfl
  rw [this, List.map_snd_zip (by omega)]
/-- the made entry is v or more just if the seats below v have no quota -/
theorem col_iff {ws es : List Int} {q v e : Int} (h : es.length = ws.length) (hw : ∀ w ∈ ws, 0 ≤ w) (hq : 1 ≤ q) (ht : q ≤ ws.sum) (he : colOf ws es q = some e) : v ≤ e ↔ sumB (fun x => decide (x < v)) (es.zip ws) < q := by
  have pm : (srt (Int × Int) false (es.zip ws)).Perm (es.zip ws) := List.mergeSort_perm _ _
  have hp : ∀ p ∈ srt (Int × Int) false (es.zip ws), 0 ≤ p.2 := fun p hp => hw _ (zip_snd (pm.mem_iff.mp hp))
  have he : ((srt (Int × Int) false (es.zip ws)).foldl (stepE q) (0, none)).2 = some e := he
  constructor
  · intro hv
    refine Int.not_le.mp fun hn => ?_
    obtain ⟨e', h1, h2⟩ := fold_lt (q := q) (v := v) (srt (Int × Int) false (es.zip ws)) 0 none (srt_pw _) hp (by omega) (by rw [sumB_perm pm]; omega)
    rw [he] at h1
    cases h1
    omega
  · intro hv
    obtain ⟨e', h1, h2⟩ := fold_ge (q := q) (v := v) (srt (Int × Int) false (es.zip ws)) 0 none (srt_pw _) hp (by rw [sumB_perm pm]; omega) (by rw [sumB_perm pm, sumB_all h]; omega)
    rw [he] at h1
    cases h1
    exact h2
/-- the weight of the seats whose rows miss a bound -/
def missW (ws : List Int) (rows : List (Tu Int)) (b : Bd) : Int := ((rows.zip ws).map fun p => if okB p.1.l b = true then 0 else p.2).sum
theorem missW_snoc {ws : List Int} {rows : List (Tu Int)} (h : rows.length = ws.length) (w : Int) (r : Tu Int) (b : Bd) : missW (ws ++ [w]) (rows ++ [r]) b = missW ws rows b + if okB r.l b = true then 0 else w := by
  unfold missW
  rw [List.zip_append h, List.map_append, List.sum_append]
  simp
theorem missW_sumB (f : Int → Bool) (c : Nat) (b : Bd) (hf : ∀ r : List Int, okB r b = !f (r.getD c 0)) : ∀ (rows : List (Tu Int)) (ws : List Int), missW ws rows b = sumB f ((rows.map fun r => r.l.getD c 0).zip ws)
  | [], _ => by simp [missW, sumB]
  | _ :: _, [] => by simp [missW, sumB]
  | r :: rows, w :: ws => by
    have ih := missW_sumB f c b hf rows ws
    unfold missW at ih ⊢
    rw [List.map_cons, List.zip_cons_cons, List.zip_cons_cons, List.map_cons, List.sum_cons, sumB_cons, ih, hf]
    congr 1
    cases f (r.l.getD c 0) <;> simp
theorem sumB_compl {f g : Int → Bool} (h : ∀ x, g x = !f x) : ∀ ps : List (Int × Int), sumB f ps + sumB g ps = sumB (fun _ => true) ps
  | [] => rfl
  | p :: ps => by
    rw [sumB_cons, sumB_cons, sumB_cons, ← sumB_compl h ps, h]
    cases f p.1 <;> simp <;> omega
structure SesOk (p : List Int × List Int) : Prop where
  ne : p.1 ≠ []
  w : ∀ w ∈ p.1, 0 ≤ w
  q : ∀ x ∈ p.2, 1 ≤ x ∧ x ≤ p.1.sum
/-- a made row meets a bound -/
theorem okB_stl {p : List Int × List Int} (ok : SesOk p) {rows : List (Tu Int)} (h : rows.length = p.1.length) {b : Bd} (hb : 0 ≤ b.c ∧ b.c < p.2.length) : okB (stl p.1 p.2 rows) b = decide (missW p.1 rows b ≤ room p.1 p.2 (b.c, b.w)) := by
  obtain ⟨ws, qs⟩ := p
  obtain ⟨ne, hw, hq⟩ := ok
  have hb : 0 ≤ b.c ∧ b.c < qs.length := hb
  have h : rows.length = ws.length := h
  obtain ⟨c, w, v⟩ := b
  have hb : 0 ≤ c ∧ c < qs.length := hb
  obtain ⟨n, rfl⟩ : ∃ n : Nat, c = (n : Int) := ⟨c.toNat, by omega⟩
  have hn : n < qs.length := by have := hb.2; show n < _; exact Int.ofNat_lt.mp this
  let es := rows.map fun r => r.l.getD n 0
  have hes : es.length = ws.length := by show (rows.map _).length = _; rw [List.length_map, h]
  have hqn : qs.getD n 0 ∈ qs := by rw [getD_lt hn]; exact List.getElem_mem hn
  have hq1 := hq _ hqn
  obtain ⟨e, he⟩ := Option.isSome_iff_exists.mp (col_some (ws := ws) (es := es) hq1.1 hes ne)
  have hst : (stl ws qs rows).getD n 0 = e := by
    unfold stl
    rw [getD_lt (by rw [List.length_map, List.length_range]; exact hn), List.getElem_map, List.getElem_range]
    show (colOf ws es (qs.getD n 0)).getD 0 = e
    rw [he]; rfl
  cases w with
  | least =>
    have h1 := col_iff (v := v) hes hw hq1.1 hq1.2 he
    have h2 := missW_sumB (fun x => decide (x < v)) n ⟨n, .least, v⟩ (fun r => by
      show decide (v ≤ r.getD ((n : Int)).toNat 0) = _
      rw [Int.toNat_natCast]
      by_cases z : v ≤ r.getD n 0
      · rw [decide_eq_true z, decide_eq_false (by omega)]; rfl
      · rw [decide_eq_false z, decide_eq_true (by omega)]; rfl) rows ws
    show decide (v ≤ (stl ws qs rows).getD ((n : Int)).toNat 0) = decide (missW ws rows ⟨n, .least, v⟩ ≤ qs.getD ((n : Int)).toNat 0 - 1)
    rw [Int.toNat_natCast, hst, h2]
    apply decide_eq_decide.mpr
    rw [h1]
    show sumB (fun x => decide (x < v)) (es.zip ws) < _ ↔ sumB (fun x => decide (x < v)) (es.zip ws) ≤ _
    exact ⟨fun z => by omega, fun z => by omega⟩
  | most =>
    have h1 := col_iff (v := v + 1) hes hw hq1.1 hq1.2 he
    have h2 := missW_sumB (fun x => decide (v < x)) n ⟨n, .most, v⟩ (fun r => by
      show decide (r.getD ((n : Int)).toNat 0 ≤ v) = _
      rw [Int.toNat_natCast]
      by_cases z : r.getD n 0 ≤ v
      · rw [decide_eq_true z, decide_eq_false (by omega)]; rfl
      · rw [decide_eq_false z, decide_eq_true (by omega)]; rfl) rows ws
    have h3 := sumB_compl (f := fun x => decide (x < v + 1)) (g := fun x => decide (v < x)) (fun x => by
      by_cases z : x < v + 1
      · rw [decide_eq_true z, decide_eq_false (by omega)]; rfl
      · rw [decide_eq_false z, decide_eq_true (by omega)]; rfl) (es.zip ws)
    rw [sumB_all hes] at h3
    show decide ((stl ws qs rows).getD ((n : Int)).toNat 0 ≤ v) = decide (missW ws rows ⟨n, .most, v⟩ ≤ ws.sum - qs.getD ((n : Int)).toNat 0)
    rw [Int.toNat_natCast, hst, h2]
    apply decide_eq_decide.mpr
    have h4 : e ≤ v ↔ ¬ v + 1 ≤ e := ⟨fun z => by omega, fun z => by omega⟩
    rw [h4, h1]
    show ¬ sumB (fun x => decide (x < v + 1)) (es.zip ws) < _ ↔ sumB (fun x => decide (v < x)) (es.zip ws) ≤ _
    exact ⟨fun z => by omega, fun z => by omega⟩
/-! ### rows and their sets -/
def metL (bds : List Bd) (r : Tu Int) : List Bd := (bds.filter fun b => [b].all (okB r.l)).map id
theorem in_metL {bds : List Bd} {r : Tu Int} {b : Bd} : b ∈ metL bds r ↔ b ∈ bds ∧ okB r.l b = true := by
  unfold metL; rw [List.map_id, List.mem_filter]; simp
theorem missSum_metL {bds : List Bd} {b : Bd} (hb : b ∈ bds) : ∀ (rows : List (Tu Int)) (ws : List Int), rows.length = ws.length → missSum ws ⟨rows.map (metL bds)⟩ b = missW ws rows b := fun rows => by
  refine snoc_ind (P := fun rows => ∀ ws : List Int, rows.length = ws.length → missSum ws ⟨rows.map (metL bds)⟩ b = missW ws rows b) (fun ws h => ?_) (fun rows r ih ws h => ?_) rows
  · have : ws = [] := List.length_eq_zero_iff.mp (by simpa using h.symm)
    subst this
    simp [missSum, missW, rng]
  · obtain ⟨ys, w, rfl⟩ : ∃ ys w, ws = ys ++ [w] := ⟨ws.dropLast, ws.getLast (by intro z; rw [z] at h; simp at h), (List.dropLast_concat_getLast _).symm⟩
    have h' : rows.length = ys.length := by simpa using h
    rw [List.map_append, List.map_singleton, miss_snoc (by rw [List.length_map]; exact h'.symm), ih ys h', missW_snoc h']
    congr 1
    by_cases z : okB r.l b = true
    · rw [if_pos z, if_pos (in_metL.mpr ⟨hb, z⟩)]
    · rw [if_neg z, if_neg fun y => z (in_metL.mp y).2]
theorem metL_stl {p : List Int × List Int} (ok : SesOk p) {bds : List Bd} (hb : ∀ b ∈ bds, 0 ≤ b.c ∧ b.c < p.2.length) {rows : List (Tu Int)} (h : rows.length = p.1.length) : metL bds ⟨stl p.1 p.2 rows⟩ = someOf bds (roomsB p bds) p.1 ⟨rows.map (metL bds)⟩ := by
  unfold metL someOf roomsB
  have : ∀ L : List Bd, (∀ b ∈ L, b ∈ bds) → (L.filter fun b => [b].all (okB (stl p.1 p.2 rows))).map id = ((L.zip (L.map fun b => room p.1 p.2 (b.c, b.w))).filter fun q => decide (missSum p.1 ⟨rows.map (metL bds)⟩ q.1 ≤ q.2)).map Prod.fst := by
    intro L
    induction L with
    | nil => intro _; rfl
    | cons b L ih =>
      intro hL
      have hbb := hL b List.mem_cons_self
      have e : [b].all (okB (stl p.1 p.2 rows)) = decide (missSum p.1 ⟨rows.map (metL bds)⟩ b ≤ room p.1 p.2 (b.c, b.w)) := by
        rw [missSum_metL hbb rows p.1 h, ← okB_stl ok h (hb b hbb)]; simp
      rw [List.map_cons, List.zip_cons_cons, List.filter_cons, List.filter_cons, e]
      have ih' := ih fun x hx => hL x (List.mem_cons_of_mem _ hx)
      split
      · rw [List.map_cons, List.map_cons, ih']; rfl
      · exact ih'
  exact this bds fun b hb => hb
end Pk

/-! The plain law: rounds of rows meet what rounds of sets meet; how many rows there are. -/
namespace Pk
open PySem L2
open PySem.W (dataLe sort_pairwise)
open Enc (enc dep)
theorem lgr_congr {A B : List (List Bd)} (h : ∀ s, s ∈ A ↔ s ∈ B) : lgr A = lgr B := sorted_ext (lgr_sorted A) (lgr_sorted B) (lgr_nodup A) (lgr_nodup B) fun x => by
  rw [mem_lgr, mem_lgr, h]
  exact ⟨fun ⟨h1, h2⟩ => ⟨h1, fun o ho => h2 o ((h o).mpr ho)⟩, fun ⟨h1, h2⟩ => ⟨h1, fun o ho => h2 o ((h o).mp ho)⟩⟩
theorem lgr_top {A B : List (List Bd)} (sub : ∀ b ∈ B, b ∈ A) (up : ∀ a ∈ A, ∃ b ∈ B, wthn a b = true) (anti : ∀ a ∈ A, ∀ b ∈ A, wthn a b = true → wthn b a = true → a = b) : lgr A = lgr B := sorted_ext (lgr_sorted A) (lgr_sorted B) (lgr_nodup A) (lgr_nodup B) fun x => by
  rw [mem_lgr, mem_lgr]
  constructor
  · rintro ⟨h1, h2⟩
    obtain ⟨b, hb, hw⟩ := up x h1
    have e : b = x := by
      by_cases z : b = x
      · exact z
      · exact absurd ⟨z, hw⟩ (h2 b (sub b hb))
    subst e
    exact ⟨hb, fun o ho => h2 o (sub o ho)⟩
  · rintro ⟨h1, h2⟩
    refine ⟨sub x h1, fun o ho ⟨hne, hw⟩ => ?_⟩
    obtain ⟨b, hb, hw2⟩ := up o ho
    have tr : wthn x b = true := wthn_iff.mpr fun c hc => wthn_iff.mp hw2 c (wthn_iff.mp hw c hc)
    have e : b = x := by
      by_cases z : b = x
      · exact z
      · exact absurd ⟨z, tr⟩ (h2 b hb)
    subst e
    exact hne (anti o ho b (sub b h1) hw2 hw)
def IsF (bds : List Bd) (s : List Bd) : Prop := ∃ f : Bd → Bool, s = bds.filter f
theorem isF_anti {bds a b : List Bd} (ha : IsF bds a) (hb : IsF bds b) (h1 : wthn a b = true) (h2 : wthn b a = true) : a = b := by
  obtain ⟨f, rfl⟩ := ha
  obtain ⟨g, rfl⟩ := hb
  refine List.filter_congr fun x hx => ?_
  have q1 := wthn_iff.mp h1 x
  have q2 := wthn_iff.mp h2 x
  rw [List.mem_filter, List.mem_filter] at q1 q2
  cases hf : f x with
  | true => exact ((q1 ⟨hx, hf⟩).2).symm
  | false =>
    cases hg : g x with
    | false => rfl
    | true => have := (q2 ⟨hx, hg⟩).2; rw [hf] at this; cases this
theorem zip_filt {α β : Type} (f : α → β) (g : α → β → Bool) : ∀ L : List α, ((L.zip (L.map f)).filter fun q => g q.1 q.2).map Prod.fst = L.filter fun b => g b (f b)
  | [] => rfl
  | b :: L => by
    rw [List.map_cons, List.zip_cons_cons, List.filter_cons, List.filter_cons]
    have ih := zip_filt f g L
    split
    · rw [List.map_cons, ih]
    · exact ih
theorem some_filt (bds : List Bd) (p : List Int × List Int) (s : Tu (List Bd)) : someOf bds (roomsB p bds) p.1 s = bds.filter fun b => decide (missSum p.1 s b ≤ room p.1 p.2 (b.c, b.w)) :=
  zip_filt (fun b : Bd => room p.1 p.2 (b.c, b.w)) (fun (b : Bd) r => decide (missSum p.1 s b ≤ r)) bds
theorem metL_F {bds : List Bd} {r : Tu Int} : IsF bds (metL bds r) := ⟨_, by unfold metL; rw [List.map_id]⟩
theorem some_F {bds : List Bd} {p : List Int × List Int} {s : Tu (List Bd)} : IsF bds (someOf bds (roomsB p bds) p.1 s) := ⟨_, some_filt bds p s⟩
theorem miss_mono (b : Bd) : ∀ (ps : List (List Bd × List Bd)) (ws : List Int), ws.length = ps.length → (∀ w ∈ ws, 0 ≤ w) → (∀ p ∈ ps, wthn p.1 p.2 = true) → missSum ws ⟨ps.map Prod.snd⟩ b ≤ missSum ws ⟨ps.map Prod.fst⟩ b := fun ps => by
  refine snoc_ind (P := fun ps => ∀ ws : List Int, ws.length = ps.length → (∀ w ∈ ws, 0 ≤ w) → (∀ p ∈ ps, wthn p.1 p.2 = true) → missSum ws ⟨ps.map Prod.snd⟩ b ≤ missSum ws ⟨ps.map Prod.fst⟩ b) (fun ws h _ _ => ?_) (fun ps p ih ws h hw hp => ?_) ps
  · exact Int.le_refl _
  · obtain ⟨ys, w, rfl⟩ : ∃ ys w, ws = ys ++ [w] := ⟨ws.dropLast, ws.getLast (by intro z; rw [z] at h; simp at h), (List.dropLast_concat_getLast _).symm⟩
    have h' : ys.length = ps.length := by simpa using h
    rw [List.map_append, List.map_append, List.map_singleton, List.map_singleton, miss_snoc (by rw [List.length_map]; exact h'), miss_snoc (by rw [List.length_map]; exact h')]
    have i1 := ih ys h' (fun w hw' => hw w (List.mem_append_left _ hw')) fun q hq => hp q (List.mem_append_left _ hq)
    have i2 := hw w (by simp)
    have i3 := wthn_iff.mp (hp p (by simp)) b
    by_cases z : b ∈ p.1
    · rw [if_pos z, if_pos (i3 z)]; omega
    · rw [if_neg z]; split <;> omega
theorem some_mono {bds : List Bd} {p : List Int × List Int} (hw : ∀ w ∈ p.1, 0 ≤ w) {ps : List (List Bd × List Bd)} (h : p.1.length = ps.length) (hp : ∀ q ∈ ps, wthn q.1 q.2 = true) :
    wthn (someOf bds (roomsB p bds) p.1 ⟨ps.map Prod.fst⟩) (someOf bds (roomsB p bds) p.1 ⟨ps.map Prod.snd⟩) = true := wthn_iff.mpr fun b hb => by
  rw [some_filt, List.mem_filter, decide_eq_true_eq] at hb ⊢
  exact ⟨hb.1, Int.le_trans (miss_mono b ps p.1 h hw hp) hb.2⟩
theorem lawMet_map (rows : List (Tu Int)) (bds : List Bd) : lawMet rows bds = rows.map (metL bds) := rfl
theorem up_row {bds : List Bd} (nd : bds.Nodup) {rows : List (Tu Int)} {r : Tu Int} (hr : r ∈ rows) : ∃ t ∈ lgr (lawMet rows bds), wthn (metL bds r) t = true := by
  have hn : NdLt (2 ^ bds.length) (difs (rows.map (metOf bds))) := ⟨difs_nodup _, fun x hx => by
    rw [difs_mem] at hx
    obtain ⟨r, _, rfl⟩ := List.mem_map.mp hx
    exact met_lt⟩
  have hm : metOf bds r ∈ difs (rows.map (metOf bds)) := (difs_mem _ _).mpr (List.mem_map.mpr ⟨r, hr, rfl⟩)
  obtain ⟨t, h1, h2⟩ := grt_above hn _ _ (Nat.le_refl _) hm
  refine ⟨mem bds t, ?_, ?_⟩
  · rw [lev0_eq nd]; exact in_psi.mpr ⟨t, h1, rfl⟩
  · have e : metL bds r = mem bds (metOf bds r) := by rw [met_sb, mem_sb]; unfold metL; rw [List.map_id]
    rw [e]
    exact (wthn_mem nd (hn.lt _ hm)).mpr h2
theorem choose_map {α β : Type} {g : α → β} {A : List α} : ∀ ts : List β, (∀ t ∈ ts, t ∈ A.map g) → ∃ rs : List α, rs.map g = ts ∧ ∀ r ∈ rs, r ∈ A
  | [], _ => ⟨[], rfl, by simp⟩
  | t :: ts, h => by
    obtain ⟨r, h1, h2⟩ := List.mem_map.mp (h t List.mem_cons_self)
    obtain ⟨rs, h3, h4⟩ := choose_map ts fun x hx => h x (List.mem_cons_of_mem _ hx)
    exact ⟨r :: rs, by rw [List.map_cons, h3, h2], fun x hx => by
      rcases List.mem_cons.mp hx with rfl | hx
      · exact h1
      · exact h4 x hx⟩
theorem choose_up {α β : Type} {R : α → β → Prop} {A : List β} : ∀ as : List α, (∀ a ∈ as, ∃ b ∈ A, R a b) → ∃ ps : List (α × β), ps.map Prod.fst = as ∧ ∀ p ∈ ps, p.2 ∈ A ∧ R p.1 p.2
  | [], _ => ⟨[], rfl, by simp⟩
  | a :: as, h => by
    obtain ⟨b, h1, h2⟩ := h a List.mem_cons_self
    obtain ⟨ps, h3, h4⟩ := choose_up as fun x hx => h x (List.mem_cons_of_mem _ hx)
    exact ⟨(a, b) :: ps, by rw [List.map_cons, h3], fun x hx => by
      rcases List.mem_cons.mp hx with rfl | hx
      · exact ⟨h1, h2⟩
      · exact h4 x hx⟩
theorem rnd_next {bds : List Bd} (nd : bds.Nodup) {plans : List (List Int × List Int)} (ok : ∀ p ∈ plans, SesOk p) (hb : ∀ p ∈ plans, ∀ b ∈ bds, 0 ≤ b.c ∧ b.c < p.2.length) (rows : List (Tu Int)) :
    lgr (lawMet (rnd plans rows) bds) = lawNext plans bds (lgr (lawMet rows bds)) := by
  have e1 : lgr (lawMet (rnd plans rows) bds) = lgr (lawMet (rndAll plans rows) bds) := lgr_congr fun s => by
    rw [lawMet_map, lawMet_map, List.mem_map, List.mem_map]
    exact ⟨fun ⟨r, h, e⟩ => ⟨r, sset_mem.mp h, e⟩, fun ⟨r, h, e⟩ => ⟨r, sset_mem.mpr h, e⟩⟩
  rw [e1]
  let level := lgr (lawMet rows bds)
  have hlv : ∀ t ∈ level, t ∈ rows.map (metL bds) := fun t ht => (mem_lgr.mp ht).1
  have inA : ∀ s, s ∈ lawMet (rndAll plans rows) bds ↔ s ∈ rows.map (metL bds) ∨ ∃ p ∈ plans, ∃ rs : List (Tu Int), rs.length = p.1.length ∧ (∀ r ∈ rs, r ∈ rows) ∧ s = someOf bds (roomsB p bds) p.1 ⟨rs.map (metL bds)⟩ := by
    intro s
    rw [lawMet_map]
    unfold rndAll
    rw [List.map_append, List.mem_append]
    refine or_congr Iff.rfl ?_
    rw [List.mem_map]
    constructor
    · rintro ⟨x, hx, rfl⟩
      obtain ⟨p, hp, hx⟩ := List.mem_flatMap.mp hx
      obtain ⟨t, ht, rfl⟩ := List.mem_map.mp hx
      obtain ⟨h1, h2⟩ := (seats_iff _ _ _).mp ht
      exact ⟨p, hp, t.l, h1, h2, metL_stl (ok p hp) (hb p hp) h1⟩
    · rintro ⟨p, hp, rs, h1, h2, rfl⟩
      exact ⟨⟨stl p.1 p.2 rs⟩, List.mem_flatMap.mpr ⟨p, hp, List.mem_map.mpr ⟨⟨rs⟩, (seats_iff _ _ _).mpr ⟨h1, h2⟩, rfl⟩⟩, metL_stl (ok p hp) (hb p hp) h1⟩
  refine lgr_top (fun s hs => ?_) (fun s hs => ?_) (fun a ha b hb' h1 h2 => ?_)
  · rw [lwStep_mem] at hs
    rw [inA]
    rcases hs with hs | ⟨p, hp, t, ht, rfl⟩
    · exact .inl (hlv s hs)
    · obtain ⟨h1, h2⟩ := (seats_iff _ _ _).mp ht
      obtain ⟨rs, h3, h4⟩ := choose_map t.l fun x hx => hlv x (h2 x hx)
      refine .inr ⟨p, hp, rs, by rw [← h1, ← h3, List.length_map], h4, ?_⟩
      rw [h3]
  · rw [inA] at hs
    rcases hs with hs | ⟨p, hp, rs, h1, h2, rfl⟩
    · obtain ⟨r, hr, rfl⟩ := List.mem_map.mp hs
      obtain ⟨t, ht, hw⟩ := up_row nd hr
      exact ⟨t, (lwStep_mem plans _).mpr (.inl ht), hw⟩
    · obtain ⟨ps, h3, h4⟩ := choose_up (R := fun a b => wthn a b = true) (A := level) (rs.map (metL bds)) fun s hs => by
        obtain ⟨r, hr, rfl⟩ := List.mem_map.mp hs
        exact up_row nd (h2 r hr)
      have hl : p.1.length = ps.length := by rw [← h1, ← List.length_map (f := metL bds) (as := rs), ← h3, List.length_map]
      refine ⟨someOf bds (roomsB p bds) p.1 ⟨ps.map Prod.snd⟩, (lwStep_mem plans _).mpr (.inr ⟨p, hp, ⟨ps.map Prod.snd⟩, (seats_iff _ _ _).mpr ⟨by show (ps.map Prod.snd).length = _; rw [List.length_map]; exact hl.symm, fun x hx => ?_⟩, rfl⟩), ?_⟩
      · obtain ⟨q, hq, rfl⟩ := List.mem_map.mp (show x ∈ ps.map Prod.snd from hx)
        exact (h4 q hq).1
      · rw [← h3]
        exact some_mono (ok p hp).w hl fun q hq => (h4 q hq).2
  · have F : ∀ s, s ∈ lawMet (rndAll plans rows) bds → IsF bds s := fun s hs => by
      rcases (inA s).mp hs with h | ⟨p, _, rs, _, _, rfl⟩
      · obtain ⟨r, _, rfl⟩ := List.mem_map.mp h
        exact metL_F
      · exact some_F
    exact isF_anti (F a ha) (F b hb') h1 h2
/-! ### how many rows -/
theorem nodup_sub {α : Type} [DecidableEq α] : ∀ (l m : List α), l.Nodup → (∀ x ∈ l, x ∈ m) → l.length ≤ m.length
  | [], m, _, _ => Nat.zero_le _
  | x :: l, m, nd, h => by
    have hx := h x List.mem_cons_self
    have nd' := List.nodup_cons.mp nd
    have ih := nodup_sub l (m.erase x) nd'.2 fun y hy => (List.mem_erase_of_ne fun e => by subst e; exact nd'.1 hy).mpr (h y (List.mem_cons_of_mem _ hy))
    have hl := List.length_erase_of_mem hx
    have := List.length_pos_of_mem hx
    rw [List.length_cons]; omega
def box (lo : Int) (n : Nat) : Nat → List (List Int)
  | 0 => [[]]
  | w + 1 => (box lo n w).flatMap fun xs => (List.range n).map fun i : Nat => (lo + (i : Int)) :: xs
theorem box_len (lo : Int) (n : Nat) : ∀ w, (box lo n w).length = n ^ w
  | 0 => rfl
  | w + 1 => by
    have : ∀ L : List (List Int), (L.flatMap fun xs => (List.range n).map fun i : Nat => (lo + (i : Int)) :: xs).length = L.length * n := fun L => by
      induction L with
      | nil => simp
      | cons x L ih => rw [List.flatMap_cons, List.length_append, ih, List.length_map, List.length_range, List.length_cons, Nat.succ_mul]; omega
    unfold box
    rw [this, box_len lo n w, Nat.pow_succ]
theorem in_box {lo : Int} {n : Nat} : ∀ xs : List Int, (∀ e ∈ xs, lo ≤ e ∧ e < lo + n) → xs ∈ box lo n xs.length
  | [], _ => List.mem_singleton.mpr rfl
  | x :: xs, h => by
    have ih := in_box xs fun e he => h e (List.mem_cons_of_mem _ he)
    have hx := h x List.mem_cons_self
    refine List.mem_flatMap.mpr ⟨xs, ih, List.mem_map.mpr ⟨(x - lo).toNat, List.mem_range.mpr (by omega), ?_⟩⟩
    congr 1; omega
structure InB (lo : Int) (n w : Nat) (r : Tu Int) : Prop where
  w : r.l.length = w
  e : ∀ e ∈ r.l, lo ≤ e ∧ e < lo + n
theorem inB_len {lo : Int} {n w : Nat} {L : List (Tu Int)} (h : ∀ r ∈ L, InB lo n w r) (nd : L.Nodup) : L.length ≤ n ^ w := by
  have h1 := nodup_sub (L.map Tu.l) (box lo n w) (by
    unfold List.Nodup at *
    rw [List.pairwise_map]
    exact nd.imp fun hne e => hne (by
      rename_i a b
      cases a; cases b
      cases e; rfl)) fun x hx => by
    obtain ⟨r, hr, rfl⟩ := List.mem_map.mp hx
    have := in_box r.l (h r hr).e
    rw [(h r hr).w] at this
    exact this
  rwa [List.length_map, box_len] at h1
theorem fold_in {q : Int} {P : Int → Prop} : ∀ (ps : List (Int × Int)) (r : Int) (o : Option Int), (∀ p ∈ ps, P p.1) → (∀ e, o = some e → P e) → ∀ e, (ps.foldl (stepE q) (r, o)).2 = some e → P e
  | [], r, o, _, h, e, he => h e he
  | p :: ps, r, o, hp, h, e, he => by
    rw [List.foldl_cons] at he
    refine fold_in ps _ _ (fun x hx => hp x (List.mem_cons_of_mem _ hx)) ?_ e he
    intro e' he'
    unfold stepE at he'
    dsimp only at he'
    split at he'
    · cases he'; exact hp p List.mem_cons_self
    · exact h e' he'
theorem stl_in {lo : Int} {n w : Nat} {p : List Int × List Int} (ok : SesOk p) (hw : p.2.length = w) {rows : List (Tu Int)} (h : rows.length = p.1.length) (hr : ∀ r ∈ rows, InB lo n w r) : InB lo n w ⟨stl p.1 p.2 rows⟩ := by
  refine ⟨by show (stl p.1 p.2 rows).length = w; rw [stl_len, hw], fun e he => ?_⟩
  obtain ⟨c, hc, rfl⟩ := List.mem_map.mp (show e ∈ stl p.1 p.2 rows from he)
  rw [List.mem_range] at hc
  have hq : p.2.getD c 0 ∈ p.2 := by rw [getD_lt hc]; exact List.getElem_mem hc
  obtain ⟨z, hz⟩ := Option.isSome_iff_exists.mp (col_some (ws := p.1) (es := rows.map fun r => r.l.getD c 0) (ok.q _ hq).1 (by rw [List.length_map, h]) ok.ne)
  rw [hz]
  refine fold_in (P := fun e => lo ≤ e ∧ e < lo + n) _ _ _ (fun x hx => ?_) (fun _ z => by cases z) z hz
  have := (List.of_mem_zip (a := x.1) (b := x.2) (srt_mem.mp hx)).1
  obtain ⟨r, hr', e⟩ := List.mem_map.mp this
  rw [← e, getD_lt (by rw [(hr r hr').w, ← hw]; exact hc)]
  exact (hr r hr').e _ (List.getElem_mem _)
theorem rndAll_in {lo : Int} {n w : Nat} {plans : List (List Int × List Int)} (ok : ∀ p ∈ plans, SesOk p ∧ p.2.length = w) {rows : List (Tu Int)} (hr : ∀ r ∈ rows, InB lo n w r) : ∀ r ∈ rndAll plans rows, InB lo n w r := fun r h => by
  rcases List.mem_append.mp h with h | h
  · exact hr r h
  · obtain ⟨p, hp, h⟩ := List.mem_flatMap.mp h
    obtain ⟨s, hs, rfl⟩ := List.mem_map.mp h
    obtain ⟨h1, h2⟩ := seats_each rows _ s hs
    exact stl_in (ok p hp).1 (ok p hp).2 h1 fun r hr' => hr r (h2 r hr')
end Pk

/-! Packings of weights into rooms: loads, and when they fit. Plain. -/
namespace Pk
def cnt (v : Int) (L : List Int) : Nat := (L.filter fun x => decide (v ≤ x)).length
theorem cnt_cons (v x : Int) (L : List Int) : cnt v (x :: L) = (if v ≤ x then 1 else 0) + cnt v L := by
  unfold cnt
  rw [List.filter_cons]
  by_cases h : v ≤ x
  · simp [h]; omega
  · simp [h]
theorem cnt_append (v : Int) (L M : List Int) : cnt v (L ++ M) = cnt v L + cnt v M := by unfold cnt; rw [List.filter_append, List.length_append]
theorem cnt_perm {v : Int} {L M : List Int} (h : L.Perm M) : cnt v L = cnt v M := (h.filter _).length_eq
def Dom (L R : List Int) : Prop := ∀ v, cnt v L ≤ cnt v R
theorem Dom.perm {L L' R R' : List Int} (d : Dom L R) (h : L.Perm L') (h' : R.Perm R') : Dom L' R' := fun v => by rw [← cnt_perm h, ← cnt_perm h']; exact d v
theorem cnt_sub {v : Int} {L M : List Int} (h : L.Sublist M) : cnt v L ≤ cnt v M := (h.filter _).length_le
theorem Dom.sub {L R R' : List Int} (d : Dom L R) (h : R.Sublist R') : Dom L R' := fun v => Nat.le_trans (d v) (cnt_sub h)
theorem cnt_pos {v x : Int} {L : List Int} (h : x ∈ L) (hv : v ≤ x) : 0 < cnt v L := List.length_pos_iff.mpr fun z => by
  have : x ∈ L.filter fun x => decide (v ≤ x) := List.mem_filter.mpr ⟨h, decide_eq_true hv⟩
  rw [z] at this; cases this
theorem of_cnt {v : Int} {L : List Int} (h : 0 < cnt v L) : ∃ x ∈ L, v ≤ x := by
  obtain ⟨x, hx⟩ := List.exists_mem_of_length_pos h
  obtain ⟨h1, h2⟩ := List.mem_filter.mp hx
  exact ⟨x, h1, of_decide_eq_true h2⟩
/-! ### the loads that seats lay -/
inductive Ld : List Int → List Int → Prop
  | nil : Ld [] []
  | new {ws L : List Int} {w : Int} : Ld ws L → Ld (ws ++ [w]) (w :: L)
  | add {ws L1 L2 : List Int} {x w : Int} : Ld ws (L1 ++ x :: L2) → Ld (ws ++ [w]) (L1 ++ (x + w) :: L2)
  | perm {ws L L' : List Int} : Ld ws L → L.Perm L' → Ld ws L'
theorem ld_nil {L : List Int} {us : List Int} (h : Ld us L) (e : us = []) : L = [] := by
  induction h with
  | nil => rfl
  | new _ _ => simp at e
  | add _ _ => simp at e
  | perm _ p ih => rw [ih e] at p; exact (List.Perm.nil_eq p).symm
theorem ld_snoc {us L' : List Int} (h : Ld us L') : ∀ {ws : List Int} {w : Int}, us = ws ++ [w] → ∃ L, Ld ws L ∧ (L'.Perm (w :: L) ∨ ∃ L1 x L2, L = L1 ++ x :: L2 ∧ L'.Perm (L1 ++ (x + w) :: L2)) := by
  induction h with
  | nil => intro ws w e; simp at e
  | new h _ =>
    intro ws w e
    obtain ⟨e1, e2⟩ := List.append_inj' e rfl
    cases e2
    subst e1
    exact ⟨_, h, .inl (.refl _)⟩
  | add h _ =>
    intro ws w e
    obtain ⟨e1, e2⟩ := List.append_inj' e rfl
    cases e2
    subst e1
    exact ⟨_, h, .inr ⟨_, _, _, rfl, .refl _⟩⟩
  | perm _ p ih =>
    intro ws w e
    obtain ⟨L, h1, h2⟩ := ih e
    refine ⟨L, h1, ?_⟩
    rcases h2 with h2 | ⟨L1, x, L2, e2, h2⟩
    · exact .inl (p.symm.trans h2)
    · exact .inr ⟨L1, x, L2, e2, p.symm.trans h2⟩
theorem ld_len {ws L : List Int} (h : Ld ws L) : L.length ≤ ws.length := by
  induction h with
  | nil => exact Nat.le_refl _
  | new _ ih => simp; omega
  | add _ ih => simp at *; omega
  | perm _ p ih => rw [← p.length_eq]; exact ih
theorem isum_perm {l m : List Int} (h : l.Perm m) : l.sum = m.sum := by
  induction h with
  | nil => rfl
  | cons x _ ih => rw [List.sum_cons, List.sum_cons, ih]
  | swap x y l => rw [List.sum_cons, List.sum_cons, List.sum_cons, List.sum_cons]; omega
  | trans _ _ h1 h2 => rw [h1, h2]
theorem ld_sum {ws L : List Int} (h : Ld ws L) : L.sum = ws.sum := by
  induction h with
  | nil => rfl
  | new _ ih => simp [ih]; omega
  | add _ ih => simp at *; omega
  | perm _ p ih => rw [← isum_perm p]; exact ih
/-- each weight lies in a load -/
theorem ld_each {ws L : List Int} (h : Ld ws L) : (∀ w ∈ ws, 0 ≤ w) → (∀ x ∈ L, 0 ≤ x) ∧ ∀ w ∈ ws, ∃ x ∈ L, w ≤ x := by
  induction h with
  | nil => intro _; exact ⟨fun x hx => (nomatch hx), fun x hx => (nomatch hx)⟩
  | @new ws L w _ ih =>
    intro hw
    have i := ih fun x hx => hw x (List.mem_append_left _ hx)
    have h0 := hw w (by simp)
    refine ⟨fun x hx => ?_, fun x hx => ?_⟩
    · rcases List.mem_cons.mp hx with rfl | hx
      · exact h0
      · exact i.1 x hx
    · rcases List.mem_append.mp hx with hx | hx
      · obtain ⟨y, h1, h2⟩ := i.2 x hx
        exact ⟨y, List.mem_cons_of_mem _ h1, h2⟩
      · rw [List.mem_singleton.mp hx]; exact ⟨w, List.mem_cons_self, Int.le_refl _⟩
  | @add ws L1 L2 x w _ ih =>
    intro hw
    have i := ih fun x hx => hw x (List.mem_append_left _ hx)
    have h0 := hw w (by simp)
    have hx0 := i.1 x (by simp)
    refine ⟨fun y hy => ?_, fun y hy => ?_⟩
    · rw [List.mem_append, List.mem_cons] at hy
      rcases hy with hy | rfl | hy
      · exact i.1 y (by simp [hy])
      · omega
      · exact i.1 y (by simp [hy])
    · rcases List.mem_append.mp hy with hy | hy
      · obtain ⟨z, h1, h2⟩ := i.2 y hy
        rw [List.mem_append, List.mem_cons] at h1
        rcases h1 with h1 | rfl | h1
        · exact ⟨z, by simp [h1], h2⟩
        · exact ⟨z + w, by simp, by omega⟩
        · exact ⟨z, by simp [h1], h2⟩
      · rw [List.mem_singleton.mp hy]; exact ⟨x + w, by simp, by omega⟩
  | perm _ p ih =>
    intro hw
    have i := ih hw
    exact ⟨fun x hx => i.1 x (p.mem_iff.mpr hx), fun w hw => by obtain ⟨y, h1, h2⟩ := i.2 w hw; exact ⟨y, p.mem_iff.mp h1, h2⟩⟩
/-- the seats can be packed into the rooms -/
def Hv (ws R : List Int) : Prop := ∃ L, Ld ws L ∧ Dom L R
theorem Hv.perm {ws R R' : List Int} (h : Hv ws R) (p : R.Perm R') : Hv ws R' := let ⟨L, h1, h2⟩ := h; ⟨L, h1, h2.perm (.refl _) p⟩
theorem Hv.sub {ws R R' : List Int} (h : Hv ws R) (p : R.Sublist R') : Hv ws R' := let ⟨L, h1, h2⟩ := h; ⟨L, h1, h2.sub p⟩
theorem hv_none {ws : List Int} (h : ws ≠ []) : ¬ Hv ws [] := fun ⟨L, h1, h2⟩ => by
  have e : L = [] := by
    cases L with
    | nil => rfl
    | cons x L => have := h2 x; rw [cnt_cons, if_pos (Int.le_refl _)] at this; simp [cnt] at this
  subst e
  have := ld_sum h1
  have hl : ∀ us L, Ld us L → L = [] → us = [] := fun us L h => by
    induction h with
    | nil => intro _; rfl
    | new _ _ => intro e; cases e
    | add _ _ => intro e; simp at e
    | perm _ p ih => intro e; subst e; exact ih (List.Perm.eq_nil p)
  exact h (hl _ _ h1 rfl)
/-! ### sorted loads -/
def fitsB (load tops : List Int) : Bool := decide (load.length ≤ tops.length) && ((load.zip tops).all fun p => decide (p.1 ≤ p.2))
abbrev Desc (L : List Int) : Prop := L.Pairwise fun a b => b ≤ a
theorem fits_dom : ∀ {L T : List Int}, fitsB L T = true → Dom L T
  | [], T, _ => fun v => by simp [cnt]
  | x :: L, [], h => by simp [fitsB] at h
  | x :: L, y :: T, h => fun v => by
    simp only [fitsB, List.length_cons, List.zip_cons_cons, List.all_cons, Bool.and_eq_true, decide_eq_true_eq] at h
    have ih := fits_dom (L := L) (T := T) (by simp only [fitsB, Bool.and_eq_true, decide_eq_true_eq]; exact ⟨by omega, h.2.2⟩) v
    rw [cnt_cons, cnt_cons]
    have h1 := h.2.1
    split <;> split <;> omega
theorem dom_fits : ∀ {L T : List Int}, Desc L → Desc T → Dom L T → fitsB L T = true
  | [], T, _, _, _ => by simp [fitsB]
  | x :: L, [], _, _, d => by have := d x; rw [cnt_cons, if_pos (Int.le_refl _)] at this; simp [cnt] at this
  | x :: L, y :: T, hL, hT, d => by
    have hL' := List.pairwise_cons.mp hL
    have hT' := List.pairwise_cons.mp hT
    have hxy : x ≤ y := by
      have h1 := d x
      rw [cnt_cons, if_pos (Int.le_refl _)] at h1
      obtain ⟨z, h2, h3⟩ := of_cnt (v := x) (L := y :: T) (by omega)
      rcases List.mem_cons.mp h2 with rfl | h2
      · exact h3
      · have := hT'.1 z h2; omega
    have d' : Dom L T := fun v => by
      by_cases h : v ≤ x
      · have h1 := d v
        rw [cnt_cons, cnt_cons, if_pos h, if_pos (by omega)] at h1
        omega
      · have : cnt v L = 0 := by
          cases q : cnt v L with
          | zero => rfl
          | succ n =>
            obtain ⟨z, h2, h3⟩ := of_cnt (v := v) (L := L) (by omega)
            have := hL'.1 z h2; omega
        omega
    have ih := dom_fits hL'.2 hT'.2 d'
    simp only [fitsB, Bool.and_eq_true, decide_eq_true_eq] at ih
    simp only [fitsB, List.length_cons, List.zip_cons_cons, List.all_cons, Bool.and_eq_true, decide_eq_true_eq]
    exact ⟨by omega, hxy, ih.2⟩
theorem fits_iff {L T : List Int} (hL : Desc L) (hT : Desc T) : fitsB L T = true ↔ Dom L T := ⟨fits_dom, dom_fits hL hT⟩
/-- sorted, the greatest first -/
def dsc (L : List Int) : List Int := L.mergeSort fun a b => decide (b ≤ a)
theorem dsc_perm (L : List Int) : (dsc L).Perm L := List.mergeSort_perm _ _
theorem dsc_desc (L : List Int) : Desc (dsc L) := by
  have := List.pairwise_mergeSort (le := fun a b : Int => decide (b ≤ a)) (fun a b c h1 h2 => by simp at *; omega) (fun a b => by simp; omega) L
  exact this.imp fun h => of_decide_eq_true h
theorem dsc_len (L : List Int) : (dsc L).length = L.length := (dsc_perm L).length_eq
theorem desc_eq {L M : List Int} (hL : Desc L) (hM : Desc M) (p : L.Perm M) : L = M := List.Perm.eq_of_pairwise (fun a b _ _ h1 h2 => by omega) hL hM p
theorem dsc_eq {L M : List Int} (p : L.Perm M) : dsc L = dsc M := desc_eq (dsc_desc _) (dsc_desc _) ((dsc_perm L).trans (p.trans (dsc_perm M).symm))
theorem dsc_id {L : List Int} (h : Desc L) : dsc L = L := desc_eq (dsc_desc _) h (dsc_perm L)
/-! ### the greatest rooms are enough -/
theorem zip_take {α β : Type} : ∀ (L : List α) (T : List β) (n : Nat), L.length ≤ n → L.zip (T.take n) = L.zip T
  | [], _, _, _ => rfl
  | x :: L, [], _, _ => by simp
  | x :: L, y :: T, 0, h => by simp at h
  | x :: L, y :: T, n + 1, h => by
    rw [List.take_succ_cons, List.zip_cons_cons, List.zip_cons_cons, zip_take L T n (by simpa using h)]
theorem fits_take {L T : List Int} {n : Nat} (h : L.length ≤ n) : fitsB L (T.take n) = fitsB L T := by
  unfold fitsB
  rw [zip_take _ _ _ h, List.length_take]
  congr 1
  apply decide_eq_decide.mpr
  omega
theorem hv_take {ws R : List Int} : Hv ws ((dsc R).take ws.length) ↔ Hv ws R := by
  constructor
  · rintro ⟨L, h1, h2⟩
    exact ⟨L, h1, (h2.sub (List.take_sublist _ _)).perm (.refl _) (dsc_perm R)⟩
  · rintro ⟨L, h1, h2⟩
    have hl := ld_len h1
    refine ⟨dsc L, h1.perm (dsc_perm L).symm, fits_dom ?_⟩
    rw [fits_take (by rw [dsc_len]; exact hl)]
    exact dom_fits (dsc_desc L) (dsc_desc R) (h2.perm (dsc_perm L).symm (dsc_perm R).symm)
/-! ### level by level -/
def nextL (load : List Int) (w : Int) : List (List Int) := dsc (load ++ [w]) :: (List.range load.length).map fun i => dsc (load.take i ++ [load.getD i 0 + w] ++ load.drop (i + 1))
theorem nextL_desc {load t : List Int} {w : Int} (h : t ∈ nextL load w) : Desc t := by
  rcases List.mem_cons.mp h with rfl | h
  · exact dsc_desc _
  · obtain ⟨i, _, rfl⟩ := List.mem_map.mp h
    exact dsc_desc _
theorem split_at {L : List Int} {i : Nat} (h : i < L.length) : L = L.take i ++ L.getD i 0 :: L.drop (i + 1) := by
  rw [List.getD_eq_getElem?_getD, List.getElem?_eq_getElem h]
  show L = L.take i ++ L[i] :: L.drop (i + 1)
  rw [← List.drop_eq_getElem_cons h, List.take_append_drop]
theorem nextL_ld {load t ws : List Int} {w : Int} (h : t ∈ nextL load w) (hl : Ld ws load) : Ld (ws ++ [w]) t := by
  rcases List.mem_cons.mp h with rfl | h
  · exact (Ld.new (w := w) hl).perm ((List.perm_append_comm (l₁ := [w])).trans (dsc_perm _).symm)
  · obtain ⟨i, hi, rfl⟩ := List.mem_map.mp h
    have hi := List.mem_range.mp hi
    have e := split_at hi
    have h2 : Ld ws (load.take i ++ load.getD i 0 :: load.drop (i + 1)) := by rw [← e]; exact hl
    refine (Ld.add (w := w) h2).perm (List.Perm.trans ?_ (dsc_perm _).symm)
    rw [List.append_assoc]; exact .refl _
theorem cnt_step {v w : Int} (h0 : 0 ≤ w) {L L' : List Int} (h : L'.Perm (w :: L) ∨ ∃ L1 x L2, L = L1 ++ x :: L2 ∧ L'.Perm (L1 ++ (x + w) :: L2)) : cnt v L ≤ cnt v L' := by
  rcases h with h | ⟨L1, x, L2, e, h⟩
  · rw [cnt_perm h, cnt_cons]; omega
  · rw [cnt_perm h, e, cnt_append, cnt_append, cnt_cons, cnt_cons]
    split <;> split <;> omega
/-- the loads of one seat more come from sorted loads -/
theorem to_nextL {ws t : List Int} {w : Int} (h0 : 0 ≤ w) (h : Ld (ws ++ [w]) t) (hd : Desc t) : ∃ load, Ld ws load ∧ Desc load ∧ t ∈ nextL load w ∧ ∀ v, cnt v load ≤ cnt v t := by
  obtain ⟨L, h1, h2⟩ := ld_snoc h rfl
  have hc := fun v => cnt_step (v := v) h0 h2
  refine ⟨dsc L, h1.perm (dsc_perm L).symm, dsc_desc L, ?_, fun v => by rw [cnt_perm (dsc_perm L)]; exact hc v⟩
  rcases h2 with h2 | ⟨L1, x, L2, rfl, h2⟩
  · refine List.mem_cons.mpr (.inl (desc_eq hd (dsc_desc _) (h2.trans (List.Perm.trans ?_ (dsc_perm _).symm))))
    exact ((dsc_perm L).symm.cons w).trans (List.perm_append_comm (l₁ := [w]))
  · have hx : x ∈ dsc (L1 ++ x :: L2) := (dsc_perm _).mem_iff.mpr (by simp)
    obtain ⟨i, hi, e⟩ := List.getElem_of_mem hx
    refine List.mem_cons.mpr (.inr (List.mem_map.mpr ⟨i, List.mem_range.mpr hi, ?_⟩))
    refine (desc_eq hd (dsc_desc _) (h2.trans (List.Perm.trans ?_ (dsc_perm _).symm))).symm
    have eg : (dsc (L1 ++ x :: L2)).getD i 0 = x := by rw [List.getD_eq_getElem?_getD, List.getElem?_eq_getElem hi]; exact e
    have sp := split_at hi
    rw [eg] at sp
    have p1 : (L1 ++ x :: L2).Perm ((dsc (L1 ++ x :: L2)).take i ++ x :: (dsc (L1 ++ x :: L2)).drop (i + 1)) := by
      refine (dsc_perm (L1 ++ x :: L2)).symm.trans ?_
      rw [← sp]
    have p2 := (List.perm_middle (l₁ := L1) (l₂ := L2) (a := x)).symm.trans (p1.trans List.perm_middle)
    have p3 : (L1 ++ L2).Perm ((dsc (L1 ++ x :: L2)).take i ++ (dsc (L1 ++ x :: L2)).drop (i + 1)) := p2.cons_inv
    rw [eg, List.append_assoc]
    exact List.perm_middle.trans ((p3.cons (x + w)).trans List.perm_middle.symm)
/-- the levels as sets: what stands in the last one -/
inductive Lv (tops : List Int) : List Int → List Int → Prop
  | nil : Lv tops [] []
  | step {ws load t : List Int} {w : Int} : Lv tops ws load → t ∈ nextL load w → fitsB t tops = true → Lv tops (ws ++ [w]) t
theorem lv_iff {tops : List Int} (ht : Desc tops) : ∀ (n : Nat) (ws t : List Int), ws.length = n → (∀ w ∈ ws, 0 ≤ w) → (Lv tops ws t ↔ Desc t ∧ Ld ws t ∧ Dom t tops)
  | 0, ws, t, hn, _ => by
    have e : ws = [] := List.length_eq_zero_iff.mp hn
    subst e
    constructor
    · intro h
      generalize hu : ([] : List Int) = us at h
      cases h with
      | nil => exact ⟨.nil, .nil, fun v => by simp [cnt]⟩
      | step _ _ _ => simp at hu
    · rintro ⟨_, h, _⟩
      rw [ld_nil h rfl]; exact .nil
  | n + 1, ws, t, hn, hw => by
    obtain ⟨us, w, rfl⟩ : ∃ us w, ws = us ++ [w] := ⟨ws.dropLast, ws.getLast (by intro z; rw [z] at hn; simp at hn), (List.dropLast_concat_getLast _).symm⟩
    have hn' : us.length = n := by simpa using hn
    have hus : ∀ w ∈ us, 0 ≤ w := fun x hx => hw x (List.mem_append_left _ hx)
    have h0 : 0 ≤ w := hw w (by simp)
    constructor
    · intro h
      generalize hu : us ++ [w] = vs at h
      cases h with
      | nil => simp at hu
      | @step ws' load _ w' h1 h2 h3 =>
        obtain ⟨e1, e2⟩ := List.append_inj' hu rfl
        cases e2
        subst e1
        have ih := (lv_iff ht n us load hn' hus).mp h1
        exact ⟨nextL_desc h2, nextL_ld h2 ih.2.1, fits_dom h3⟩
    · rintro ⟨h1, h2, h3⟩
      obtain ⟨load, g1, g2, g3, g4⟩ := to_nextL h0 h2 h1
      have ih := (lv_iff ht n us load hn' hus).mpr ⟨g2, g1, fun v => Nat.le_trans (g4 v) (h3 v)⟩
      exact .step ih g3 (dom_fits h1 ht h3)
theorem hv_lv {ws tops : List Int} (ht : Desc tops) (hw : ∀ w ∈ ws, 0 ≤ w) : Hv ws tops ↔ ∃ t, Lv tops ws t := by
  constructor
  · rintro ⟨L, h1, h2⟩
    exact ⟨dsc L, (lv_iff ht _ ws _ rfl hw).mpr ⟨dsc_desc L, h1.perm (dsc_perm L).symm, h2.perm (dsc_perm L).symm (.refl _)⟩⟩
  · rintro ⟨t, h⟩
    obtain ⟨_, h2, h3⟩ := (lv_iff ht _ ws t rfl hw).mp h
    exact ⟨t, h2, h3⟩
/-! ### quick refusals -/
theorem hv_first {ws R : List Int} (hw : ∀ w ∈ ws, 0 ≤ w) {w : Int} (h : w ∈ ws) (hr : ∀ r ∈ R, r < w) : ¬ Hv ws R := fun ⟨L, h1, h2⟩ => by
  obtain ⟨x, hx, hl⟩ := (ld_each h1 hw).2 w h
  have := h2 w
  obtain ⟨r, g1, g2⟩ := of_cnt (Nat.lt_of_lt_of_le (cnt_pos hx hl) this)
  have := hr r g1
  omega
theorem fits_sum : ∀ {L T : List Int}, fitsB L T = true → (∀ t ∈ T, 0 ≤ t) → L.sum ≤ T.sum
  | [], T, _, h => by
    have : ∀ T : List Int, (∀ t ∈ T, 0 ≤ t) → 0 ≤ T.sum := fun T => by
      induction T with
      | nil => intro _; exact Int.le_refl _
      | cons t T ih => intro h; rw [List.sum_cons]; have h1 := h t List.mem_cons_self; have h2 := ih fun x hx => h x (List.mem_cons_of_mem _ hx); omega
    exact this T h
  | x :: L, [], h, _ => by simp [fitsB] at h
  | x :: L, y :: T, h, hT => by
    simp only [fitsB, List.length_cons, List.zip_cons_cons, List.all_cons, Bool.and_eq_true, decide_eq_true_eq] at h
    have ih := fits_sum (L := L) (T := T) (by simp only [fitsB, Bool.and_eq_true, decide_eq_true_eq]; exact ⟨by omega, h.2.2⟩) fun t ht => hT t (List.mem_cons_of_mem _ ht)
    rw [List.sum_cons, List.sum_cons]
    have := h.2.1
    omega
theorem hv_sum {ws R : List Int} (hr : ∀ r ∈ R, 0 ≤ r) (h : R.sum < ws.sum) : ¬ Hv ws R := fun ⟨L, h1, h2⟩ => by
  have h3 := fits_sum (dom_fits (dsc_desc L) (dsc_desc R) (h2.perm (dsc_perm L).symm (dsc_perm R).symm)) fun t ht => hr t ((dsc_perm R).mem_iff.mp ht)
  rw [isum_perm (dsc_perm L), isum_perm (dsc_perm R), ld_sum h1] at h3
  omega
end Pk

/-! Packings as seats given to sides; the program's own ways to find them. Plain. -/
namespace Pk
open PySem L2
open Enc (enc dep)
theorem nodup_subL {α : Type} [DecidableEq α] : ∀ (l m : List α), l.Nodup → (∀ x ∈ l, x ∈ m) → l.length ≤ m.length
  | [], m, _, _ => Nat.zero_le _
  | x :: l, m, nd, h => by
    have hx := h x List.mem_cons_self
    have nd' := List.nodup_cons.mp nd
    have ih := nodup_subL l (m.erase x) nd'.2 fun y hy => (List.mem_erase_of_ne fun e => by subst e; exact nd'.1 hy).mpr (h y (List.mem_cons_of_mem _ hy))
    have hl := List.length_erase_of_mem hx
    have := List.length_pos_of_mem hx
    rw [List.length_cons]; omega
section
variable {σ : Type} [DecidableEq σ]
def ldo (ps : List (Int × σ)) (s : σ) : Int := ((ps.filter fun p => decide (p.2 = s)).map Prod.fst).sum
theorem ldo_cons (p : Int × σ) (ps : List (Int × σ)) (s : σ) : ldo (p :: ps) s = (if p.2 = s then p.1 else 0) + ldo ps s := by
  unfold ldo
  rw [List.filter_cons]
  by_cases h : p.2 = s
  · rw [if_pos (decide_eq_true h), if_pos h, List.map_cons, List.sum_cons]
  · rw [if_neg (by simp [h]), if_neg h]; omega
theorem ldo_snoc (ps : List (Int × σ)) (p : Int × σ) (s : σ) : ldo (ps ++ [p]) s = ldo ps s + if p.2 = s then p.1 else 0 := by
  unfold ldo
  rw [List.filter_append, List.map_append, List.sum_append]
  congr 1
  by_cases h : p.2 = s <;> simp [h]
theorem ldo_perm {ps qs : List (Int × σ)} (h : ps.Perm qs) (s : σ) : ldo ps s = ldo qs s := isum_perm ((h.filter _).map _)
theorem ldo_none {ps : List (Int × σ)} {s : σ} (h : s ∉ ps.map Prod.snd) : ldo ps s = 0 := by
  unfold ldo
  rw [List.filter_eq_nil_iff.mpr fun p hp => by
    simp only [decide_eq_true_eq]
    intro e; exact h (List.mem_map.mpr ⟨p, hp, e⟩)]
  rfl
def loadsOf (ps : List (Int × σ)) : List Int := (difs (ps.map Prod.snd)).map (ldo ps)
theorem map_at {α β : Type} [DecidableEq α] {f g : α → β} {U : List α} (nd : U.Nodup) {k : α} (hk : k ∈ U) (h : ∀ s, s ≠ k → g s = f s) : ∃ A B : List α, U = A ++ k :: B ∧ U.map f = A.map f ++ f k :: B.map f ∧ U.map g = A.map f ++ g k :: B.map f := by
  obtain ⟨A, B, rfl⟩ := List.append_of_mem hk
  refine ⟨A, B, rfl, by rw [List.map_append, List.map_cons], ?_⟩
  have nd' := List.nodup_append.mp nd
  have nd2 := List.nodup_cons.mp nd'.2.1
  rw [List.map_append, List.map_cons]
  congr 1
  · exact List.map_congr_left fun s hs => h s fun e => by subst e; exact nd'.2.2 s hs s List.mem_cons_self rfl
  · congr 1
    exact List.map_congr_left fun s hs => h s fun e => by subst e; exact nd2.1 hs
theorem loads_snoc (ps : List (Int × σ)) (p : Int × σ) : (p.2 ∉ ps.map Prod.snd ∧ (loadsOf (ps ++ [p])).Perm (p.1 :: loadsOf ps)) ∨
    ∃ A B : List Int, loadsOf ps = A ++ ldo ps p.2 :: B ∧ loadsOf (ps ++ [p]) = A ++ (ldo ps p.2 + p.1) :: B := by
  unfold loadsOf
  rw [List.map_append, List.map_singleton, difs_snoc]
  have same : ∀ s, s ≠ p.2 → ldo (ps ++ [p]) s = ldo ps s := fun s hs => by rw [ldo_snoc, if_neg fun e => hs e.symm]; omega
  by_cases h : p.2 ∈ difs (ps.map Prod.snd)
  · right
    rw [if_pos h]
    obtain ⟨A, B, _, e1, e2⟩ := map_at (f := ldo ps) (g := ldo (ps ++ [p])) (difs_nodup _) h same
    exact ⟨A.map (ldo ps), B.map (ldo ps), e1, by rw [e2, ldo_snoc, if_pos rfl]⟩
  · left
    rw [if_neg h]
    have hn : p.2 ∉ ps.map Prod.snd := fun z => h ((difs_mem _ _).mpr z)
    refine ⟨hn, ?_⟩
    rw [List.map_append, List.map_singleton, ldo_snoc, if_pos rfl, ldo_none hn, Int.zero_add]
    have e : (difs (ps.map Prod.snd)).map (ldo (ps ++ [p])) = (difs (ps.map Prod.snd)).map (ldo ps) := List.map_congr_left fun s hs => same s fun e => by subst e; exact h hs
    rw [e]
    exact List.perm_append_comm
theorem as_ld (ps : List (Int × σ)) : Ld (ps.map Prod.fst) (loadsOf ps) := by
  refine snoc_ind (P := fun ps : List (Int × σ) => Ld (ps.map Prod.fst) (loadsOf ps)) .nil (fun ps p ih => ?_) ps
  rw [List.map_append, List.map_singleton]
  rcases loads_snoc ps p with ⟨_, h⟩ | ⟨A, B, e1, e2⟩
  · exact (Ld.new ih).perm h.symm
  · rw [e2]
    rw [e1] at ih
    exact .add ih
theorem ld_as {ws L : List Int} (h : Ld ws L) : ∃ ps : List (Int × Nat), ps.map Prod.fst = ws ∧ L.Perm (loadsOf ps) := by
  have key : ∀ (ps : List (Int × Nat)) (p : Int × Nat) (M : List Int), p.2 ∉ ps.map Prod.snd → M.Perm (loadsOf ps) → (p.1 :: M).Perm (loadsOf (ps ++ [p])) := fun ps p M hn hp => by
    rcases loads_snoc ps p with ⟨_, h⟩ | ⟨A, B, e1, e2⟩
    · exact (hp.cons _).trans h.symm
    · exfalso
      have e : (loadsOf (ps ++ [p])).length = (loadsOf ps).length := by rw [e1, e2]; simp
      unfold loadsOf at e
      rw [List.length_map, List.length_map, List.map_append, List.map_singleton, difs_snoc, if_neg fun z => hn ((difs_mem _ _).mp z)] at e
      simp at e
  induction h with
  | nil => exact ⟨[], rfl, .nil⟩
  | @new ws L w _ ih =>
    obtain ⟨ps, h1, h2⟩ := ih
    have fresh : ∃ k, k ∉ ps.map Prod.snd := by
      have le : ∀ (l : List Nat) x, x ∈ l → x ≤ l.sum := fun l => by
        induction l with
        | nil => intro x hx; cases hx
        | cons y l ih =>
          intro x hx
          rw [List.sum_cons]
          rcases List.mem_cons.mp hx with rfl | hx
          · omega
          · have := ih x hx; omega
      exact ⟨(ps.map Prod.snd).sum + 1, fun z => by have := le _ _ z; omega⟩
    obtain ⟨k, hk⟩ := fresh
    exact ⟨ps ++ [(w, k)], by rw [List.map_append, h1]; rfl, key ps (w, k) L hk h2⟩
  | @add ws L1 L2 x w _ ih =>
    obtain ⟨ps, h1, h2⟩ := ih
    have hx : x ∈ loadsOf ps := h2.mem_iff.mp (by simp)
    obtain ⟨k, hk, e⟩ := List.mem_map.mp hx
    refine ⟨ps ++ [(w, k)], by rw [List.map_append, h1]; rfl, ?_⟩
    rcases loads_snoc ps (w, k) with ⟨hn, _⟩ | ⟨A, B, e1, e2⟩
    · exact absurd ((difs_mem _ _).mp hk) hn
    · rw [e2]
      rw [e1] at h2
      have e' : ldo ps k = x := e
      dsimp only at h2 ⊢
      rw [e'] at h2 ⊢
      have p2 := List.perm_middle.symm.trans (h2.trans List.perm_middle)
      exact List.perm_middle.trans ((p2.cons_inv.cons (x + w)).trans List.perm_middle.symm)
  | perm _ p ih =>
    obtain ⟨ps, h1, h2⟩ := ih
    exact ⟨ps, h1, p.symm.trans h2⟩
theorem loads_perm {ps qs : List (Int × σ)} (h : ps.Perm qs) : (loadsOf ps).Perm (loadsOf qs) := by
  have e : (difs (ps.map Prod.snd)).Perm (difs (qs.map Prod.snd)) := (List.perm_ext_iff_of_nodup (difs_nodup _) (difs_nodup _)).mpr fun x => by
    rw [difs_mem, difs_mem]; exact (h.map _).mem_iff
  unfold loadsOf
  have f : ldo ps = ldo qs := funext (ldo_perm h)
  rw [f]
  exact e.map _
theorem perm_lift {α β : Type} {f : α → β} : ∀ {ws ws' : List β}, ws.Perm ws' → ∀ ps : List α, ps.map f = ws → ∃ qs, ps.Perm qs ∧ qs.map f = ws' := fun h => by
  induction h with
  | nil => intro ps e; exact ⟨ps, .refl _, e⟩
  | cons x _ ih =>
    intro ps e
    cases ps with
    | nil => cases e
    | cons p ps =>
      rw [List.map_cons] at e
      injection e with e1 e2
      obtain ⟨qs, h1, h2⟩ := ih ps e2
      exact ⟨p :: qs, h1.cons p, by rw [List.map_cons, e1, h2]⟩
  | swap x y l =>
    intro ps e
    match ps, e with
    | p :: q :: ps, e =>
      rw [List.map_cons, List.map_cons] at e
      injection e with e1 e2
      injection e2 with e2 e3
      exact ⟨q :: p :: ps, .swap q p ps, by rw [List.map_cons, List.map_cons, e1, e2, e3]⟩
  | trans _ _ h1 h2 =>
    intro ps e
    obtain ⟨qs, g1, g2⟩ := h1 ps e
    obtain ⟨rs, g3, g4⟩ := h2 qs g2
    exact ⟨rs, g1.trans g3, g4⟩
theorem hv_ws {ws ws' R : List Int} (p : ws.Perm ws') (h : Hv ws R) : Hv ws' R := by
  obtain ⟨L, h1, h2⟩ := h
  obtain ⟨ps, e, g⟩ := ld_as h1
  obtain ⟨qs, g1, g2⟩ := perm_lift p ps e
  have := as_ld qs
  rw [g2] at this
  exact ⟨_, this, h2.perm (g.trans (loads_perm g1)) (.refl _)⟩
/-- each seat gets a side of S, and no side more than its room -/
def Pck (ws : List Int) (S : List σ) (room : σ → Int) : Prop := ∃ ps : List (Int × σ), ps.map Prod.fst = ws ∧ (∀ p ∈ ps, p.2 ∈ S) ∧ ∀ s ∈ S, ldo ps s ≤ room s
theorem cnt_map (v : Int) (f : σ → Int) (U : List σ) : cnt v (U.map f) = (U.filter fun s => decide (v ≤ f s)).length := by
  unfold cnt
  rw [List.filter_map, List.length_map]; rfl
theorem hv_of_pck {ws : List Int} {S : List σ} {room : σ → Int} (h : Pck ws S room) : Hv ws (S.map room) := by
  obtain ⟨ps, e, hs, hr⟩ := h
  refine ⟨loadsOf ps, by rw [← e]; exact as_ld ps, fun v => ?_⟩
  unfold loadsOf
  rw [cnt_map, cnt_map]
  refine nodup_subL _ _ ((difs_nodup _).filter _) fun s h => ?_
  obtain ⟨h1, h2⟩ := List.mem_filter.mp h
  rw [difs_mem] at h1
  obtain ⟨p, hp, rfl⟩ := List.mem_map.mp h1
  have h3 := hr _ (hs p hp)
  have h2 := of_decide_eq_true h2
  exact List.mem_filter.mpr ⟨hs p hp, decide_eq_true (by omega)⟩
theorem sort_by {f : σ → Int} (U : List σ) : ∃ A : List σ, A.Perm U ∧ Desc (A.map f) := by
  refine ⟨U.mergeSort fun a b => decide (f b ≤ f a), List.mergeSort_perm _ _, ?_⟩
  have := List.pairwise_mergeSort (le := fun a b : σ => decide (f b ≤ f a)) (fun a b c h1 h2 => by simp at *; omega) (fun a b => by simp; omega) U
  unfold Desc
  rw [List.pairwise_map]
  exact this.imp fun h => of_decide_eq_true h
theorem give {ι : Type} {Q : List (ι × σ)} : ∀ ps : List (Int × ι), (∀ p ∈ ps, ∃ q ∈ Q, q.1 = p.2) → ∃ qs : List (Int × σ), PySem.Paired (fun a b => b.1 = a.1 ∧ (a.2, b.2) ∈ Q) ps qs
  | [], _ => ⟨[], .nil⟩
  | p :: ps, h => by
    obtain ⟨q, h1, h2⟩ := h p List.mem_cons_self
    obtain ⟨qs, h3⟩ := give ps fun x hx => h x (List.mem_cons_of_mem _ hx)
    exact ⟨(p.1, q.2) :: qs, .cons ⟨rfl, by show (p.2, q.2) ∈ Q; rw [← h2]; exact h1⟩ h3⟩
end
theorem pw_fst {α β : Type} {Q : List (α × β)} (h : Q.Pairwise fun a b => a.1 ≠ b.1) {a : α} {b b' : β} (h1 : (a, b) ∈ Q) (h2 : (a, b') ∈ Q) (e : b ≠ b') : a ≠ a := by
  induction Q with
  | nil => cases h1
  | cons q Q ih =>
    have h' := List.pairwise_cons.mp h
    rcases List.mem_cons.mp h1 with z1 | z1
    · rcases List.mem_cons.mp h2 with z2 | z2
      · rw [← z1] at z2; cases z2; exact absurd rfl e
      · have := h'.1 _ z2; rw [← z1] at this; exact this
    · rcases List.mem_cons.mp h2 with z2 | z2
      · have := h'.1 _ z1; rw [← z2] at this; exact this
      · exact ih h'.2 z1 z2
theorem nodup_fst {α β : Type} {Q : List (α × β)} (h : (Q.map Prod.fst).Nodup) {a : α} {b b' : β} (h1 : (a, b) ∈ Q) (h2 : (a, b') ∈ Q) : b = b' := by
  unfold List.Nodup at h
  rw [List.pairwise_map] at h
  exact Classical.byContradiction fun e => pw_fst h h1 h2 e rfl
theorem nodup_snd {α β : Type} {Q : List (α × β)} (h : (Q.map Prod.snd).Nodup) {a a' : α} {b : β} (h1 : (a, b) ∈ Q) (h2 : (a', b) ∈ Q) : a = a' := by
  have hs : ((Q.map fun q => (q.2, q.1)).map Prod.fst).Nodup := by
    rw [List.map_map]; exact h
  exact nodup_fst hs (List.mem_map.mpr ⟨_, h1, rfl⟩) (List.mem_map.mpr ⟨_, h2, rfl⟩)
section
variable {σ : Type} [DecidableEq σ]
theorem gave {Q : List (Nat × σ)} (n1 : (Q.map Prod.fst).Nodup) (n2 : (Q.map Prod.snd).Nodup) {i : Nat} {s : σ} (h : (i, s) ∈ Q) : ∀ {ps : List (Int × Nat)} {qs : List (Int × σ)}, PySem.Paired (fun a b => b.1 = a.1 ∧ (a.2, b.2) ∈ Q) ps qs → ldo qs s = ldo ps i
  | _, _, .nil => rfl
  | p :: ps, q :: qs, .cons r t => by
    rw [ldo_cons, ldo_cons, gave n1 n2 h t, r.1]
    congr 1
    by_cases e : p.2 = i
    · have h2 := r.2
      rw [e] at h2
      rw [if_pos e, if_pos (nodup_fst n1 h2 h)]
    · have : q.2 ≠ s := fun z => e (nodup_snd n2 (by rw [← z] at h; exact r.2) (by rw [← z] at h; exact h))
      rw [if_neg e, if_neg this]
theorem pck_of_hv {ws : List Int} {S : List σ} {room : σ → Int} (nd : S.Nodup) (h0 : ∀ s ∈ S, 0 ≤ room s) (h : Hv ws (S.map room)) : Pck ws S room := by
  obtain ⟨L, h1, h2⟩ := h
  obtain ⟨ps, e, g⟩ := ld_as h1
  obtain ⟨A, pA, dA⟩ := sort_by (f := ldo ps) (difs (ps.map Prod.snd))
  obtain ⟨T, pT, dT⟩ := sort_by (f := room) S
  have f : fitsB (A.map (ldo ps)) (T.map room) = true := dom_fits dA dT (h2.perm (g.trans (pA.symm.map _)) (pT.symm.map _))
  simp only [fitsB, List.length_map, Bool.and_eq_true, decide_eq_true_eq, List.all_eq_true] at f
  have n1 : ((A.zip T).map Prod.fst).Nodup := by
    rw [List.map_fst_zip f.1]
    exact pA.nodup_iff.mpr (difs_nodup _)
  have n2 : ((A.zip T).map Prod.snd).Nodup := by
    have : (A.zip T).map Prod.snd = T.take A.length := by
      have : ∀ (A : List Nat) (T : List σ), (A.zip T).map Prod.snd = T.take A.length := fun A => by
        induction A with
        | nil => intro T; rfl
        | cons a A ih => intro T; cases T with
          | nil => rfl
          | cons t T => rw [List.zip_cons_cons, List.map_cons, ih, List.length_cons, List.take_succ_cons]
      exact this A T
    rw [this]
    exact (pT.nodup_iff.mpr nd).sublist (List.take_sublist _ _)
  have hin : ∀ q ∈ A.zip T, q.2 ∈ S ∧ ldo ps q.1 ≤ room q.2 := fun q hq => by
    refine ⟨pT.mem_iff.mp (List.of_mem_zip (a := q.1) (b := q.2) hq).2, ?_⟩
    have : (ldo ps q.1, room q.2) ∈ (A.map (ldo ps)).zip (T.map room) := by
      rw [List.zip_map]; exact List.mem_map.mpr ⟨q, hq, rfl⟩
    exact f.2 _ this
  have all : ∀ p ∈ ps, ∃ q ∈ A.zip T, q.1 = p.2 := fun p hp => by
    have : p.2 ∈ A := pA.mem_iff.mpr ((difs_mem _ _).mpr (List.mem_map.mpr ⟨p, hp, rfl⟩))
    rw [← List.map_fst_zip f.1] at this
    obtain ⟨q, h3, h4⟩ := List.mem_map.mp this
    exact ⟨q, h3, h4⟩
  obtain ⟨qs, hq⟩ := give ps all
  refine ⟨qs, ?_, fun p hp => ?_, fun s hs => ?_⟩
  · have : ∀ {ps : List (Int × Nat)} {qs : List (Int × σ)}, PySem.Paired (fun a b => b.1 = a.1 ∧ (a.2, b.2) ∈ A.zip T) ps qs → qs.map Prod.fst = ps.map Prod.fst := fun h => by
      induction h with
      | nil => rfl
      | cons r _ ih => rw [List.map_cons, List.map_cons, ih, r.1]
    rw [this hq, e]
  · obtain ⟨i, hi⟩ := List.getElem?_of_mem hp
    obtain ⟨a, _, _, h4⟩ := hq.pkGetR hi
    exact (hin _ h4).1
  · by_cases z : ∃ i, (i, s) ∈ A.zip T
    · obtain ⟨i, hi⟩ := z
      rw [gave n1 n2 hi hq]
      exact (hin _ hi).2
    · have : s ∉ qs.map Prod.snd := fun y => by
        obtain ⟨p, hp, e⟩ := List.mem_map.mp y
        obtain ⟨j, hj⟩ := List.getElem?_of_mem hp
        obtain ⟨a, _, _, h4⟩ := hq.pkGetR hj
        rw [e] at h4
        exact z ⟨a.2, h4⟩
      rw [ldo_none this]
      exact h0 s hs
end
/-! ### into the first room with place -/
def places (left : List Int) (w : Int) : List Nat := (List.range left.length).filter fun i => decide (w ≤ left.getD i 0)
def ffit : List Int → List Int → Bool
  | [], _ => true
  | w :: ws, left => match places left w with
    | [] => false
    | i :: _ => ffit ws (left.set i (left.getD i 0 - w))
theorem ffit_pck : ∀ (ws left : List Int), (∀ x ∈ left, 0 ≤ x) → ffit ws left = true → ∃ ps : List (Int × Nat), ps.map Prod.fst = ws ∧ (∀ p ∈ ps, p.2 < left.length) ∧ ∀ i, i < left.length → ldo ps i ≤ left.getD i 0
  | [], left, h0, _ => ⟨[], rfl, fun p hp => (nomatch hp), fun i hi => by
      show (0 : Int) ≤ _
      rw [List.getD_eq_getElem?_getD, List.getElem?_eq_getElem hi]
      exact h0 _ (List.getElem_mem hi)⟩
  | w :: ws, left, h0, h => by
    unfold ffit at h
    cases hp : places left w with
    | nil => rw [hp] at h; cases h
    | cons i is =>
      rw [hp] at h
      have hi : i ∈ places left w := by rw [hp]; exact List.mem_cons_self
      obtain ⟨h1, h2⟩ := List.mem_filter.mp hi
      have h1 := List.mem_range.mp h1
      have h2 := of_decide_eq_true h2
      obtain ⟨ps, g1, g2, g3⟩ := ffit_pck ws (left.set i (left.getD i 0 - w)) (fun x hx => by
        rcases List.mem_or_eq_of_mem_set hx with hx | rfl
        · exact h0 x hx
        · omega) h
      rw [List.length_set] at g2 g3
      refine ⟨(w, i) :: ps, by rw [List.map_cons, g1], fun p hp => ?_, fun j hj => ?_⟩
      · rcases List.mem_cons.mp hp with rfl | hp
        · exact h1
        · exact g2 p hp
      · have := g3 j hj
        rw [ldo_cons]
        by_cases e : i = j
        · subst e
          rw [if_pos rfl]
          rw [List.getD_eq_getElem?_getD, List.getElem?_set_self hj] at this
          have this : ldo ps i ≤ left.getD i 0 - w := this
          omega
        · rw [if_neg e]
          rw [List.getD_eq_getElem?_getD, List.getElem?_set_ne e, ← List.getD_eq_getElem?_getD] at this
          omega
theorem range_getD (T : List Int) : (List.range T.length).map (fun i => T.getD i 0) = T := by
  apply List.ext_getElem
  · simp
  · intro i h1 h2
    rw [List.getElem_map, List.getElem_range, List.getD_eq_getElem?_getD, List.getElem?_eq_getElem h2]; rfl
theorem ffit_hv {ws tops : List Int} (h0 : ∀ x ∈ tops, 0 ≤ x) (h : ffit ws tops = true) : Hv ws tops := by
  obtain ⟨ps, g1, g2, g3⟩ := ffit_pck ws tops h0 h
  have := hv_of_pck (S := List.range tops.length) (room := fun i => tops.getD i 0) ⟨ps, g1, fun p hp => List.mem_range.mpr (g2 p hp), fun i hi => g3 i (List.mem_range.mp hi)⟩
  rwa [range_getD] at this
/-! ### level by level, as the program does -/
def nextT (load : Tu Int) (w : Int) : List (Tu Int) := (nextL load.l w).map Tu.mk
def lvIns (tops : List Int) (acc : List (Tu Int)) (one : Tu Int) : List (Tu Int) := if one ∉ acc ∧ fitsB one.l tops = true then acc ++ [one] else acc
def lvNew (tops : List Int) (w : Int) (level : List (Tu Int)) : List (Tu Int) := level.foldl (fun acc load => (nextT load w).foldl (lvIns tops) acc) []
def lvStep (tops : List Int) (level : List (Tu Int)) (w : Int) : List (Tu Int) := srt (Tu Int) false (lvNew tops w level)
def lastL (ws tops : List Int) : List (Tu Int) := ws.foldl (lvStep tops) [⟨[]⟩]
theorem lvIns_mem {tops : List Int} {x : Tu Int} : ∀ (ys acc : List (Tu Int)), x ∈ ys.foldl (lvIns tops) acc ↔ x ∈ acc ∨ (x ∈ ys ∧ fitsB x.l tops = true)
  | [], acc => by simp
  | y :: ys, acc => by
    rw [List.foldl_cons, lvIns_mem ys]
    unfold lvIns
    by_cases h : y ∉ acc ∧ fitsB y.l tops = true
    · rw [if_pos h, List.mem_append, List.mem_singleton, List.mem_cons]
      constructor
      · rintro ((h1 | rfl) | h1)
        · exact .inl h1
        · exact .inr ⟨.inl rfl, h.2⟩
        · exact .inr ⟨.inr h1.1, h1.2⟩
      · rintro (h1 | ⟨rfl | h1, h2⟩)
        · exact .inl (.inl h1)
        · exact .inl (.inr rfl)
        · exact .inr ⟨h1, h2⟩
    · rw [if_neg h, List.mem_cons]
      constructor
      · rintro (h1 | h1)
        · exact .inl h1
        · exact .inr ⟨.inr h1.1, h1.2⟩
      · rintro (h1 | ⟨rfl | h1, h2⟩)
        · exact .inl h1
        · exact .inl (Classical.byContradiction fun z => h ⟨z, h2⟩)
        · exact .inr ⟨h1, h2⟩
theorem lvNew_mem {tops : List Int} {w : Int} {x : Tu Int} : ∀ (level acc : List (Tu Int)), x ∈ level.foldl (fun acc load => (nextT load w).foldl (lvIns tops) acc) acc ↔ x ∈ acc ∨ ∃ load ∈ level, x ∈ nextT load w ∧ fitsB x.l tops = true
  | [], acc => by simp
  | y :: level, acc => by
    rw [List.foldl_cons, lvNew_mem level, lvIns_mem]
    simp only [List.mem_cons, exists_eq_or_imp, or_assoc]
theorem lvStep_mem' {tops : List Int} {w : Int} {level : List (Tu Int)} {x : Tu Int} : x ∈ lvStep tops level w ↔ ∃ load ∈ level, x ∈ nextT load w ∧ fitsB x.l tops = true := by
  unfold lvStep srt
  rw [List.mem_mergeSort]
  unfold lvNew
  rw [lvNew_mem]
  simp
theorem lastL_mem {tops : List Int} (ws : List Int) : ∀ x : Tu Int, x ∈ lastL ws tops ↔ Lv tops ws x.l := by
  refine snoc_ind (P := fun ws => ∀ x : Tu Int, x ∈ lastL ws tops ↔ Lv tops ws x.l) (fun x => ?_) (fun ws w ih x => ?_) ws
  · show x ∈ [⟨[]⟩] ↔ _
    rw [List.mem_singleton]
    constructor
    · rintro rfl; exact .nil
    · intro h
      have : x.l = [] := by
        generalize hu : ([] : List Int) = us at h
        generalize hx : x.l = t at h
        cases h with
        | nil => rfl
        | step _ _ _ => simp at hu
      cases x; cases this; rfl
  · have e : lastL (ws ++ [w]) tops = lvStep tops (lastL ws tops) w := by unfold lastL; rw [List.foldl_append]; rfl
    rw [e, lvStep_mem']
    constructor
    · rintro ⟨load, h1, h2, h3⟩
      obtain ⟨t, h4, e⟩ := List.mem_map.mp h2
      have : x.l = t := by rw [← e]
      exact .step ((ih load).mp h1) (by rw [this]; exact h4) h3
    · intro h
      generalize hu : ws ++ [w] = us at h
      generalize hx : x.l = t at h
      cases h with
      | nil => simp at hu
      | @step ws' load _ w' h1 h2 h3 =>
        obtain ⟨e1, e2⟩ := List.append_inj' hu rfl
        cases e2
        subst e1
        exact ⟨⟨load⟩, (ih ⟨load⟩).mpr h1, List.mem_map.mpr ⟨t, h2, by rw [← hx]⟩, h3⟩
/-! ### can_pack -/
def quickNo (some tops : List Int) : Bool := decide (tops = []) || (decide (tops.getD 0 0 < some.getD 0 0) || decide (tops.sum < some.sum))
def canPack (ws rooms : List Int) : Bool := if quickNo (dsc ws) (dsc rooms) = true then false else ffit (dsc ws) (dsc rooms) || decide (lastL (dsc ws) (dsc rooms) ≠ [])
theorem canPack_iff {ws rooms : List Int} (ne : ws ≠ []) (hw : ∀ w ∈ ws, 0 ≤ w) (hr : ∀ r ∈ rooms, 0 ≤ r) : canPack ws rooms = true ↔ Hv ws rooms := by
  have hw' : ∀ w ∈ dsc ws, 0 ≤ w := fun w h => hw w ((dsc_perm ws).mem_iff.mp h)
  have hr' : ∀ r ∈ dsc rooms, 0 ≤ r := fun r h => hr r ((dsc_perm rooms).mem_iff.mp h)
  have eh : Hv (dsc ws) (dsc rooms) ↔ Hv ws rooms := ⟨fun h => (hv_ws (dsc_perm ws) h).perm (dsc_perm rooms), fun h => (hv_ws (dsc_perm ws).symm h).perm (dsc_perm rooms).symm⟩
  rw [← eh]
  have ne' : dsc ws ≠ [] := fun z => ne (List.length_eq_zero_iff.mp (by rw [← dsc_len, z]; rfl))
  unfold canPack
  by_cases q : quickNo (dsc ws) (dsc rooms) = true
  · rw [if_pos q]
    refine ⟨fun z => (by cases z), fun h => absurd h ?_⟩
    unfold quickNo at q
    rw [Bool.or_eq_true, Bool.or_eq_true, decide_eq_true_eq, decide_eq_true_eq, decide_eq_true_eq] at q
    rcases q with q | q | q
    · rw [q]; exact hv_none ne'
    · cases hs : dsc ws with
      | nil => exact absurd hs ne'
      | cons w us =>
        refine hv_first (w := w) (fun x hx => hw' x (by rw [hs]; exact hx)) List.mem_cons_self fun r hrm => ?_
        rw [hs] at q
        have q : (dsc rooms).getD 0 0 < w := q
        have hd := dsc_desc rooms
        cases ht : dsc rooms with
        | nil => rw [ht] at hrm; cases hrm
        | cons t ts =>
          rw [ht] at q hd hrm
          have q : t < w := q
          rcases List.mem_cons.mp hrm with rfl | hrm
          · exact q
          · have := (List.pairwise_cons.mp hd).1 r hrm; omega
    · exact hv_sum hr' q
  · rw [if_neg q, Bool.or_eq_true, decide_eq_true_eq, hv_lv (dsc_desc rooms) hw']
    have last : lastL (dsc ws) (dsc rooms) ≠ [] ↔ ∃ t, Lv (dsc rooms) (dsc ws) t := by
      constructor
      · intro h
        obtain ⟨x, hx⟩ := List.exists_mem_of_ne_nil _ h
        exact ⟨x.l, (lastL_mem _ x).mp hx⟩
      · rintro ⟨t, h⟩ z
        have := (lastL_mem (tops := dsc rooms) (dsc ws) ⟨t⟩).mpr h
        rw [z] at this; cases this
    rw [last]
    constructor
    · rintro (h | h)
      · exact (hv_lv (dsc_desc rooms) hw').mp (ffit_hv hr' h)
      · exact h
    · exact .inr
end Pk

/-! Masks of any items; which masks are heavy; the greatest light ones. Plain. -/
namespace Pk
open PySem L2
open Enc (enc dep)
/-! ### bits -/
theorem tb_split (m i j : Nat) : m.testBit j = if j < i then (m % 2 ^ i).testBit j else (m / 2 ^ i).testBit (j - i) := by
  conv => lhs; rw [← Nat.div_add_mod m (2 ^ i)]
  exact Nat.testBit_two_pow_mul_add _ (Nat.mod_lt _ (Nat.two_pow_pos i)) j
theorem tb_odd {m i : Nat} (h : m.testBit i = true) : (m / 2 ^ i) % 2 = 1 := by
  rw [tb_split m i i, if_neg (Nat.lt_irrefl _), Nat.sub_self, Nat.testBit_zero] at h
  exact of_decide_eq_true h
theorem tb_even {m i : Nat} (h : m.testBit i = false) : (m / 2 ^ i) % 2 = 0 := by
  rw [tb_split m i i, if_neg (Nat.lt_irrefl _), Nat.sub_self, Nat.testBit_zero] at h
  have := of_decide_eq_false h
  omega
theorem tb_sub {m i : Nat} (h : m.testBit i = true) : 2 ^ i ≤ m ∧ ∀ j, (m - 2 ^ i).testBit j = if j = i then false else m.testBit j := by
  have ho := tb_odd h
  have hd := Nat.div_add_mod m (2 ^ i)
  have hl := Nat.mod_lt m (Nat.two_pow_pos i)
  have sp := tb_split m i
  generalize m / 2 ^ i = q at ho hd sp
  generalize m % 2 ^ i = r at hd hl sp
  have hq : 1 ≤ q := by omega
  have h1 : 2 ^ i * 1 ≤ 2 ^ i * q := Nat.mul_le_mul_left _ hq
  have e : m - 2 ^ i = 2 ^ i * (q - 1) + r := by
    rw [Nat.mul_sub, Nat.mul_one]; omega
  refine ⟨by omega, fun j => ?_⟩
  rw [e, Nat.testBit_two_pow_mul_add _ hl, sp j]
  by_cases c : j < i
  · rw [if_pos c, if_neg (by omega), if_pos c]
  · rw [if_neg c, if_neg c]
    by_cases z : j = i
    · subst z
      rw [if_pos rfl, Nat.sub_self, Nat.testBit_zero]
      exact decide_eq_false (by omega)
    · rw [if_neg z]
      obtain ⟨k, hk⟩ : ∃ k, j - i = k + 1 := ⟨j - i - 1, by omega⟩
      rw [hk, Nat.testBit_succ, Nat.testBit_succ, show (q - 1) / 2 = q / 2 by omega]
theorem tb_plus {m i : Nat} (h : m.testBit i = false) (j : Nat) : (m + 2 ^ i).testBit j = if j = i then true else m.testBit j := by
  have ho := tb_even h
  have hd := Nat.div_add_mod m (2 ^ i)
  have hl := Nat.mod_lt m (Nat.two_pow_pos i)
  have sp := tb_split m i
  generalize m / 2 ^ i = q at ho hd sp
  generalize m % 2 ^ i = r at hd hl sp
  have e : m + 2 ^ i = 2 ^ i * (q + 1) + r := by
    rw [Nat.mul_add, Nat.mul_one]; omega
  rw [e, Nat.testBit_two_pow_mul_add _ hl, sp j]
  by_cases c : j < i
  · rw [if_pos c, if_neg (by omega), if_pos c]
  · rw [if_neg c, if_neg c]
    by_cases z : j = i
    · subst z
      rw [if_pos rfl, Nat.sub_self, Nat.testBit_zero]
      exact decide_eq_true (by omega)
    · rw [if_neg z]
      obtain ⟨k, hk⟩ : ∃ k, j - i = k + 1 := ⟨j - i - 1, by omega⟩
      rw [hk, Nat.testBit_succ, Nat.testBit_succ, show (q + 1) / 2 = q / 2 by omega]
theorem tb_lt {m n : Nat} (h : ∀ i, m.testBit i = true → i < n) : m < 2 ^ n := by
  apply Nat.lt_pow_two_of_testBit
  intro i hi
  cases q : m.testBit i with
  | false => rfl
  | true => have := h i q; omega
theorem tb_of_lt {m n i : Nat} (h : m < 2 ^ n) (ht : m.testBit i = true) : i < n := by
  apply Classical.byContradiction
  intro z
  have := Nat.testBit_lt_two_pow (Nat.lt_of_lt_of_le h (Nat.pow_le_pow_right (show 2 > 0 by decide) (show n ≤ i by omega)))
  rw [ht] at this; cases this
theorem tb_ext {m o n : Nat} (hm : m < 2 ^ n) (ho : o < 2 ^ n) (h : ∀ i, i < n → m.testBit i = o.testBit i) : m = o := Nat.eq_of_testBit_eq fun i => by
  by_cases l : i < n
  · exact h i l
  · have p : ∀ x, x < 2 ^ n → x.testBit i = false := fun x hx => Nat.testBit_lt_two_pow (Nat.lt_of_lt_of_le hx (Nat.pow_le_pow_right (show 2 > 0 by decide) (by omega)))
    rw [p m hm, p o ho]
/-! ### the items of a mask -/
theorem memA_snoc {α : Type} (xs : List α) (x : α) (m : Nat) : memA (xs ++ [x]) m = memA xs m ++ if m.testBit xs.length = true then [x] else [] := by
  unfold memA
  rw [List.length_append, List.length_singleton, bits_succ, List.zip_append (by rw [bits_len]), List.filter_append, List.map_append]
  congr 1
  have e : decide (m &&& 2 ^ xs.length ≠ 0) = m.testBit xs.length := by
    rw [and_pow]
    cases h : m.testBit xs.length with
    | true =>
      have : 2 ^ xs.length ≠ 0 := Nat.ne_of_gt (Nat.two_pow_pos _)
      simp [this]
    | false => simp
  show (List.filter (fun p : α × Nat => decide (m &&& p.2 ≠ 0)) [(x, 2 ^ xs.length)]).map Prod.fst = _
  rw [List.filter_cons]
  dsimp only
  rw [e]
  cases m.testBit xs.length <;> rfl
theorem memA_sub {α : Type} {m m' : Nat} (h : ∀ i, m.testBit i = true → m'.testBit i = true) (xs : List α) : (memA xs m).Sublist (memA xs m') := by
  refine snoc_ind (P := fun xs : List α => (memA xs m).Sublist (memA xs m')) (.refl _) (fun xs x ih => ?_) xs
  rw [memA_snoc, memA_snoc]
  refine ih.append ?_
  cases hm : m.testBit xs.length with
  | false => simp
  | true => rw [h _ hm]; exact .refl _
theorem memA_congr {α : Type} {m m' : Nat} : ∀ xs : List α, (∀ i, i < xs.length → m.testBit i = m'.testBit i) → memA xs m = memA xs m' := fun xs => by
  refine snoc_ind (P := fun xs : List α => (∀ i, i < xs.length → m.testBit i = m'.testBit i) → memA xs m = memA xs m') (fun _ => rfl) (fun xs x ih h => ?_) xs
  rw [memA_snoc, memA_snoc, ih fun i hi => h i (by rw [List.length_append]; omega), h xs.length (by rw [List.length_append, List.length_singleton]; omega)]
theorem memA_map {α β : Type} (f : α → β) (m : Nat) (xs : List α) : memA (xs.map f) m = (memA xs m).map f := by
  refine snoc_ind (P := fun xs : List α => memA (xs.map f) m = (memA xs m).map f) rfl (fun xs x ih => ?_) xs
  rw [List.map_append, List.map_singleton, memA_snoc, memA_snoc, ih, List.length_map, List.map_append]
  split <;> rfl
theorem memA_sb {α : Type} (f : α → Bool) (xs : List α) : memA xs (sb f xs) = xs.filter f := by
  refine snoc_ind (P := fun xs : List α => memA xs (sb f xs) = xs.filter f) rfl (fun xs x ih => ?_) xs
  rw [memA_snoc, List.filter_append, sb_snoc]
  have hlt := sb_lt f xs
  by_cases h : f x = true
  · rw [if_pos h, tb_add hlt, if_pos rfl, if_pos rfl, memA_congr (m' := sb f xs) xs fun i hi => by rw [tb_add hlt, if_neg (by omega), if_pos hi], ih]
    simp [h]
  · rw [if_neg h, Nat.add_zero, Nat.testBit_lt_two_pow hlt, if_neg Bool.false_ne_true, ih]
    simp [h]
theorem memA_sublist {α : Type} (xs : List α) (m : Nat) : (memA xs m).Sublist xs := by
  refine snoc_ind (P := fun xs : List α => (memA xs m).Sublist xs) (.refl _) (fun xs x ih => ?_) xs
  rw [memA_snoc]
  refine ih.append ?_
  split
  · exact .refl _
  · simp
theorem memA_zero {α : Type} (xs : List α) : memA xs 0 = [] := by
  refine snoc_ind (P := fun xs : List α => memA xs 0 = []) rfl (fun xs x ih => ?_) xs
  rw [memA_snoc, ih]; simp
/-! ### which masks are heavy -/
structure CaseOk (m : Nat) (c : List Int × List Int) : Prop where
  ne : c.1 ≠ []
  w : ∀ w ∈ c.1, 0 ≤ w
  r : ∀ r ∈ c.2, 0 ≤ r
  l : c.2.length = m
def heavyM (cases_ : List (List Int × List Int)) (mask : Nat) : Prop := ∃ c ∈ cases_, Hv c.1 (memA c.2 mask)
def topsOf (c : List Int × List Int) (mask : Nat) : List Int := (dsc (memA c.2 mask)).take c.1.length
def heavyAt (cases_ : List (List Int × List Int)) (mask : Nat) : Bool := cases_.any fun c => canPack c.1 (topsOf c mask)
theorem heavyAt_iff {m : Nat} {cases_ : List (List Int × List Int)} (ok : ∀ c ∈ cases_, CaseOk m c) (mask : Nat) : heavyAt cases_ mask = true ↔ heavyM cases_ mask := by
  unfold heavyAt heavyM
  rw [List.any_eq_true]
  have : ∀ c ∈ cases_, (canPack c.1 (topsOf c mask) = true ↔ Hv c.1 (memA c.2 mask)) := fun c hc => by
    have o := ok c hc
    rw [canPack_iff o.ne o.w fun r hr => ?_]
    · exact hv_take
    · exact o.r r ((memA_sublist c.2 mask).subset ((dsc_perm _).mem_iff.mp (List.mem_of_mem_take hr)))
  exact ⟨fun ⟨c, h1, h2⟩ => ⟨c, h1, (this c h1).mp h2⟩, fun ⟨c, h1, h2⟩ => ⟨c, h1, (this c h1).mpr h2⟩⟩
theorem heavyM_mono {cases_ : List (List Int × List Int)} {m m' : Nat} (h : ∀ i, m.testBit i = true → m'.testBit i = true) (hv : heavyM cases_ m) : heavyM cases_ m' := by
  obtain ⟨c, h1, h2⟩ := hv
  exact ⟨c, h1, h2.sub (memA_sub h c.2)⟩
def belowH (m : Nat) (found : List Bool) (mask : Nat) : Bool := ((bits m).filter fun bit => decide (mask &&& bit ≠ 0)).any fun bit => found.getD (mask - bit) false
def hvTab (cases_ : List (List Int × List Int)) (m : Nat) : Nat → List Bool
  | 0 => [false]
  | n + 1 => hvTab cases_ m n ++ [belowH m (hvTab cases_ m n) (n + 1) || heavyAt cases_ (n + 1)]
theorem hvTab_len (cases_ : List (List Int × List Int)) (m : Nat) : ∀ n, (hvTab cases_ m n).length = n + 1
  | 0 => rfl
  | n + 1 => by show (hvTab cases_ m n ++ _).length = _; rw [List.length_append, hvTab_len cases_ m n]; rfl
theorem in_bits {m b : Nat} : b ∈ bits m ↔ ∃ i, i < m ∧ b = 2 ^ i := by
  unfold bits
  rw [List.mem_map]
  exact ⟨fun ⟨i, h1, h2⟩ => ⟨i, List.mem_range.mp h1, h2.symm⟩, fun ⟨i, h1, h2⟩ => ⟨i, List.mem_range.mpr h1, h2.symm⟩⟩
theorem and_bit {mask i : Nat} : mask &&& 2 ^ i ≠ 0 ↔ mask.testBit i = true := by
  rw [and_pow]
  have := Nat.two_pow_pos i
  cases mask.testBit i with
  | true => rw [if_pos rfl]; exact ⟨fun _ => rfl, fun _ => by omega⟩
  | false => rw [if_neg Bool.false_ne_true]; simp
theorem hvTab_iff {m : Nat} {cases_ : List (List Int × List Int)} (ok : ∀ c ∈ cases_, CaseOk m c) : ∀ n, n < 2 ^ m → ∀ mask, mask ≤ n → ((hvTab cases_ m n).getD mask false = true ↔ heavyM cases_ mask)
  | 0, _, mask, h => by
    have e : mask = 0 := by omega
    subst e
    refine ⟨fun z => (by cases z), fun ⟨c, h1, h2⟩ => ?_⟩
    rw [memA_zero] at h2
    exact absurd h2 (hv_none (ok c h1).ne)
  | n + 1, hn, mask, h => by
    have ih := hvTab_iff ok n (by omega)
    have hl := hvTab_len cases_ m n
    show ((hvTab cases_ m n ++ [belowH m (hvTab cases_ m n) (n + 1) || heavyAt cases_ (n + 1)]).getD mask false = true ↔ _)
    by_cases z : mask ≤ n
    · rw [List.getD_eq_getElem?_getD, List.getElem?_append_left (by omega), ← List.getD_eq_getElem?_getD]
      exact ih mask z
    · have e : mask = n + 1 := by omega
      subst e
      rw [List.getD_eq_getElem?_getD, List.getElem?_append_right (by omega), hl, Nat.sub_self]
      show (belowH m (hvTab cases_ m n) (n + 1) || heavyAt cases_ (n + 1)) = true ↔ _
      rw [Bool.or_eq_true, heavyAt_iff ok]
      constructor
      · rintro (h1 | h1)
        · unfold belowH at h1
          obtain ⟨b, h2, h3⟩ := List.any_eq_true.mp h1
          obtain ⟨h4, h5⟩ := List.mem_filter.mp h2
          obtain ⟨i, hi, rfl⟩ := in_bits.mp h4
          have h5 := and_bit.mp (of_decide_eq_true h5)
          obtain ⟨s1, s2⟩ := tb_sub h5
          have hp := Nat.two_pow_pos i
          refine heavyM_mono (fun j hj => ?_) ((ih _ (by omega)).mp h3)
          rw [s2] at hj
          split at hj
          · cases hj
          · exact hj
        · exact h1
      · exact .inr
/-! ### the greatest light masks -/
def lightMax (m : Nat) (tab : List Bool) (mask : Nat) : Bool := !(tab.getD mask false) && ((bits m).filter fun bit => decide (mask &&& bit = 0)).all fun bit => tab.getD (mask + bit) false
def lsets {α : Type} [Enc α] (sides : List α) (tab : List Bool) : List (List α) := srt (List α) false (((List.range tab.length).filter (lightMax sides.length tab)).map (memA sides))
theorem lightMax_iff {m : Nat} {cases_ : List (List Int × List Int)} (ok : ∀ c ∈ cases_, CaseOk m c) {mask : Nat} (h : mask < 2 ^ m) :
    lightMax m (hvTab cases_ m (2 ^ m - 1)) mask = true ↔ ¬ heavyM cases_ mask ∧ ∀ i, i < m → mask.testBit i = false → heavyM cases_ (mask + 2 ^ i) := by
  have hp := Nat.two_pow_pos m
  have t := hvTab_iff ok (2 ^ m - 1) (by omega)
  unfold lightMax
  rw [Bool.and_eq_true, List.all_eq_true]
  have h1 : (!(hvTab cases_ m (2 ^ m - 1)).getD mask false) = true ↔ ¬ heavyM cases_ mask := by
    rw [← t mask (by omega)]
    cases (hvTab cases_ m (2 ^ m - 1)).getD mask false <;> simp
  rw [h1]
  refine and_congr Iff.rfl ?_
  have lt : ∀ i, i < m → mask.testBit i = false → mask + 2 ^ i < 2 ^ m := fun i hi hb => tb_lt fun j hj => by
    rw [tb_plus hb] at hj
    split at hj
    · omega
    · exact tb_of_lt h hj
  constructor
  · intro g i hi hb
    have := g (2 ^ i) (List.mem_filter.mpr ⟨in_bits.mpr ⟨i, hi, rfl⟩, decide_eq_true (Classical.byContradiction fun z => by
      rw [and_bit.mp z] at hb; cases hb)⟩)
    have hlt := lt i hi hb
    exact (t _ (by omega)).mp this
  · intro g b hb
    obtain ⟨h2, h3⟩ := List.mem_filter.mp hb
    obtain ⟨i, hi, rfl⟩ := in_bits.mp h2
    have h3 := of_decide_eq_true h3
    have hb : mask.testBit i = false := by
      cases q : mask.testBit i with
      | false => rfl
      | true => exact absurd h3 (and_bit.mpr q)
    have hlt := lt i hi hb
    exact (t _ (by omega)).mpr (g i hi hb)
theorem in_lsets {α : Type} [Enc α] {cases_ : List (List Int × List Int)} {sides part : List α} (ok : ∀ c ∈ cases_, CaseOk sides.length c) :
    part ∈ lsets sides (hvTab cases_ sides.length (2 ^ sides.length - 1)) ↔ ∃ mask, mask < 2 ^ sides.length ∧ part = memA sides mask ∧ ¬ heavyM cases_ mask ∧ ∀ i, i < sides.length → mask.testBit i = false → heavyM cases_ (mask + 2 ^ i) := by
  unfold lsets srt
  have hp := Nat.two_pow_pos sides.length
  rw [List.mem_mergeSort, List.mem_map, hvTab_len]
  constructor
  · rintro ⟨mask, h1, rfl⟩
    obtain ⟨h2, h3⟩ := List.mem_filter.mp h1
    have h2 := List.mem_range.mp h2
    have hlt : mask < 2 ^ sides.length := by omega
    exact ⟨mask, hlt, rfl, (lightMax_iff ok hlt).mp h3⟩
  · rintro ⟨mask, h1, rfl, h2⟩
    exact ⟨mask, List.mem_filter.mpr ⟨List.mem_range.mpr (by omega), (lightMax_iff ok h1).mpr h2⟩, rfl⟩
/-- each light mask lies in a greatest one -/
theorem light_up {m : Nat} (cases_ : List (List Int × List Int)) : ∀ (k mask : Nat), 2 ^ m - mask ≤ k → mask < 2 ^ m → ¬ heavyM cases_ mask → ∃ top, top < 2 ^ m ∧ (∀ i, mask.testBit i = true → top.testBit i = true) ∧ ¬ heavyM cases_ top ∧ ∀ i, i < m → top.testBit i = false → heavyM cases_ (top + 2 ^ i)
  | 0, mask, hk, h, _ => by omega
  | k + 1, mask, hk, h, hl => by
    by_cases z : ∀ i, i < m → mask.testBit i = false → heavyM cases_ (mask + 2 ^ i)
    · exact ⟨mask, h, fun _ h => h, hl, z⟩
    · obtain ⟨i, hi⟩ := Classical.not_forall.mp z
      obtain ⟨h1, hi⟩ := Classical.not_imp.mp hi
      obtain ⟨h2, h3⟩ := Classical.not_imp.mp hi
      have hp := Nat.two_pow_pos i
      have hlt : mask + 2 ^ i < 2 ^ m := tb_lt fun j hj => by
        rw [tb_plus h2] at hj
        split at hj
        · omega
        · exact tb_of_lt h hj
      obtain ⟨top, g1, g2, g3⟩ := light_up cases_ k (mask + 2 ^ i) (by omega) hlt h3
      refine ⟨top, g1, fun j hj => g2 j ?_, g3⟩
      rw [tb_plus h2]
      split
      · rfl
      · exact hj
end Pk

/-! What can be made: a row can be made just if its bounds of each greatest light set are met by a told row. Plain. -/
namespace Pk
open PySem L2
open Enc (enc dep)
def bnd (r : Tu Int) (s : Sd) : Bd := ⟨s.1, s.2, r.l.getD s.1.toNat 0⟩
def sidesW (w : Nat) : List Sd := (List.range w).flatMap fun c : Nat => [((c : Int), Wy.least), ((c : Int), Wy.most)]
def exactL (r : Tu Int) : List Bd := (List.range r.l.length).flatMap fun c : Nat => [⟨(c : Int), Wy.least, r.l.getD c 0⟩, ⟨(c : Int), Wy.most, r.l.getD c 0⟩]
def makesB (parts : List (List Sd)) (X : List (Tu Int)) (r : Tu Int) : Bool := parts.all fun part => X.any fun x => ((exactL r).filter fun b => decide ((b.c, b.w) ∈ part)).all (okB x.l)
inductive Made (cs : List (List Int × List Int)) (X : List (Tu Int)) : Tu Int → Prop
  | told {r : Tu Int} : r ∈ X → Made cs X r
  | made {p : List Int × List Int} {rs : List (Tu Int)} : p ∈ cs → rs.length = p.1.length → (∀ r ∈ rs, Made cs X r) → Made cs X ⟨stl p.1 p.2 rs⟩
theorem in_sides {w : Nat} {s : Sd} : s ∈ sidesW w ↔ 0 ≤ s.1 ∧ s.1 < w := by
  unfold sidesW
  rw [List.mem_flatMap]
  constructor
  · rintro ⟨c, hc, h⟩
    have hc := List.mem_range.mp hc
    rcases List.mem_cons.mp h with rfl | h
    · exact ⟨by show (0 : Int) ≤ c; omega, by show (c : Int) < w; omega⟩
    · rw [List.mem_singleton.mp h]; exact ⟨by show (0 : Int) ≤ c; omega, by show (c : Int) < w; omega⟩
  · rintro ⟨h1, h2⟩
    refine ⟨s.1.toNat, List.mem_range.mpr (by omega), ?_⟩
    obtain ⟨c, wy⟩ := s
    have h1 : 0 ≤ c := h1
    have e : ((c.toNat : Nat) : Int) = c := by omega
    show (c, wy) ∈ [((c.toNat : Int), Wy.least), ((c.toNat : Int), Wy.most)]
    rw [e]
    cases wy <;> simp
theorem sides_nodup : ∀ w, (sidesW w).Nodup
  | 0 => List.nodup_nil
  | w + 1 => by
    have e : sidesW (w + 1) = sidesW w ++ [((w : Int), Wy.least), ((w : Int), Wy.most)] := by unfold sidesW; rw [List.range_succ, List.flatMap_append]; simp
    rw [e]
    refine List.nodup_append.mpr ⟨sides_nodup w, by simp, fun a ha b hb e => ?_⟩
    have h := (in_sides.mp ha).2
    subst e
    have h : a.1 < (w : Int) := h
    rcases List.mem_cons.mp hb with rfl | hb
    · exact absurd h (by show ¬ (w : Int) < w; omega)
    · rw [List.mem_singleton.mp hb] at h; exact absurd h (by show ¬ (w : Int) < w; omega)
theorem exact_map (r : Tu Int) : exactL r = (sidesW r.l.length).map (bnd r) := by
  unfold exactL sidesW
  rw [List.map_flatMap]
  congr 1
theorem part_all {r x : Tu Int} {part : List Sd} {w : Nat} (hr : r.l.length = w) (hp : ∀ s ∈ part, s ∈ sidesW w) : ((exactL r).filter fun b => decide ((b.c, b.w) ∈ part)).all (okB x.l) = true ↔ ∀ s ∈ part, okB x.l (bnd r s) = true := by
  rw [List.all_eq_true, exact_map, hr]
  constructor
  · intro h s hs
    exact h _ (List.mem_filter.mpr ⟨List.mem_map.mpr ⟨s, hp s hs, rfl⟩, decide_eq_true hs⟩)
  · intro h b hb
    obtain ⟨h1, h2⟩ := List.mem_filter.mp hb
    obtain ⟨s, hs, rfl⟩ := List.mem_map.mp h1
    exact h s (of_decide_eq_true h2)
theorem makes_all {parts : List (List Sd)} {X : List (Tu Int)} {r : Tu Int} {w : Nat} (hr : r.l.length = w) (hp : ∀ part ∈ parts, ∀ s ∈ part, s ∈ sidesW w) :
    makesB parts X r = true ↔ ∀ part ∈ parts, ∃ x ∈ X, ∀ s ∈ part, okB x.l (bnd r s) = true := by
  unfold makesB
  rw [List.all_eq_true]
  constructor
  · intro h part hpart
    obtain ⟨x, h1, h2⟩ := List.any_eq_true.mp (h part hpart)
    exact ⟨x, h1, (part_all hr (hp part hpart)).mp h2⟩
  · intro h part hpart
    obtain ⟨x, h1, h2⟩ := h part hpart
    exact List.any_eq_true.mpr ⟨x, h1, (part_all hr (hp part hpart)).mpr h2⟩
/-! ### light sets and what they bar -/
def roomOf (c : List Int × List Int) (s : Sd) : Int := room c.1 c.2 s
def LightS (cs : List (List Int × List Int)) (S : List Sd) : Prop := ∀ c ∈ cs, ¬ Hv c.1 (S.map (roomOf c))
theorem missW_le {S : List Sd} {r : Tu Int} {s : Sd} {f : Tu Int → Sd} : ∀ (rs : List (Tu Int)) (ws : List Int), rs.length = ws.length → (∀ w ∈ ws, 0 ≤ w) → (∀ x ∈ rs, okB x.l (bnd r (f x)) = false) →
    ldo (ws.zip (rs.map f)) s ≤ missW ws rs (bnd r s)
  | [], [], _, _, _ => Int.le_refl _
  | x :: rs, w :: ws, h, hw, hf => by
    have ih := missW_le (S := S) (s := s) rs ws (by simpa using h) (fun y hy => hw y (List.mem_cons_of_mem _ hy)) fun y hy => hf y (List.mem_cons_of_mem _ hy)
    have h0 := hw w List.mem_cons_self
    unfold missW at ih ⊢
    rw [List.map_cons, List.zip_cons_cons, ldo_cons, List.zip_cons_cons, List.map_cons, List.sum_cons]
    dsimp only
    by_cases e : f x = s
    · have := hf x List.mem_cons_self
      rw [e] at this
      rw [if_pos e, if_neg (by rw [this]; exact Bool.false_ne_true)]
      omega
    · rw [if_neg e]
      split <;> omega
theorem le_missW {S : List Sd} {r : Tu Int} {s : Sd} : ∀ (qs : List ((Int × Sd) × Tu Int)), (∀ q ∈ qs, 0 ≤ q.1.1) → (∀ q ∈ qs, q.1.2 ≠ s → okB q.2.l (bnd r s) = true) →
    missW (qs.map fun q => q.1.1) (qs.map Prod.snd) (bnd r s) ≤ ldo (qs.map Prod.fst) s
  | [], _, _ => Int.le_refl _
  | q :: qs, hw, hf => by
    have ih := le_missW (S := S) (s := s) qs (fun y hy => hw y (List.mem_cons_of_mem _ hy)) fun y hy => hf y (List.mem_cons_of_mem _ hy)
    have h0 := hw q List.mem_cons_self
    have h1 := hf q List.mem_cons_self
    unfold missW at ih ⊢
    rw [List.map_cons, List.map_cons, List.zip_cons_cons, List.map_cons, List.sum_cons, List.map_cons, ldo_cons]
    dsimp only
    by_cases e : q.1.2 = s
    · rw [if_pos e]
      split <;> omega
    · rw [if_neg e, if_pos (h1 e)]
      omega
theorem stl_len' {p : List Int × List Int} {rs : List (Tu Int)} : (⟨stl p.1 p.2 rs⟩ : Tu Int).l.length = p.2.length := stl_len
theorem choose_f {S : List Sd} {r : Tu Int} : ∀ rs : List (Tu Int), (∀ x ∈ rs, ∃ s ∈ S, okB x.l (bnd r s) = false) → ∃ f : Tu Int → Sd, ∀ x ∈ rs, f x ∈ S ∧ okB x.l (bnd r (f x)) = false := fun rs h => by
  classical
  refine ⟨fun x => if q : ∃ s ∈ S, okB x.l (bnd r s) = false then Classical.choose q else (0, .least), fun x hx => ?_⟩
  have q := h x hx
  dsimp only
  rw [dif_pos q]
  exact Classical.choose_spec q
theorem made_light {cs : List (List Int × List Int)} {X : List (Tu Int)} {w : Nat} (ok : ∀ c ∈ cs, SesOk c ∧ c.2.length = w) {r : Tu Int} {S : List Sd} (hS : ∀ s ∈ S, s ∈ sidesW w) (hl : LightS cs S) {y : Tu Int} (h : Made cs X y) :
    (∀ s ∈ S, okB y.l (bnd r s) = true) → ∃ x ∈ X, ∀ s ∈ S, okB x.l (bnd r s) = true := by
  induction h with
  | told h => intro hy; exact ⟨_, h, hy⟩
  | @made p rs hp hlen _ ih =>
    intro hy
    apply Classical.byContradiction
    intro no
    have each : ∀ x ∈ rs, ∃ s ∈ S, okB x.l (bnd r s) = false := fun x hx => by
      apply Classical.byContradiction
      intro z
      exact no (ih x hx fun s hs => by
        cases q : okB x.l (bnd r s) with
        | true => rfl
        | false => exact absurd ⟨s, hs, q⟩ z)
    obtain ⟨f, hf⟩ := choose_f rs each
    have hw := (ok p hp).1.w
    refine hl p hp (hv_of_pck (S := S) (room := roomOf p) ⟨p.1.zip (rs.map f), List.map_fst_zip (by rw [List.length_map]; omega), fun q hq => ?_, fun s hs => ?_⟩)
    · obtain ⟨x, hx, e⟩ := List.mem_map.mp (List.of_mem_zip (a := q.1) (b := q.2) hq).2
      rw [← e]; exact (hf x hx).1
    · have h1 := missW_le (S := S) (r := r) (s := s) (f := f) rs p.1 hlen hw fun x hx => (hf x hx).2
      have h2 := hy s hs
      have hb := in_sides.mp (hS s hs)
      rw [okB_stl (ok p hp).1 hlen (b := bnd r s) (by rw [(ok p hp).2]; exact hb)] at h2
      have h2 := of_decide_eq_true h2
      exact Int.le_trans h1 h2
/-- what can be made has width w -/
theorem made_wid {cs : List (List Int × List Int)} {X : List (Tu Int)} {w : Nat} (ok : ∀ c ∈ cs, c.2.length = w) (hX : ∀ x ∈ X, x.l.length = w) {y : Tu Int} (h : Made cs X y) : y.l.length = w := by
  cases h with
  | told h => exact hX _ h
  | made hp _ _ => rw [stl_len']; exact ok _ hp
theorem light_made {cs : List (List Int × List Int)} {X : List (Tu Int)} {w : Nat} (ok : ∀ c ∈ cs, SesOk c ∧ c.2.length = w) {r : Tu Int} (base : ∀ S : List Sd, S.Nodup → (∀ s ∈ S, s ∈ sidesW w) → LightS cs S → ∃ x ∈ X, ∀ s ∈ S, okB x.l (bnd r s) = true) :
    ∀ (n : Nat) (S : List Sd), S.length = n → S.Nodup → (∀ s ∈ S, s ∈ sidesW w) → ∃ y, Made cs X y ∧ ∀ s ∈ S, okB y.l (bnd r s) = true
  | n, S, hn, nd, hS => by
    by_cases hl : LightS cs S
    · obtain ⟨x, h1, h2⟩ := base S nd hS hl
      exact ⟨x, .told h1, h2⟩
    · obtain ⟨c, hc⟩ := Classical.not_forall.mp hl
      obtain ⟨hcs, hc⟩ := Classical.not_imp.mp hc
      have hv : Hv c.1 (S.map (roomOf c)) := Classical.byContradiction hc
      have so := (ok c hcs).1
      have r0 : ∀ s ∈ S, 0 ≤ roomOf c s := fun s hs => by
        have hb := in_sides.mp (hS s hs)
        have hlt : s.1.toNat < c.2.length := by rw [(ok c hcs).2]; omega
        have hq := so.q (c.2.getD s.1.toNat 0) (by rw [getD_lt hlt]; exact List.getElem_mem hlt)
        unfold roomOf room
        cases s.2
        · show 0 ≤ c.2.getD s.1.toNat 0 - 1; omega
        · show 0 ≤ c.1.sum - c.2.getD s.1.toNat 0; omega
      obtain ⟨ps, e, h1, h2⟩ := pck_of_hv nd r0 hv
      have hpos : 0 < n := by
        cases n with
        | succ n => omega
        | zero =>
          exfalso
          have z : S = [] := List.length_eq_zero_iff.mp hn
          subst z
          exact hv_none so.ne hv
      have each : ∀ p ∈ ps, ∃ y, Made cs X y ∧ ∀ s ∈ S.erase p.2, okB y.l (bnd r s) = true := fun p hp => by
        have hl := List.length_erase_of_mem (h1 p hp)
        exact light_made ok base (n - 1) (S.erase p.2) (by omega) (nd.erase _) fun s hs => hS s (List.mem_of_mem_erase hs)
      obtain ⟨qs, g1, g2⟩ : ∃ qs : List ((Int × Sd) × Tu Int), qs.map Prod.fst = ps ∧ ∀ q ∈ qs, Made cs X q.2 ∧ ∀ s ∈ S.erase q.1.2, okB q.2.l (bnd r s) = true := by
        have : ∀ ps : List (Int × Sd), (∀ p ∈ ps, ∃ y, Made cs X y ∧ ∀ s ∈ S.erase p.2, okB y.l (bnd r s) = true) → ∃ qs : List ((Int × Sd) × Tu Int), qs.map Prod.fst = ps ∧ ∀ q ∈ qs, Made cs X q.2 ∧ ∀ s ∈ S.erase q.1.2, okB q.2.l (bnd r s) = true := fun ps => by
          induction ps with
          | nil => intro _; exact ⟨[], rfl, fun q hq => by cases hq⟩
          | cons p ps ih =>
            intro h
            obtain ⟨y, hy⟩ := h p List.mem_cons_self
            obtain ⟨qs, k1, k2⟩ := ih fun x hx => h x (List.mem_cons_of_mem _ hx)
            refine ⟨(p, y) :: qs, by rw [List.map_cons, k1], fun q hq => ?_⟩
            rcases List.mem_cons.mp hq with rfl | hq
            · exact hy
            · exact k2 q hq
        exact this ps each
      have hlen : (qs.map Prod.snd).length = c.1.length := by
        rw [List.length_map, ← e, ← g1, List.length_map, List.length_map]
      refine ⟨⟨stl c.1 c.2 (qs.map Prod.snd)⟩, .made hcs hlen fun y hy => ?_, fun s hs => ?_⟩
      · obtain ⟨q, hq, rfl⟩ := List.mem_map.mp hy
        exact (g2 q hq).1
      · have hb := in_sides.mp (hS s hs)
        show okB (stl c.1 c.2 (qs.map Prod.snd)) (bnd r s) = true
        rw [okB_stl so hlen (b := bnd r s) (by rw [(ok c hcs).2]; exact hb)]
        apply decide_eq_true
        have ew : qs.map (fun q => q.1.1) = c.1 := by rw [← e, ← g1, List.map_map]; rfl
        have h3 := le_missW (S := S) (r := r) (s := s) qs (fun q hq => so.w _ (by rw [← ew]; exact List.mem_map.mpr ⟨q, hq, rfl⟩)) fun q hq hne => (g2 q hq).2 s ((List.mem_erase_of_ne (Ne.symm hne)).mpr hs)
        rw [ew, g1] at h3
        exact Int.le_trans h3 (h2 s hs)
structure PartsOk (cs : List (List Int × List Int)) (w : Nat) (parts : List (List Sd)) : Prop where
  sd : ∀ part ∈ parts, ∀ s ∈ part, s ∈ sidesW w
  lt : ∀ part ∈ parts, LightS cs part
  up : ∀ S : List Sd, S.Nodup → (∀ s ∈ S, s ∈ sidesW w) → LightS cs S → ∃ part ∈ parts, ∀ s ∈ S, s ∈ part
theorem makes_iff {cs : List (List Int × List Int)} {X : List (Tu Int)} {w : Nat} {parts : List (List Sd)} (ok : ∀ c ∈ cs, SesOk c ∧ c.2.length = w) (po : PartsOk cs w parts) (hX : ∀ x ∈ X, x.l.length = w) {r : Tu Int} (hr : r.l.length = w) : makesB parts X r = true ↔ Made cs X r := by
  rw [makes_all hr po.sd]
  have self : ∀ s ∈ sidesW w, okB r.l (bnd r s) = true := fun s hs => by
    unfold okB bnd
    cases s.2 <;> exact decide_eq_true (Int.le_refl _)
  constructor
  · intro h
    obtain ⟨y, h1, h2⟩ := light_made (X := X) (r := r) ok (fun S nd hS hl => by
      obtain ⟨part, g1, g2⟩ := po.up S nd hS hl
      obtain ⟨x, g3, g4⟩ := h part g1
      exact ⟨x, g3, fun s hs => g4 s (g2 s hs)⟩) _ (sidesW w) rfl (sides_nodup w) fun s hs => hs
    have hy := made_wid (fun c hc => (ok c hc).2) hX h1
    have e : y.l = r.l := by
      apply List.ext_getElem (by rw [hy, hr])
      intro i h3 h4
      have hi : i < w := by rw [← hr]; exact h4
      have q1 := h2 ((i : Int), .least) (in_sides.mpr ⟨by show (0 : Int) ≤ i; omega, by show (i : Int) < w; omega⟩)
      have q2 := h2 ((i : Int), .most) (in_sides.mpr ⟨by show (0 : Int) ≤ i; omega, by show (i : Int) < w; omega⟩)
      have q1 : decide (r.l.getD ((i : Int)).toNat 0 ≤ y.l.getD ((i : Int)).toNat 0) = true := q1
      have q2 : decide (y.l.getD ((i : Int)).toNat 0 ≤ r.l.getD ((i : Int)).toNat 0) = true := q2
      rw [Int.toNat_natCast, getD_lt h3, getD_lt h4] at q1 q2
      have q1 := of_decide_eq_true q1
      have q2 := of_decide_eq_true q2
      omega
    have : y = r := by cases y; cases r; cases e; rfl
    rw [← this]; exact h1
  · intro h part hp
    exact made_light ok (po.sd part hp) (po.lt part hp) h fun s hs => self s (po.sd part hp s hs)
/-! ### the program's parts -/
def casesOf (cs : List (List Int × List Int)) (sides : List Sd) : List (List Int × List Int) := cs.map fun c => (c.1, sides.map (roomOf c))
def lightSets (cs : List (List Int × List Int)) (sides : List Sd) : List (List Sd) := lsets (srt Sd false sides) (hvTab (casesOf cs (srt Sd false sides)) (srt Sd false sides).length (2 ^ (srt Sd false sides).length - 1))
theorem room_nn {c : List Int × List Int} {w : Nat} (so : SesOk c) (hw : c.2.length = w) {s : Sd} (hs : s ∈ sidesW w) : 0 ≤ roomOf c s := by
  have hb := in_sides.mp hs
  have hlt : s.1.toNat < c.2.length := by rw [hw]; omega
  have hq := so.q (c.2.getD s.1.toNat 0) (by rw [getD_lt hlt]; exact List.getElem_mem hlt)
  unfold roomOf room
  cases s.2
  · show 0 ≤ c.2.getD s.1.toNat 0 - 1; omega
  · show 0 ≤ c.1.sum - c.2.getD s.1.toNat 0; omega
theorem heavy_cases {cs : List (List Int × List Int)} {sides : List Sd} {mask : Nat} : heavyM (casesOf cs sides) mask ↔ ¬ LightS cs (memA sides mask) := by
  unfold heavyM casesOf LightS
  constructor
  · rintro ⟨c, hc, h⟩ l
    obtain ⟨c', h1, rfl⟩ := List.mem_map.mp hc
    rw [memA_map] at h
    exact l c' h1 h
  · intro h
    obtain ⟨c, hc⟩ := Classical.not_forall.mp h
    obtain ⟨h1, h2⟩ := Classical.not_imp.mp hc
    have h2 := Classical.byContradiction h2
    exact ⟨_, List.mem_map.mpr ⟨c, h1, rfl⟩, by rw [memA_map]; exact h2⟩
theorem parts_ok {cs : List (List Int × List Int)} {w : Nat} (ok : ∀ c ∈ cs, SesOk c ∧ c.2.length = w) : PartsOk cs w (lightSets cs (sidesW w)) := by
  let sides := srt Sd false (sidesW w)
  have hm : ∀ s, s ∈ sides ↔ s ∈ sidesW w := fun s => srt_mem
  have nd : sides.Nodup := srt_nodup (sides_nodup w)
  have co : ∀ c ∈ casesOf cs sides, CaseOk sides.length c := fun c hc => by
    obtain ⟨c', h1, rfl⟩ := List.mem_map.mp hc
    have o := ok c' h1
    refine ⟨o.1.ne, o.1.w, fun r hr => ?_, by show (sides.map (roomOf c')).length = _; rw [List.length_map]⟩
    obtain ⟨s, hs, rfl⟩ := List.mem_map.mp hr
    exact room_nn o.1 o.2 ((hm s).mp hs)
  have inl := fun part => in_lsets (part := part) co
  refine ⟨fun part hp s hs => ?_, fun part hp => ?_, fun S ndS hS hl => ?_⟩
  · obtain ⟨mask, _, rfl, _⟩ := (inl part).mp hp
    exact (hm s).mp ((memA_sublist _ _).subset hs)
  · obtain ⟨mask, _, rfl, h, _⟩ := (inl part).mp hp
    rw [heavy_cases] at h
    exact Classical.byContradiction h
  · let f : Sd → Bool := fun s => decide (s ∈ S)
    have e : memA sides (sb f sides) = sides.filter f := memA_sb f sides
    have pm : S.Perm (sides.filter f) := (List.perm_ext_iff_of_nodup ndS (nd.filter _)).mpr fun s => by
      rw [List.mem_filter]
      exact ⟨fun h => ⟨(hm s).mpr (hS s h), decide_eq_true h⟩, fun h => of_decide_eq_true h.2⟩
    have hl' : ¬ heavyM (casesOf cs sides) (sb f sides) := by
      rw [heavy_cases, e]
      exact fun z => z fun c hc hv => hl c hc (hv.perm (pm.symm.map _))
    obtain ⟨top, g1, g2, g3, g4⟩ := light_up (casesOf cs sides) _ (sb f sides) (Nat.le_refl _) (sb_lt f sides) hl'
    refine ⟨memA sides top, (inl _).mpr ⟨top, g1, rfl, g3, g4⟩, fun s hs => ?_⟩
    have : s ∈ memA sides (sb f sides) := by rw [e]; exact pm.mem_iff.mp hs
    exact (memA_sub g2 sides).subset this
/-! ### until nothing is new -/
def evr (plans : List (List Int × List Int)) : Nat → List (Tu Int) → List (Tu Int)
  | 0, f => f
  | n + 1, f => if (rnd plans f).length = f.length then rnd plans f else evr plans n (rnd plans f)
theorem rnd_sup {plans : List (List Int × List Int)} {f : List (Tu Int)} {x : Tu Int} (h : x ∈ f) : x ∈ rnd plans f := sset_mem.mpr (List.mem_append_left _ h)
theorem rnd_made {plans : List (List Int × List Int)} {X f : List (Tu Int)} (h : ∀ x ∈ f, Made plans X x) : ∀ x ∈ rnd plans f, Made plans X x := fun x hx => by
  rcases List.mem_append.mp (sset_mem.mp hx) with hx | hx
  · exact h x hx
  · obtain ⟨p, hp, hx⟩ := List.mem_flatMap.mp hx
    obtain ⟨s, hs, rfl⟩ := List.mem_map.mp hx
    obtain ⟨h1, h2⟩ := seats_each f _ s hs
    exact .made hp h1 fun r hr => h r (h2 r hr)
theorem same_of_len {α : Type} [DecidableEq α] {l m : List α} (hl : l.Nodup) (hs : ∀ x ∈ l, x ∈ m) (hlen : m.length = l.length) : ∀ x ∈ m, x ∈ l := fun x hx => by
  apply Classical.byContradiction
  intro z
  have : (x :: l).length ≤ m.length := nodup_subL (x :: l) m (List.nodup_cons.mpr ⟨z, hl⟩) fun y hy => by
    rcases List.mem_cons.mp hy with rfl | hy
    · exact hx
    · exact hs y hy
  rw [List.length_cons] at this; omega
theorem evr_made {plans : List (List Int × List Int)} {X : List (Tu Int)} : ∀ (n : Nat) (f : List (Tu Int)), f.Nodup → (∀ x ∈ X, x ∈ f) → (∀ x ∈ f, Made plans X x) → (∀ g : List (Tu Int), g.Nodup → (∀ x ∈ g, Made plans X x) → g.length < n + f.length) →
    ∀ x, x ∈ evr plans n f ↔ Made plans X x
  | 0, f, nd, _, hm, hN => by have := hN f nd hm; omega
  | n + 1, f, nd, hX, hm, hN => fun x => by
    unfold evr
    have ndr : (rnd plans f).Nodup := sset_nodup _
    by_cases e : (rnd plans f).length = f.length
    · rw [if_pos e]
      refine ⟨rnd_made hm x, fun h => ?_⟩
      have same := same_of_len nd (fun y hy => rnd_sup (plans := plans) hy) e
      induction h with
      | told h => exact rnd_sup (hX _ h)
      | @made p rs hp hlen _ ih =>
        refine sset_mem.mpr (List.mem_append_right _ (List.mem_flatMap.mpr ⟨p, hp, List.mem_map.mpr ⟨⟨rs⟩, (seats_iff _ _ _).mpr ⟨hlen, fun r hr => same r (ih r hr)⟩, rfl⟩⟩))
    · rw [if_neg e]
      have hle : f.length ≤ (rnd plans f).length := nodup_subL _ _ nd fun y hy => rnd_sup hy
      exact evr_made n (rnd plans f) ndr (fun y hy => rnd_sup (hX y hy)) (rnd_made hm) (fun g h1 h2 => by have := hN g h1 h2; omega) x
end Pk

/-! Packings, walked: exactly, fits, next_loads, load_levels, first_fit, can_pack. -/
namespace Pk
open PySem L2
open PySem.W (dataLe)
open Enc (enc dep)
theorem dataLe_int (a b : Int) : dataLe true PyData.int a b = decide (b ≤ a) := by
  have e : dataLe true PyData.int a b = !PyProof.Rows.lexLt PyProof.Rows.itemOrd (PySem.W.keyToks (.int a)) (PySem.W.keyToks (.int b)) := rfl
  have e1 : PyProof.Rows.lexLt PyProof.Rows.itemOrd (PySem.W.keyToks (.int a)) (PySem.W.keyToks (.int b)) = (decide (a < b) || (!decide (b < a) && false)) := by
    simp only [PySem.W.keyToks]; rfl
  rw [e, e1]
  by_cases h : a < b
  · have h2 : ¬ b ≤ a := by omega
    simp [h, h2]
  · have h2 : b ≤ a := by omega
    simp [h, h2]
theorem srtB_dsc (ns : List Int) : ns.mergeSort (dataLe true PyData.int) = dsc ns := by
  have : dataLe true PyData.int = fun a b => decide (b ≤ a) := funext fun a => funext fun b => dataLe_int a b
  rw [this]; rfl
theorem cut_take {α : Type} (xs : List α) (n : Nat) (h : n ≤ xs.length) : cut xs none (some (n : Int)) = xs.take n := by
  unfold cut
  rw [HT.sIx_none, HT.sIx_nat, List.drop_zero, Nat.sub_zero, Nat.min_eq_left h]
theorem cut_drop {α : Type} (xs : List α) (n : Nat) (h : n ≤ xs.length) : cut xs (some (n : Int)) none = xs.drop n := by
  unfold cut
  rw [HT.sIx_none, HT.sIx_nat, Nat.min_eq_left h, List.take_of_length_le (by rw [List.length_drop]; exact Nat.le_refl _)]
section
variable {C : MI} {K : PySem.W.Frag} {σ : L2.St} {B0 H0 B H : Hp} {te : TE} {tz : TS} {D : Ends} {i : Nat}
theorem ev_srtB {ns : List Int} (h : Ev C te σ B (Is K ns)) : Ev C (tCKw (rSrtB K true) (tCons te tNil) (tCons (tC (.bl true)) tNil)) σ B (NewL B ((dsc ns).map (Is K))) := fun B1 H1 e k Q q =>
  h B1 H1 e k _ fun v B2 H2 s r => by
    obtain ⟨a, vs, rfl, h2, h3⟩ := is_lst.mp r
    have := args_ints.mp h3
    subst this
    refine ⟨a, ns, rfl, rfl, .inl (s.ok.sub _ _ h2), fun p hp => ?_⟩
    rw [srtB_dsc]
    exact q _ _ _ (s.trans (s.ok.new hp)) ⟨p, _, rfl, (e.trans s.bb).un (s.ok.sub.un hp), upd_same, args_ints.mpr rfl⟩
theorem ev_srtBT {ns : Tu Int} (h : Ev C te σ B (Is K ns)) : Ev C (tCKw (rSrtB K true) (tCons te tNil) (tCons (tC (.bl true)) tNil)) σ B (NewL B ((dsc ns.l).map (Is K))) := fun B1 H1 e k Q q =>
  h B1 H1 e k _ fun v B2 H2 s r => by
    obtain ⟨a, vs, rfl, h2, h3⟩ := is_tup.mp r
    have := args_ints.mp h3
    subst this
    refine ⟨a, ns.l, rfl, rfl, .inr (s.ok.sub _ _ h2), fun p hp => ?_⟩
    rw [srtB_dsc]
    exact q _ _ _ (s.trans (s.ok.new hp)) ⟨p, _, rfl, (e.trans s.bb).un (s.ok.sub.un hp), upd_same, args_ints.mpr rfl⟩
/-- list(d) of an own dict with tuple keys, known from now on -/
theorem keys_known {ν : Type} {kvs : List (List Key × V)} : ∀ {st : List (List Int)} {kvs : List (List Key × V)} {bs : List Addr} {B : Hp}, Ok C B H → kvs.map Prod.fst = st.map ik → IsKeys H kvs bs → ∃ B2, Stp C B H B2 H ∧ Args (st.map fun h => Is K (Tu.mk h)) (bs.map V.ref) B2
  | [], kvs, bs, B, k, h, hk => by
    cases kvs with
    | nil => cases hk; exact ⟨B, k.refl, .nil⟩
    | cons _ _ => cases h
  | x :: st, kvs, bs, B, k, h, hk => by
    cases kvs with
    | nil => cases h
    | cons kv kvs =>
      rw [List.map_cons, List.map_cons] at h
      injection h with h1 h2
      cases hk with
      | @cons _ b _ bs r t =>
        obtain ⟨B1, s1, e1⟩ := k.tup r
        obtain ⟨B2, s2, a2⟩ := keys_known (ν := ν) (kvs := kvs) s1.ok h2 t
        rw [h1] at e1
        exact ⟨B2, s1.trans s2, .cons (Rp.mono _ s2.bb (val_key e1)) a2⟩
theorem ea_keysT {ν : Type} {Rv : ν → Rp} {st : List (List Int × ν)} {l : Addr} (a : AccT C H0 Rv l st B H) (k : Ok C B H) (hx : σ[i]? = some (some (.ref l))) : EvAt C (tCB rListT (tCons (tVar i) tNil)) σ B H (Is K (st.map fun p => Tu.mk p.1)) := fun Q q => by
  obtain ⟨kvs, h1, h2, h3⟩ := a.is
  refine ⟨.ref l, hx, l, kvs, rfl, .inl h1, fun p bs hp hk => ?_⟩
  have h2' : kvs.map Prod.fst = (st.map Prod.fst).map ik := by rw [h2, List.map_map]; rfl
  obtain ⟨B2, s2, a2⟩ := keys_known (K := K) (ν := ν) (kvs := kvs) k h2' hk
  refine q _ _ _ (s2.trans (s2.ok.new hp)) (is_lst.mpr ⟨p, _, rfl, upd_same, ?_⟩)
  have := a2.mono (Ex.new (p := p) (o := .lst (bs.map V.ref)) (s2.ok.sub.un hp))
  rw [List.map_map] at this ⊢
  exact this
/-- sorted(..) of what is told at this heap -/
theorem ea_sort {α : Type} [Enc α] [Alk α] {xs : List α} (h : EvAt C te σ B H (Is K xs)) (so : PySem.W.Sortable (xs.map enc)) (hd : dep α ≤ 60 := by decide) : EvAt C (tCB (SrtIn K false) (tCons te tNil)) σ B H (Is K (srt α false xs)) := fun Q q =>
  h _ fun v B2 H2 s r => ev_sort (K := K) (te := tC v) (σ := σ) (B := B2) (ev_val r) so hd B2 H2 (.refl _) s.ok Q fun v B3 H3 s3 r3 => q v B3 H3 (s.trans s3) r3
end
theorem so_tu {α : Type} [Enc α] {xs : List (Tu α)} (h : ∀ x ∈ xs, x.l ≠ []) : PySem.W.Sortable (xs.map enc) := .inl fun d hd => by
  obtain ⟨b, hb, rfl⟩ := List.mem_map.mp hd
  have := h b hb
  obtain ⟨l⟩ := b
  cases l with
  | nil => exact absurd rfl this
  | cons x r => exact ⟨enc x, r.map enc, rfl⟩
section
variable {K : PySem.W.Frag}
def p_exactly (K : PySem.W.Frag) : Pm (Tu Int) where
  n := 1
  args x := [Is K x]
  pre x := x.l.length ≤ 1000
  res x := Is K (exactL x)
abbrev sp_exactly (K : PySem.W.Frag) : Sp := (p_exactly K).sp
def t_exactly (K : PySem.W.Frag) : TS := (tSeq (tAsg (tLst tNil) (gName 1))
  (tSeq (tFor (iEnumM K false (tCons (tVar 0) tNil)) (gTup K 2 (gCons (gName 2) (gCons (gName 3) gNil))) (tDrop (tBM K "list" rExtend (tVar 1) (tCons (tLst (tCons (tTup (tCons (tVar 2) (tCons (tC (.str "least")) (tCons (tVar 3) tNil)))) (tCons (tTup (tCons (tVar 2) (tCons (tC (.str "most")) (tCons (tVar 3) tNil)))) tNil))) tNil))))
  (tRet (tVar 1))))
theorem len_exactly (K : PySem.W.Frag) : ∀ vs H Q E, sp_exactly K vs H Q E → vs.length = 1 := Pm.len _ rfl
theorem pure_exactly (c : Kn0 K) : ∀ vs H Q E, sp_exactly K vs H Q E → t_exactly K { nx := fun _ H' => Q .non H', rt := Q } (start ["row", "found", "column", "value"] vs) H := by
  rintro vs H Q E ⟨C, B, r, k, _, a, hp, q⟩
  have hp : r.l.length ≤ 1000 := hp
  obtain _ | @⟨_, v0, _, _, r0, _ | _⟩ := a
  refine q_new (Ra := Is K) (α := Bd) k.refl fun l hl S A => ?_
  let two (p : Nat × Int) : List Bd := [⟨(p.1 : Int), Wy.least, p.2⟩, ⟨(p.1 : Int), Wy.most, p.2⟩]
  have hz : ((List.range r.l.length).zip r.l).length = r.l.length := by rw [List.length_zip, List.length_range, Nat.min_self]
  have two_len : ∀ ps : List (Nat × Int), (ps.flatMap two).length = 2 * ps.length := fun ps => by
    induction ps with
    | nil => rfl
    | cons p ps ih => rw [List.flatMap_cons, List.length_append, ih]; simp [two]; omega
  refine q_forD (xs := (List.range r.l.length).zip r.l) (Ri := fun p : Nat × Int => TupR [Is K (p.1 : Int), Is K p.2]) (J := fun p => JP 2 3 (Is K (p.1 : Int)) (Is K p.2)) (ei_enumMD (K := K) (ea_cons ((ev_var (i := 0) rfl r0).le (sq_t (K := K) (xs := r))) ea_nil)) S (fun x => go_pair)
    (fun pre σ1 B1 H1 => ∃ o2 o3, σ1 = [some v0, some (.ref l), o2, o3] ∧ Acc C H (Is K) l (pre.flatMap two) B1 H1) (fun B1 H1 S1 s1 => ⟨none, none, rfl, A.step s1⟩) (fun pre p post σ1 B3 H3 B4 H4 hx S3 e3 ⟨o2, o3, hs, A3⟩ s4 σ2 j => ?_) (fun σ1 B3 H3 S3 e3 ⟨o2, o3, hs, A3⟩ => ?_)
  · subst hs
    obtain ⟨v2, v3, r2, r3, rfl⟩ := j
    have hpl := pre_len hx
    rw [hz] at hpl
    refine s_ext (K := K) (ys := two p) (A3.step s4) (ev_var rfl rfl) (Ev.le (ev_lst (Rs := (two p).map (Is K)) (ea_cons ((ev_tup (ea_cons (ev_var (i := 2) rfl r2) (ea_cons ev_least (ea_cons (ev_var (i := 3) rfl r3) ea_nil))) (by simp)).le fun _ _ h => is_bd.mpr h) (ea_cons ((ev_tup (ea_cons (ev_var (i := 2) rfl r2) (ea_cons ev_most (ea_cons (ev_var (i := 3) rfl r3) ea_nil))) (by simp)).le fun _ _ h => is_bd.mpr h) ea_nil)) (by show 2 ≤ 1000; decide)) fun _ _ h => h) (S3.trans s4) ?_ fun B8 H8 H9 S9 s8 _ A9 => ⟨B8, S9, s4.bb.trans s8.bb, some v2, some v3, rfl, by rw [List.flatMap_append, List.flatMap_singleton]; exact A9⟩
    rw [two_len]; show _ + 2 ≤ _; omega
  · subst hs
    refine s_retAcc A3 rfl S3 fun B2 S2 r2 => q _ B2 H3 S2 (is_lst.mpr ?_)
    have e : ((List.range r.l.length).zip r.l).flatMap two = exactL r := by
      unfold exactL
      have : (List.range r.l.length).zip r.l = (List.range r.l.length).map fun c => (c, r.l.getD c 0) := by
        apply List.ext_getElem
        · rw [hz, List.length_map, List.length_range]
        · intro i h1 h2
          rw [List.length_map, List.length_range] at h2
          rw [List.getElem_zip, List.getElem_map, List.getElem_range, getD_lt h2]
      rw [this, List.flatMap_map]
    rw [← e]; exact r2
def p_fits (K : PySem.W.Frag) : Pm (List Int × List Int) where
  n := 2
  args x := [Is K (Tu.mk x.1), Is K x.2]
  pre x := x.1.length ≤ 1000
  res x := Is K (fitsB x.1 x.2)
abbrev sp_fits (K : PySem.W.Frag) : Sp := (p_fits K).sp
def t_fits (K : PySem.W.Frag) : TS := (tRet (tAndV (tOp rLeI (tCB (rLenQ K) (tCons (tVar 0) tNil)) (tCB (rLenQ K) (tCons (tVar 1) tNil))) (tCB (rAll K) (tCons (tLc (iZipM K false true (tCons (tVar 0) (tCons (tVar 1) tNil))) (gTup K 2 (gCons (gName 2) (gCons (gName 3) gNil))) tYes (tOp rLeI (tVar 2) (tVar 3)) [2, 3]) tNil))))
theorem len_fits (K : PySem.W.Frag) : ∀ vs H Q E, sp_fits K vs H Q E → vs.length = 2 := Pm.len _ rfl
theorem pure_fits (c : Kn0 K) : ∀ vs H Q E, sp_fits K vs H Q E → t_fits K { nx := fun _ H' => Q .non H', rt := Q } (start ["load", "tops", "one", "top"] vs) H := by
  rintro vs H Q E ⟨C, B, ⟨load, tops⟩, k, _, a, hp, q⟩
  have hp : load.length ≤ 1000 := hp
  obtain _ | @⟨_, v0, _, _, r0, _ | @⟨_, v1, _, _, r1, _ | _⟩⟩ := a
  refine s_ret (ev_and (b := decide ((load.length : Int) ≤ (tops.length : Int))) (K := K) (ev_ib (K := K) (g := fun i j => decide (i ≤ j)) (ev_lenTD (K := K) (ev_var (i := 0) rfl r0)) (ev_lenD (K := K) (ev_var (i := 1) rfl r1))) fun _ => ev_all (K := K) (bs := (load.zip tops).map fun p => decide (p.1 ≤ p.2)) (ev_lcMD (K := K) (xs := load.zip tops) (Ri := fun p => TupR [Is K p.1, Is K p.2]) (J := fun p => JP 2 3 (Is K p.1) (Is K p.2)) (fun p => decide (p.1 ≤ p.2))
    (ei_zipMD (K := K) (ea_cons ((ev_var (i := 0) rfl r0).le (sq_t (K := K) (xs := Tu.mk load))) (ea_cons ((ev_var (i := 1) rfl r1).le (sq_l (K := K) (xs := tops))) ea_nil))) ?_ (fun x => go_pair) fun p σ2 B' hb eb j => ?_)) k.refl fun v B4 H4 S4 r4 => q v B4 H4 S4 ?_
  · rw [List.length_zip]; omega
  · obtain ⟨v, u, hv, hu, rfl⟩ := j
    exact ⟨rfl, ev_ib (K := K) (g := fun i j => decide (i ≤ j)) (ev_var (i := 2) rfl hv) (ev_var (i := 3) rfl hu)⟩
  · show (Is K (fitsB load tops)).P v B4
    unfold fitsB
    rw [all_map] at r4
    have e : decide ((load.length : Int) ≤ (tops.length : Int)) = decide (load.length ≤ tops.length) := decide_eq_decide.mpr Int.ofNat_le
    rw [e] at r4
    exact r4
def rawN (load : List Int) (w : Int) : List (Tu Int) := ⟨load ++ [w]⟩ :: (List.range load.length).map fun i => (⟨load.take i ++ [load.getD i 0 + w] ++ load.drop (i + 1)⟩ : Tu Int)
theorem raw_next (load : Tu Int) (w : Int) : (rawN load.l w).map (fun one => (⟨dsc one.l⟩ : Tu Int)) = nextT load w := by
  unfold rawN nextT nextL
  rw [List.map_cons, List.map_cons, List.map_map, List.map_map]; rfl
def p_next_loads (K : PySem.W.Frag) : Pm (Tu Int × Int) where
  n := 2
  args x := [Is K x.1, Is K x.2]
  pre x := x.1.l.length ≤ 1000
  res x := Is K (nextT x.1 x.2)
abbrev sp_next_loads (K : PySem.W.Frag) : Sp := (p_next_loads K).sp
def t_next_loads (K : PySem.W.Frag) : TS := (tSeq (tAsg (tLst (tCons (tOp (rCatA K) (tVar 0) (tTup (tCons (tVar 1) tNil))) tNil)) (gName 2))
  (tSeq (tFor (iRng1 (tCons (tCB (rLenQ K) (tCons (tVar 0) tNil)) tNil)) (gName 3) (tDrop (tBM K "list" rAppend (tVar 2) (tCons (tOp (rCatA K) (tOp (rCatA K) (tSl (rSlA K) (tVar 0) tNoPart (tPart (tVar 3))) (tTup (tCons (tOp rAddI (tOp (rIxT K) (tVar 0) (tVar 3)) (tVar 1)) tNil))) (tSl (rSlA K) (tVar 0) (tPart (tOp rAddI (tVar 3) (tC (.int 1)))) tNoPart)) tNil))))
  (tRet (tLc (iList K (tVar 2)) (gName 4) tYes (tThen (tCKw (rSrtB K true) (tCons (tVar 4) tNil) (tCons (tC (.bl true)) tNil)) (kTup K)) [4]))))
theorem len_next_loads (K : PySem.W.Frag) : ∀ vs H Q E, sp_next_loads K vs H Q E → vs.length = 2 := Pm.len _ rfl
theorem pure_next_loads (c : Kn0 K) : ∀ vs H Q E, sp_next_loads K vs H Q E → t_next_loads K { nx := fun _ H' => Q .non H', rt := Q } (start ["load", "weight", "some", "at", "one"] vs) H := by
  rintro vs H Q E ⟨C, B, ⟨load, w⟩, k, _, a, hp, q⟩
  have hp : load.l.length ≤ 1000 := hp
  obtain _ | @⟨_, v0, _, _, r0, _ | @⟨_, v1, _, _, r1, _ | _⟩⟩ := a
  have one1 : ∀ {σ : L2.St} {te : TE} {z : Int} {B : Hp}, Ev C te σ B (Is K z) → Ev C (tTup (tCons te tNil)) σ B (Is K (Tu.mk [z])) := fun h => (ev_tup (Rs := [Is K _]) (ea_cons h ea_nil) (by simp)).le fun _ _ g => is_tup.mpr g
  refine q_lstO (Ra := Is K) (xs := [(⟨load.l ++ [w]⟩ : Tu Int)]) (ea_cons (ev_catTD (K := K) (xs := load) (ys := ⟨[w]⟩) (ev_var (i := 0) rfl r0) (one1 (ev_var (i := 1) rfl r1)) (by show load.l.length + 1 ≤ _; omega)) ea_nil B H (.refl _) k) k.refl (by simp) fun l B2 H2 S2 e2 A2 => ?_
  let g (i : Nat) : Tu Int := ⟨load.l.take i ++ [load.l.getD i 0 + w] ++ load.l.drop (i + 1)⟩
  refine q_forD (xs := rng 0 ((load.l.length : Int)).toNat) (Ri := Is K) (J := fun i => JN 3 (Is K i)) (ei_range1 (K := K) (ea_cons (ev_lenTD (K := K) (ev_var (i := 0) rfl (Rp.mono _ e2 r0))) ea_nil) (by omega)) S2 (fun x => go_name)
    (fun pre σ1 B1 H1 => ∃ o3, σ1 = [some v0, some v1, some (.ref l), o3, none] ∧ Acc C H (Is K) l (⟨load.l ++ [w]⟩ :: (List.range pre.length).map g) B1 H1) (fun B1 H1 S1 s1 => ⟨none, rfl, A2.step s1⟩) (fun pre x post σ1 B3 H3 B4 H4 hx S3 e3 ⟨o3, hs, A3⟩ s4 σ2 j => ?_) (fun σ1 B3 H3 S3 e3 ⟨o3, hs, A3⟩ => ?_)
  · subst hs
    obtain ⟨v3, r3, rfl⟩ := j
    obtain ⟨rfl, hc⟩ := rng_pre hx
    have hc : pre.length < load.l.length := by omega
    have e04 : Ex B B4 := e2.trans (e3.trans s4.bb)
    have R0 : (Is K load).P v0 B4 := Rp.mono _ e04 r0
    have R1 : (Is K w).P v1 B4 := Rp.mono _ e04 r1
    have sl1 : Ev C (tSl (rSlA K) (tVar 0) tNoPart (tPart (tVar 3))) [some v0, some v1, some (.ref l), some v3, none] B4 (Is K (Tu.mk (load.l.take pre.length))) := Ev.to (F := Is K) (ev_slTD (K := K) (xs := load) (ev_var (i := 0) rfl R0) eo_none (eo_some (K := K) (ev_var (i := 3) rfl r3))) (by rw [cut_take _ _ (by omega)])
    have sl2 : Ev C (tSl (rSlA K) (tVar 0) (tPart (tOp rAddI (tVar 3) (tC (.int 1)))) tNoPart) [some v0, some v1, some (.ref l), some v3, none] B4 (Is K (Tu.mk (load.l.drop (pre.length + 1)))) := Ev.to (F := Is K) (ev_slTD (K := K) (xs := load) (ev_var (i := 0) rfl R0) (eo_some (K := K) (ev_i (K := K) (g := fun i j => i + j) (ev_var (i := 3) rfl r3) ev_int)) eo_none) (by
      show Tu.mk (cut load.l (some ((pre.length : Int) + 1)) none) = _
      rw [show (pre.length : Int) + 1 = ((pre.length + 1 : Nat) : Int) by omega, cut_drop _ _ (by omega)])
    refine s_app (K := K) (x := g pre.length) (A3.step s4) (ev_var rfl rfl) (ev_catTD (K := K) (xs := ⟨load.l.take pre.length ++ [load.l.getD pre.length 0 + w]⟩) (ys := ⟨load.l.drop (pre.length + 1)⟩) (ev_catTD (K := K) (xs := ⟨load.l.take pre.length⟩) (ys := ⟨[load.l.getD pre.length 0 + w]⟩) sl1 (one1 (ev_i (K := K) (g := fun i j => i + j) (ev_ixTd (K := K) (xs := load) (ev_var (i := 0) rfl R0) (ev_var (i := 3) rfl r3) (atI_get hc)) (ev_var (i := 1) rfl R1))) ?_) sl2 ?_) (S3.trans s4) ?_ fun B8 H8 H9 S9 s8 _ A9 => ⟨B8, S9, s4.bb.trans s8.bb, some v3, rfl, ?_⟩
    · show (load.l.take pre.length).length + 1 ≤ _; rw [List.length_take]; omega
    · show (load.l.take pre.length ++ [_]).length + (load.l.drop (pre.length + 1)).length ≤ _
      rw [List.length_append, List.length_take, List.length_drop, List.length_singleton]; omega
    · rw [List.length_cons, List.length_map, List.length_range]; omega
    · rw [List.length_append, List.length_singleton, List.range_succ, List.map_append, ← List.cons_append]; exact A9
  · subst hs
    rw [rng_len, Int.toNat_natCast] at A3
    obtain ⟨B8, S8, e8, rl, _⟩ := A3.frz S3
    refine s_ret (ev_lcMD (K := K) (xs := rawN load.l w) (fun one => (⟨dsc one.l⟩ : Tu Int)) (ei_list ((ev_var (i := 2) rfl rl))) ?_ (fun x => go_name) fun one σ2 B' hb eb j => ?_) S8 fun v B4 H4 S4 r4 => q v B4 H4 S4 (by rw [raw_next] at r4; exact r4)
    · show (_ :: List.map _ _).length ≤ _
      rw [List.length_cons, List.length_map, List.length_range]; omega
    · obtain ⟨v, hv, rfl⟩ := j
      exact ⟨rfl, ev_tupleD (K := K) ((ev_srtBT (K := K) (ev_var (i := 4) rfl hv)).le newL_is)⟩
end
end Pk

/-! Packings, walked: load_levels, first_fit, can_pack. -/
namespace Pk
open PySem L2
open Enc (enc dep)
def lvAll (tops ws : List Int) : List (List (Tu Int)) := ws.foldl (fun acc w => acc ++ [lvStep tops (acc.getLastD []) w]) [[⟨[]⟩]]
theorem lastL_snoc (ws tops : List Int) (w : Int) : lastL (ws ++ [w]) tops = lvStep tops (lastL ws tops) w := by unfold lastL; rw [List.foldl_append]; rfl
theorem lvAll_snoc (tops ws : List Int) (w : Int) : lvAll tops (ws ++ [w]) = lvAll tops ws ++ [lvStep tops ((lvAll tops ws).getLastD []) w] := by unfold lvAll; rw [List.foldl_append]; rfl
theorem lvAll_last (tops ws : List Int) : ∃ done, lvAll tops ws = done ++ [lastL ws tops] ∧ done.length = ws.length := by
  refine snoc_ind (P := fun ws => ∃ done, lvAll tops ws = done ++ [lastL ws tops] ∧ done.length = ws.length) ⟨[], rfl, rfl⟩ (fun ws w ⟨done, h1, h2⟩ => ?_) ws
  refine ⟨done ++ [lastL ws tops], ?_, by simp [h2]⟩
  rw [lvAll_snoc, h1, lastL_snoc]
  simp
theorem nextL_len {load t : List Int} {w : Int} (h : t ∈ nextL load w) : t.length ≤ load.length + 1 ∧ t ≠ [] := by
  have : ∀ L : List Int, t = dsc L → L.length ≤ load.length + 1 → L ≠ [] → t.length ≤ load.length + 1 ∧ t ≠ [] := fun L e h1 h2 => by
    have hl : t.length = L.length := by rw [e]; exact dsc_len L
    refine ⟨by omega, fun z => h2 ?_⟩
    rw [z] at hl
    exact List.length_eq_zero_iff.mp hl.symm
  rcases List.mem_cons.mp h with e | h
  · exact this _ e (by simp) (by simp)
  · obtain ⟨i, hi, e⟩ := List.mem_map.mp h
    have hi := List.mem_range.mp hi
    refine this _ e.symm ?_ (by simp)
    rw [List.length_append, List.length_append, List.length_take, List.length_drop, List.length_singleton]; omega
theorem lastL_each (tops ws : List Int) : ∀ t ∈ lastL ws tops, t.l.length ≤ ws.length := by
  refine snoc_ind (P := fun ws => ∀ t ∈ lastL ws tops, t.l.length ≤ ws.length) (fun t h => ?_) (fun ws w ih t h => ?_) ws
  · cases List.mem_singleton.mp h; exact Nat.le_refl _
  · rw [lastL_snoc, lvStep_mem'] at h
    obtain ⟨load, h1, h2, _⟩ := h
    obtain ⟨x, h3, rfl⟩ := List.mem_map.mp h2
    have := ih load h1
    have := (nextL_len h3).1
    rw [List.length_append, List.length_singleton]
    show x.length ≤ _
    omega
def fct : Nat → Nat
  | 0 => 1
  | n + 1 => fct n * (n + 1)
theorem nextT_len (load : Tu Int) (w : Int) : (nextT load w).length = load.l.length + 1 := by unfold nextT nextL; simp
theorem lvIns_len (tops : List Int) : ∀ (ys acc : List (Tu Int)), (ys.foldl (lvIns tops) acc).length ≤ acc.length + ys.length
  | [], acc => Nat.le_refl _
  | y :: ys, acc => by
    rw [List.foldl_cons, List.length_cons]
    have h1 := lvIns_len tops ys (lvIns tops acc y)
    have h2 : (lvIns tops acc y).length ≤ acc.length + 1 := by unfold lvIns; split <;> simp
    omega
abbrev ins2 (tops : List Int) (w : Int) (acc : List (Tu Int)) (load : Tu Int) : List (Tu Int) := (nextT load w).foldl (lvIns tops) acc
theorem ins2_len {tops : List Int} {w : Int} {m : Nat} : ∀ (level acc : List (Tu Int)), (∀ t ∈ level, t.l.length ≤ m) → (level.foldl (ins2 tops w) acc).length ≤ acc.length + level.length * (m + 1)
  | [], acc, _ => by simp
  | t :: level, acc, h => by
    rw [List.foldl_cons, List.length_cons, Nat.succ_mul]
    have h1 := ins2_len (tops := tops) (w := w) level (ins2 tops w acc t) fun x hx => h x (List.mem_cons_of_mem _ hx)
    have h2 := lvIns_len tops (nextT t w) acc
    rw [nextT_len] at h2
    have h3 := h t List.mem_cons_self
    have : (ins2 tops w acc t).length ≤ acc.length + (t.l.length + 1) := h2
    omega
theorem lastL_len (tops ws : List Int) : (lastL ws tops).length ≤ fct ws.length := by
  refine snoc_ind (P := fun ws => (lastL ws tops).length ≤ fct ws.length) (Nat.le_refl _) (fun ws w ih => ?_) ws
  rw [lastL_snoc, List.length_append, List.length_singleton]
  unfold lvStep
  rw [srt_len]
  have := ins2_len (tops := tops) (w := w) (m := ws.length) (lastL ws tops) [] (lastL_each tops ws)
  rw [List.length_nil, Nat.zero_add] at this
  exact Nat.le_trans this (Nat.mul_le_mul_right _ ih)
theorem fct_le {n : Nat} (h : n ≤ 7) : fct n ≤ 5040 := by
  have : n = 0 ∨ n = 1 ∨ n = 2 ∨ n = 3 ∨ n = 4 ∨ n = 5 ∨ n = 6 ∨ n = 7 := by omega
  rcases this with rfl | rfl | rfl | rfl | rfl | rfl | rfl | rfl <;> decide
section
variable {C : MI} {K : PySem.W.Frag} {σ : L2.St} {B0 H0 B H : Hp} {te : TE} {tu tz : TS} {D : Ends} {g : TG} {R R' : Rp}
theorem q_forAt (h : EvAt C te σ B H R) (S : Stp C B0 H0 B H) (k : ∀ v B2 H2, Stp C B0 H0 B2 H2 → Stp C B H B2 H2 → R.P v B2 → tSeq (tFor (iList K (tC v)) g tu) tz D σ H2) : tSeq (tFor (iList K te) g tu) tz D σ H :=
  h _ fun v B2 H2 s r => k v B2 H2 (S.trans s) s r
theorem EvAt.le (h : EvAt C te σ B H R) (l : R.le R') : EvAt C te σ B H R' := fun Q q => h Q fun v B2 H2 s r => q v B2 H2 s (l _ _ r)
end
section
variable {K : PySem.W.Frag}
def p_load_levels (K : PySem.W.Frag) : Pm (List Int × List Int) where
  n := 2
  args x := [Is K x.1, Is K x.2]
  pre x := x.1.length ≤ 7
  res x := Is K (lvAll (dsc x.2) x.1)
abbrev sp_load_levels (K : PySem.W.Frag) : Sp := (p_load_levels K).sp
def t_load_levels (K : PySem.W.Frag) : TS := (tSeq (tAsg (tCKw (rSrtB K true) (tCons (tVar 1) tNil) (tCons (tC (.bl true)) tNil)) (gName 2))
  (tSeq (tAsg (tLst (tCons (tLst (tCons (tTup tNil) tNil)) tNil)) (gName 3))
  (tSeq (tFor (iList K (tVar 0)) (gName 4) (tSeq (tAsg tDNewT (gName 5))
  (tSeq (tFor (iList K (tOp (rIxL K) (tVar 3) (tUn rNeg (tC (.int 1))))) (gName 6) (tFor (iList K (tCall (sp_next_loads K) [] E0 (tCons (tVar 6) (tCons (tVar 4) tNil)))) (gName 7) (tIfS (tAnd (tB (tDNotIn (tVar 7) (tVar 5))) (tB (tCall (sp_fits K) [] E0 (tCons (tVar 7) (tCons (tVar 2) tNil))))) (sDPut (tVar 5) (tVar 7) (tC (.bl true))) tNext)))
  (tDrop (tBM K "list" rAppend (tVar 3) (tCons (tCB (SrtIn K false) (tCons (tCB rListT (tCons (tVar 5) tNil)) tNil)) tNil))))))
  (tRet (tVar 3)))))
theorem len_load_levels (K : PySem.W.Frag) : ∀ vs H Q E, sp_load_levels K vs H Q E → vs.length = 2 := Pm.len _ rfl
theorem pure_load_levels (c : Kn0 K) : ∀ vs H Q E, sp_load_levels K vs H Q E → t_load_levels K { nx := fun _ H' => Q .non H', rt := Q } (start ["weights", "rooms", "tops", "levels", "weight", "level", "load", "one"] vs) H := by
  rintro vs H Q E ⟨C, B, ⟨ws, rooms⟩, k, _, a, hp, q⟩
  have hp : ws.length ≤ 7 := hp
  obtain _ | @⟨_, v0, _, _, r0, _ | @⟨_, v1, _, _, r1, _ | _⟩⟩ := a
  let tops := dsc rooms
  refine q_asg (R := Is K tops) ((ev_srtB (K := K) (ev_var (i := 1) rfl r1)).le newL_is) k.refl fun v2 B2 H2 S2 s2 r2 => ?_
  refine q_lstO (Ra := Is K) (xs := [[(⟨[]⟩ : Tu Int)]]) (ea_cons (ev_lstD (K := K) (α := Tu Int) (xs := [⟨[]⟩]) (ea_cons ((ev_tup ea_nil (by simp)).le fun _ _ h => is_tup.mpr h) ea_nil)) ea_nil B2 H2 (.refl _) S2.ok) S2 (by simp) fun l B3 H3 S3 e3 A3 => ?_
  refine q_forD (xs := ws) (Ri := Is K) (J := fun w => JN 4 (Is K w)) (ei_listD (ev_var (i := 0) rfl (Rp.mono _ (s2.bb.trans e3) r0))) S3 (fun x => go_name)
    (fun pre σ1 B1 H1 => ∃ o4 o5 o6 o7 done, σ1 = [some v0, some v1, some v2, some (.ref l), o4, o5, o6, o7] ∧ Acc C H (Is K) l (done ++ [lastL pre tops]) B1 H1 ∧ done ++ [lastL pre tops] = lvAll tops pre ∧ done.length = pre.length)
    (fun B1 H1 S1 s1 => ⟨none, none, none, none, [], rfl, A3.step s1, rfl, rfl⟩) (fun pre w post σ1 B4 H4 B5 H5 hx S4 e4 ⟨o4, o5, o6, o7, done, hs, A4, hal, hdl⟩ s5 σ2 j => ?_) (fun σ1 B4 H4 S4 e4 ⟨o4, o5, o6, o7, done, hs, A4, hal, hdl⟩ => ?_)
  · subst hs
    obtain ⟨v4, r4, rfl⟩ := j
    have hpl := pre_len hx
    have S5 := S4.trans s5
    have A5 := A4.step s5
    let lev := lastL pre tops
    have hll : lev.length ≤ 5040 := Nat.le_trans (lastL_len tops pre) (fct_le (by omega))
    have hle : ∀ t ∈ lev, t.l.length ≤ 7 := fun t ht => Nat.le_trans (lastL_each tops pre t ht) (by omega)
    refine q_newT (Rv := Is K (α := Bool)) S5 fun d hd S6 A6 => ?_
    have nld : l ≠ d := by
      intro z; subst z
      obtain ⟨kvs, g, _⟩ := A5.is
      rw [hd] at g; cases g
    have A5' := A5.far (o := .dT []) nld
    let st (acc : List (Tu Int)) : List (List Int × Bool) := acc.map fun t => (t.l, true)
    have inst : ∀ (acc : List (Tu Int)) (t : Tu Int), t.l ∈ (st acc).map Prod.fst ↔ t ∈ acc := fun acc t => by
      show t.l ∈ (acc.map fun t => (t.l, true)).map Prod.fst ↔ _
      rw [List.map_map, List.mem_map]
      exact ⟨fun ⟨x, h1, h2⟩ => by
        have : x = t := by cases x; cases t; cases h2; rfl
        rw [← this]; exact h1, fun h => ⟨t, h, rfl⟩⟩
    refine q_forAt (acc_last (K := K) A5' S6.ok rfl) S6 fun u B7 H7 S7 s7 r7 => ?_
    refine q_forD (xs := lev) (Ri := Is K) (J := fun t => JN 6 (Is K t)) (ei_listD (ev_val r7)) S7 (fun x => go_name)
      (fun pre2 σ1 B1 H1 => ∃ o6 o7, σ1 = [some v0, some v1, some v2, some (.ref l), some v4, some (.ref d), o6, o7] ∧ Acc C H (Is K) l (done ++ [lev]) B1 H1 ∧ AccT C H (Is K (α := Bool)) d (st (pre2.foldl (ins2 tops w) [])) B1 H1)
      (fun B1 H1 S1 s1 => ⟨o6, o7, rfl, (A5'.step s7).step s1, (A6.step s7).step s1⟩) (fun pre2 load post2 σ1 B8 H8 B9 H9 hx2 S8 e8 ⟨o6, o7, hs, A8, T8⟩ s9 σ2 j => ?_) (fun σ1 B8 H8 S8 e8 ⟨o6, o7, hs, A8, T8⟩ => ?_)
    · subst hs
      obtain ⟨v6, r6, rfl⟩ := j
      have hlm : load ∈ lev := by rw [hx2]; simp
      have hl7 := hle load hlm
      have hp2 := pre_len hx2
      let acc0 := pre2.foldl (ins2 tops w) []
      have hacc : acc0.length ≤ 0 + pre2.length * 8 := ins2_len (m := 7) pre2 [] fun t ht => hle t (by rw [hx2]; simp [ht])
      have e79 : Ex B7 B9 := e8.trans s9.bb
      have e59 : Ex B5 B9 := s7.bb.trans e79
      refine s_forD (xs := nextT load w) (Ri := Is K) (J := fun t => JN 7 (Is K t)) (ei_listD (ev_call (p := p_next_loads K) (load, w) (ea_cons (ev_var (i := 6) rfl r6) (ea_cons (ev_var (i := 4) rfl (Rp.mono _ e59 r4)) ea_nil)) (by show load.l.length ≤ 1000; omega))) (S8.trans s9) (fun x => go_name)
        (fun pre3 σ1 B1 H1 => ∃ o7, σ1 = [some v0, some v1, some v2, some (.ref l), some v4, some (.ref d), some v6, o7] ∧ Acc C H (Is K) l (done ++ [lev]) B1 H1 ∧ AccT C H (Is K (α := Bool)) d (st (pre3.foldl (lvIns tops) acc0)) B1 H1)
        (fun B1 H1 S1 s1 => ⟨o7, rfl, (A8.step s9).step s1, (T8.step s9).step s1⟩) (fun pre3 one post3 σ1 B10 H10 B11 H11 hx3 S10 e10 ⟨o7, hs, A10, T10⟩ s11 σ2 j => ?_) (fun σ1 B10 H10 S10 e10 ⟨o7, hs, A10, T10⟩ => ?_)
      · subst hs
        obtain ⟨v7, r7', rfl⟩ := j
        have hp3 := pre_len hx3
        rw [nextT_len] at hp3
        have hone : one ∈ nextT load w := by rw [hx3]; simp
        obtain ⟨ol, hol, eol⟩ := List.mem_map.mp hone
        have hol7 : one.l.length ≤ 8 := by rw [← eol]; have := (nextL_len hol).1; show ol.length ≤ 8; omega
        let acc := pre3.foldl (lvIns tops) acc0
        have hacl : acc.length ≤ acc0.length + pre3.length := lvIns_len tops pre3 acc0
        have S11 := S10.trans s11
        have A11 := A10.step s11
        have T11 := T10.step s11
        have e211 : Ex B2 B11 := e3.trans (e4.trans (s5.bb.trans (e59.trans (e10.trans s11.bb))))
        have estep : (pre3 ++ [one]).foldl (lvIns tops) acc0 = lvIns tops acc one := by rw [List.foldl_append]; rfl
        have fin : ∀ {B' H'}, Stp C B H B' H' → Ex B10 B' → Acc C H (Is K) l (done ++ [lev]) B' H' → AccT C H (Is K (α := Bool)) d (st ((pre3 ++ [one]).foldl (lvIns tops) acc0)) B' H' →
            ∃ B, Stp C _ _ B H' ∧ Ex B10 B ∧ ∃ o7, ([some v0, some v1, some v2, some (.ref l), some v4, some (.ref d), some v6, some v7] : L2.St) = [some v0, some v1, some v2, some (.ref l), some v4, some (.ref d), some v6, o7] ∧ Acc C H (Is K) l (done ++ [lev]) B H' ∧ AccT C H (Is K (α := Bool)) d (st ((pre3 ++ [one]).foldl (lvIns tops) acc0)) B H' :=
          fun S e A T => ⟨_, S, e, _, rfl, A, T⟩
        refine et_ninT (K := K) (h := one.l) T11 S11.ok (fun Q q => ⟨v7, rfl, q v7 r7'⟩) rfl _ ?_
        by_cases hin : one ∈ acc
        · have hyes : one.l ∈ (st acc).map Prod.fst := (inst acc one).mpr hin
          rw [if_neg (by rw [decide_eq_false (fun z => z hyes)]; exact Bool.false_ne_true)]
          dsimp only
          rw [if_neg Bool.false_ne_true]
          refine fin S11 s11.bb A11 ?_
          rw [estep]
          unfold lvIns
          rw [if_neg fun z => z.1 hin]
          exact T11
        · have hno : ¬ one.l ∈ (st acc).map Prod.fst := fun z => hin ((inst acc one).mp z)
          rw [if_pos (decide_eq_true hno)]
          refine et_B (K := K) (ev_call (p := p_fits K) (one.l, tops) (ea_cons (ev_var (i := 7) rfl r7') (ea_cons (ev_var (i := 2) rfl (Rp.mono _ e211 r2)) ea_nil)) (by show one.l.length ≤ 1000; omega)) B11 H11 (.refl _) S11.ok _ fun H12 s12 => ?_
          have S12 := S11.trans s12
          by_cases hf : fitsB one.l tops = true
          · rw [if_pos hf]
            have T12 := T11.step s12
            obtain ⟨kvs, g1, g2, g3⟩ := T12.is
            obtain ⟨b, e1, e2⟩ := key_val r7'
            have nl : kvs.length = acc.length := by have := congrArg List.length g2; simpa [st] using this
            refine ⟨.ref d, rfl, v7, rfl, d, _, rfl, .inr ⟨kvs, ik one.l, b, g1, e1, s12.ok.sub _ _ e2, by rw [nl]; exact Nat.lt_of_le_of_lt (show acc.length ≤ 100000 by omega) (by decide), rfl⟩, ?_⟩
            have hn : one.l ∉ (st acc).map Prod.fst := fun z => hin ((inst acc one).mp z)
            have T13 := T12.put (fun _ _ => ik_inj) dT_inj g1 hn (y := true) (v := .bl true) (.bl true)
            refine fin (S12.loc T13.new T13.off T13.nm) s11.bb ((A11.step s12).far nld) ?_
            rw [estep]
            unfold lvIns
            rw [if_pos ⟨hin, hf⟩]
            show AccT C H (Is K (α := Bool)) d ((acc ++ [one]).map fun t => (t.l, true)) _ _
            rw [List.map_append]
            exact T13
          · rw [if_neg hf]
            refine fin S12 s11.bb (A11.step s12) ?_
            rw [estep]
            unfold lvIns
            rw [if_neg fun z => hf z.2]
            exact T11.step s12
      · subst hs
        refine ⟨B10, S10, s9.bb.trans e10, some v6, o7, rfl, A10, ?_⟩
        rw [List.foldl_append]
        exact T10
    · subst hs
      let acc := lev.foldl (ins2 tops w) []
      have est : (st acc).map (fun p => Tu.mk p.1) = acc := by
        show (acc.map fun t => (t.l, true)).map (fun p => Tu.mk p.1) = acc
        rw [List.map_map]
        exact (List.map_congr_left fun t _ => rfl).trans (List.map_id _)
      have hne : ∀ t ∈ acc, t.l ≠ [] := fun t ht => by
        have ht' : t ∈ lvNew tops w lev := ht
        unfold lvNew at ht'
        rw [lvNew_mem] at ht'
        rcases ht' with h | ⟨load, _, h, _⟩
        · cases h
        · obtain ⟨x, h1, rfl⟩ := List.mem_map.mp h
          exact (nextL_len h1).2
      have evk : EvAt C (tCB (SrtIn K false) (tCons (tCB rListT (tCons (tVar 5) tNil)) tNil)) [some v0, some v1, some v2, some (.ref l), some v4, some (.ref d), o6, o7] B8 H8 (Is K (lvStep tops lev w)) := by
        have h1 := ea_keysT (K := K) (σ := [some v0, some v1, some v2, some (.ref l), some v4, some (.ref d), o6, o7]) (i := 5) T8 S8.ok rfl
        have h2 : EvAt C (tCB rListT (tCons (tVar 5) tNil)) [some v0, some v1, some v2, some (.ref l), some v4, some (.ref d), o6, o7] B8 H8 (Is K acc) := by rw [← est]; exact h1
        exact ea_sort (K := K) h2 (so_tu hne)
      refine s_appS (K := K) (i := 3) (p := fun x => x = lvStep tops lev w) A8 rfl (evk.le fun v B h => ⟨_, rfl, h⟩) S8 (by rw [List.length_append, List.length_singleton, hdl]; omega) fun z B9 H9 H10 hz S10 s9 _ A10 => ?_
      subst hz
      refine ⟨B9, S10, s5.bb.trans (s7.bb.trans (e8.trans s9.bb)), some v4, some (.ref d), o6, o7, done ++ [lev], rfl, ?_, ?_, by simp [hdl]⟩
      · rw [lastL_snoc]; exact A10
      · rw [lastL_snoc, lvAll_snoc, ← hal]
        simp [lev]
  · subst hs
    exact s_retAcc A4 rfl S4 fun B5 S5 r5 => q _ B5 H4 S5 (is_lst.mpr (by
      show (LstR ((lvAll tops ws).map (Is K))).P _ _
      rw [← hal]; exact r5))
end
end Pk

/-! Packings, walked: first_fit, can_pack. -/
namespace Pk
open PySem L2
open Enc (enc dep)
section
variable {C : MI} {K : PySem.W.Frag} {σ : L2.St} {B0 H0 B H : Hp} {te : TE} {tz : TS} {D : Ends} {i : Nat} {α : Type} {Ra : α → Rp} {l : Addr} {xs : List α}
/-- a new list of ints, made while an own list is looked at -/
theorem Acc.peekN {ns : List Nat} (a : Acc C H0 Ra l xs B H) (k : Ok C B H) (h : ∀ T, Ex B T → Ok C T H → (LstR (xs.map Ra)).P (.ref l) T → Ev C te σ T (NewL T (ns.map (Is K)))) : EvAt C te σ B H (NewL B (ns.map (Is K))) := fun Q q => by
  obtain ⟨vs, h1, h2⟩ := a.is
  have kT : Ok C (upd B l (.lst vs)) H := k.frz a.off a.nm h1
  have eT : Ex B (upd B l (.lst vs)) := .new a.off
  refine h _ eT kT ⟨l, vs, rfl, upd_same, h2.mono eT⟩ _ H (.refl _) kT _ fun v B2 H2 s ⟨p, ys, e1, e2, e3, e4⟩ => ?_
  have npl : p ≠ l := fun z => by subst z; rw [upd_same] at e2; cases e2
  have := args_nats.mp e4
  subst this
  exact q v (rem B2 l) H2 (s.rem a.off a.nm) ⟨p, _, e1, eT.un e2, by rw [rem_ne npl]; exact e3, args_nats.mpr rfl⟩
theorem q_asgH {v : V} (h : EvH C te σ B H v) (S : Stp C B0 H0 B H) (k : ∀ H2, Stp C B0 H0 B H2 → Stp C B H B H2 → tz D (σ.set i (some v)) H2) : tSeq (tAsg te (gName i)) tz D σ H :=
  h _ fun H2 s => k H2 (S.trans s) s
end
theorem places_eq (left : List Int) (w : Int) : (((List.range left.length).zip left).filter fun p : Nat × Int => decide (w ≤ p.2)).map Prod.fst = places left w := by
  have h := zip_filt (fun i => left.getD i 0) (fun _ x => decide (w ≤ x)) (List.range left.length)
  rw [range_getD] at h
  exact h
section
variable {K : PySem.W.Frag}
def p_first_fit (K : PySem.W.Frag) : Pm (List Int × List Int) where
  n := 2
  args x := [Is K x.1, Is K x.2]
  pre x := x.2.length ≤ 1000
  res x := Is K (ffit x.1 x.2)
abbrev sp_first_fit (K : PySem.W.Frag) : Sp := (p_first_fit K).sp
def t_first_fit (K : PySem.W.Frag) : TS := (tSeq (tAsg (tCB (rListQ K) (tCons (tVar 1) tNil)) (gName 2))
  (tSeq (tFor (iList K (tVar 0)) (gName 3) (tSeq (tAsg (tLc (iEnum K (tCons (tVar 2) tNil)) (gTup K 2 (gCons (gName 5) (gCons (gName 6) gNil))) (tTest (tOp rGeI (tVar 6) (tVar 3))) (tVar 5) [5, 6]) (gName 4))
  (tSeq (tIfS (tTest (tOp (rEqD K) (tVar 4) (tLst tNil))) (tRet (tC (.bl false))) tNext)
  (tAugS (tVar 2) (tOp (rIxL K) (tVar 4) (tC (.int 0))) (tVar 3) rGetL (ipI fun i j => i - j) rSetL))))
  (tRet (tC (.bl true)))))
theorem len_first_fit (K : PySem.W.Frag) : ∀ vs H Q E, sp_first_fit K vs H Q E → vs.length = 2 := Pm.len _ rfl
theorem pure_first_fit (c : Kn0 K) : ∀ vs H Q E, sp_first_fit K vs H Q E → t_first_fit K { nx := fun _ H' => Q .non H', rt := Q } (start ["weights", "rooms", "left", "weight", "places", "index", "room"] vs) H := by
  rintro vs H Q E ⟨C, B, ⟨ws, rooms⟩, k, _, a, hp, q⟩
  have hp : rooms.length ≤ 1000 := hp
  obtain _ | @⟨_, v0, _, _, r0, _ | @⟨_, v1, _, _, r1, _ | _⟩⟩ := a
  refine q_listO (Ra := Is K) (xs := rooms) ((ev_var (i := 1) rfl r1).le fun _ _ => is_lst.mp) k.refl fun l B2 H2 S2 e2 A2 => ?_
  refine q_forD (xs := ws) (Ri := Is K) (J := fun w => JN 3 (Is K w)) (ei_listD (ev_var (i := 0) rfl (Rp.mono _ e2 r0))) S2 (fun x => go_name)
    (fun pre σ1 B1 H1 => ∃ o3 o4 left, σ1 = [some v0, some v1, some (.ref l), o3, o4, none, none] ∧ Acc C H (Is K) l left B1 H1 ∧ left.length = rooms.length ∧ ∀ rest, ws = pre ++ rest → ffit ws rooms = ffit rest left)
    (fun B1 H1 S1 s1 => ⟨none, none, rooms, rfl, A2.step s1, rfl, fun rest h => by rw [h]; rfl⟩) (fun pre w post σ1 B3 H3 B4 H4 hx S3 e3 ⟨o3, o4, left, hs, A3, hll, hff⟩ s4 σ2 j => ?_) (fun σ1 B3 H3 S3 e3 ⟨o3, o4, left, hs, A3, hll, hff⟩ => ?_)
  · subst hs
    obtain ⟨v3, r3, rfl⟩ := j
    have r3 := is_int.mp r3
    subst r3
    have S4 := S3.trans s4
    have A4 := A3.step s4
    have hf := hff (w :: post) hx
    refine q_asgA (R := NewL B4 ((places left w).map (Is K))) (A4.peekN (ns := places left w) S4.ok fun T eT kT rT => ?_) S4 fun v4 B5 H5 S5 s5 r4 => ?_
    · have h := ev_lcFN (C := C) (σ := [some v0, some v1, some (.ref l), some (.int w), o4, none, none]) (B := T) (g := gTup K 2 (gCons (gName 5) (gCons (gName 6) gNil))) (tt := tTest (tOp rGeI (tVar 6) (tVar 3))) (te := tVar 5) (vs := [5, 6]) (wi := iEnum K (tCons (tVar 2) tNil)) (xs := (List.range left.length).zip left) (Ri := fun p : Nat × Int => TupR [Is K (p.1 : Int), Is K p.2]) (Ro := fun n : Nat => Is K n) (J := fun p => JP 5 6 (Is K (p.1 : Int)) (Is K p.2)) (fun p => decide (w ≤ p.2)) Prod.fst
        (by rw [← enumR_map]; exact ei_enum (K := K) (ea_cons (ev_var (i := 2) rfl rT) ea_nil)) (by rw [List.length_zip, List.length_range, Nat.min_self]; omega) (fun x => go_pair) fun p σ2 B' hb eb j => by
          obtain ⟨v, u, hv, hu, rfl⟩ := j
          exact ⟨rfl, et_test (ev_ib (K := K) (g := fun i j => decide (j ≤ i)) (ev_var (i := 6) rfl hu) (ev_var (i := 3) rfl (is_int.mpr rfl))), fun _ => ev_var (i := 5) rfl hv⟩
      rw [places_eq] at h
      exact h
    have A5 := A4.step s5
    have R4 : (Is K (places left w)).P v4 B5 := newL_is _ _ r4
    refine q_if (b := decide (places left w = [])) (et_test (ev_eq (K := K) (ev_var (i := 4) rfl R4) (ev_lstD (α := Nat) (xs := []) ea_nil))) S5 (fun e H6 S6 s6 => ?_) (fun e H6 S6 s6 => ?_)
    · have e' : places left w = [] := of_decide_eq_true e
      refine s_ret (ev_bl (K := K) (i := false)) S6 fun v B7 H7 S7 r7 => q v B7 H7 S7 ?_
      show (Is K (ffit ws rooms)).P v B7
      rw [hf]
      unfold ffit
      rw [e']
      exact r7
    · have e' : places left w ≠ [] := of_decide_eq_false e
      obtain ⟨i0, is, hpl⟩ := List.exists_cons_of_ne_nil e'
      have hin : i0 ∈ places left w := by rw [hpl]; exact List.mem_cons_self
      have hi0 := List.mem_range.mp (List.mem_filter.mp hin).1
      unfold tNext
      dsimp only
      have A6 := A5.step s6
      refine ⟨.ref l, rfl, ?_⟩
      refine ev_ixLd (K := K) (i := 0) (x := i0) (ev_var (i := 4) rfl R4) ev_int (by rw [hpl]; exact atI0) B5 H6 (.refl _) S6.ok _ fun u B7 H7 s7 r7 => ?_
      have r7 := is_nat.mp r7
      subst r7
      have A7 := A6.step s7
      obtain ⟨ls, g1, g2⟩ := A7.is
      have := args_ints.mp g2
      subst this
      have hz : (left.map V.int)[i0]? = some (.int (left.getD i0 0)) := by rw [List.getElem?_map, List.getElem?_eq_getElem hi0, getD_lt hi0]; rfl
      refine ⟨l, _, i0, _, rfl, rfl, g1, hz, .int w, rfl, _, _, rfl, rfl, l, _, (i0 : Int), i0, rfl, rfl, g1, ?_, ?_⟩
      · unfold ixN
        rw [if_pos (by omega), if_pos (by rw [List.length_map]; omega)]
        simp
      · have S7 := S6.trans s7
        refine ⟨B7, S7.loc A7.new A7.off A7.nm, s4.bb.trans (s5.bb.trans s7.bb), some (.int w), some v4, left.set i0 (left.getD i0 0 - w), rfl, ⟨A7.new, A7.off, A7.nm, _, upd_same, args_ints.mpr ?_⟩, by rw [List.length_set]; exact hll, fun rest hr => ?_⟩
        · rw [List.map_set]
        · have hpo : post = rest := by
            have : pre ++ w :: post = pre ++ w :: rest := by rw [← hx, hr]; simp
            have := List.append_cancel_left this
            injection this
          subst hpo
          rw [hf]
          conv => lhs; unfold ffit
          rw [hpl]
  · subst hs
    refine s_ret (ev_bl (K := K) (i := true)) S3 fun v B7 H7 S7 r7 => q v B7 H7 S7 ?_
    show (Is K (ffit ws rooms)).P v B7
    rw [hff [] (by simp)]
    exact r7
def p_can_pack (K : PySem.W.Frag) : Pm (List Int × List Int) where
  n := 2
  args x := [Is K x.1, Is K x.2]
  pre x := x.1 ≠ [] ∧ x.1.length ≤ 7 ∧ x.2.length ≤ 1000
  res x := Is K (canPack x.1 x.2)
abbrev sp_can_pack (K : PySem.W.Frag) : Sp := (p_can_pack K).sp
def t_can_pack (K : PySem.W.Frag) : TS := (tSeq (tPar 2 3 (tCons (tCKw (rSrtB K true) (tCons (tVar 0) tNil) (tCons (tC (.bl true)) tNil)) (tCons (tCKw (rSrtB K true) (tCons (tVar 1) tNil) (tCons (tC (.bl true)) tNil)) tNil)))
  (tSeq (tIfS (tOr (tTest (tOp (rEqD K) (tVar 3) (tLst tNil))) (tOr (tTest (tOp rGtI (tOp (rIxL K) (tVar 2) (tC (.int 0))) (tOp (rIxL K) (tVar 3) (tC (.int 0))))) (tTest (tOp rGtI (tCB (rSum K) (tCons (tVar 2) tNil)) (tCB (rSum K) (tCons (tVar 3) tNil)))))) (tRet (tC (.bl false))) tNext)
  (tRet (tOrV (tCall (sp_first_fit K) [] E0 (tCons (tVar 2) (tCons (tVar 3) tNil))) (tOp (rNeD K) (tOp (rIxL K) (tCall (sp_load_levels K) [] E0 (tCons (tVar 2) (tCons (tVar 3) tNil))) (tUn rNeg (tC (.int 1)))) (tLst tNil))))))
theorem len_can_pack (K : PySem.W.Frag) : ∀ vs H Q E, sp_can_pack K vs H Q E → vs.length = 2 := Pm.len _ rfl
theorem pure_can_pack (c : Kn0 K) : ∀ vs H Q E, sp_can_pack K vs H Q E → t_can_pack K { nx := fun _ H' => Q .non H', rt := Q } (start ["weights", "rooms", "some", "tops"] vs) H := by
  rintro vs H Q E ⟨C, B, ⟨ws, rooms⟩, k, _, a, ⟨hne, hw7, hr1⟩, q⟩
  have hne : ws ≠ [] := hne
  have hw7 : ws.length ≤ 7 := hw7
  have hr1 : rooms.length ≤ 1000 := hr1
  obtain _ | @⟨_, v0, _, _, r0, _ | @⟨_, v1, _, _, r1, _ | _⟩⟩ := a
  let sm := dsc ws
  let tops := dsc rooms
  have sl : sm.length = ws.length := dsc_len ws
  have tl : tops.length = rooms.length := dsc_len rooms
  have s0 : 0 < sm.length := by rw [sl]; exact List.length_pos_iff.mpr hne
  refine q_par (R1 := Is K sm) (R2 := Is K tops) (ea_cons ((ev_srtB (K := K) (ev_var (i := 0) rfl r0)).le newL_is) (ea_cons ((ev_srtB (K := K) (ev_var (i := 1) rfl r1)).le newL_is) ea_nil)) k.refl fun v2 v3 B2 H2 S2 s2 r2 r3 => ?_
  have gt : ∀ {ta tb : TE} {x y : Int}, Ev C ta [some v0, some v1, some v2, some v3] B2 (Is K x) → Ev C tb [some v0, some v1, some v2, some v3] B2 (Is K y) → EvT C (tTest (tOp rGtI ta tb)) [some v0, some v1, some v2, some v3] B2 (decide (y < x)) := fun h1 h2 => et_test (ev_ib (K := K) (g := fun i j => decide (j < i)) h1 h2)
  refine q_if (b := quickNo sm tops) (et_or (et_test (ev_eq (K := K) (ev_var (i := 3) rfl r3) (ev_lstD (α := Int) (xs := []) ea_nil))) fun e => et_or (gt (ev_ixLd (K := K) (i := 0) (ev_var (i := 2) rfl r2) ev_int (atI_get (d := 0) (i := 0) s0)) (ev_ixLd (K := K) (i := 0) (ev_var (i := 3) rfl r3) ev_int (atI_get (d := 0) (i := 0) (List.length_pos_iff.mpr (of_decide_eq_false e))))) fun _ => gt (ev_sum (K := K) (ev_var (i := 2) rfl r2)) (ev_sum (K := K) (ev_var (i := 3) rfl r3))) S2 (fun e H3 S3 s3 => ?_) (fun e H3 S3 s3 => ?_)
  · refine s_ret (ev_bl (K := K) (i := false)) S3 fun v B7 H7 S7 r7 => q v B7 H7 S7 ?_
    show (Is K (canPack ws rooms)).P v B7
    unfold canPack
    rw [if_pos e]
    exact r7
  · unfold tNext
    dsimp only
    obtain ⟨done, hd1, hd2⟩ := lvAll_last tops sm
    refine s_ret (ev_or (K := K) (ev_call (p := p_first_fit K) (sm, tops) (ea_cons (ev_var (i := 2) rfl r2) (ea_cons (ev_var (i := 3) rfl r3) ea_nil)) (by show tops.length ≤ 1000; omega)) fun _ => ev_ne (K := K) (α := List (Tu Int)) (ev_ixLd (K := K) (xs := lvAll tops sm) (x := lastL sm tops) (Ev.to (F := Is K) (ev_call (p := p_load_levels K) (sm, tops) (ea_cons (ev_var (i := 2) rfl r2) (ea_cons (ev_var (i := 3) rfl r3) ea_nil)) (by show sm.length ≤ 7; omega)) (by
        show lvAll (dsc tops) sm = _
        rw [dsc_id (dsc_desc rooms)])) (ev_un (K := K) (f := fun i => -i) ev_int) (by rw [hd1]; exact atI_last)) (ev_lstD (α := Tu Int) (xs := []) ea_nil)) S3 fun v B7 H7 S7 r7 => q v B7 H7 S7 ?_
    show (Is K (canPack ws rooms)).P v B7
    unfold canPack
    rw [if_neg (by rw [show quickNo (dsc ws) (dsc rooms) = false from e]; exact Bool.false_ne_true)]
    exact r7
end
end Pk

/-! Packers, heavy_masks, heavy_table. -/
namespace Pk
open PySem L2
open Enc (enc dep)
/-! ### what the packers keep -/
def PkV (f : Addr × (List Int × List Int)) (H : Hp) : Prop := ∃ (ms : List (List Int)) (kvs : List (List Key × V)), H f.1 = some (.dT kvs) ∧ kvs.map Prod.fst = ms.map ik ∧ ms.Nodup ∧ (∀ t ∈ ms, ∃ mask, mask < 2 ^ f.2.2.length ∧ t = topsOf f.2 mask) ∧ kvs.map Prod.snd = ms.map fun t => V.bl (canPack f.2.1 t)
def PkC (C : MI) (fam : List (Addr × (List Int × List Int))) : MI := ⟨fun a => C.M a ∨ ∃ f ∈ fam, a = f.1, fun H => C.I H ∧ ∀ f ∈ fam, PkV f H, fun H H' ⟨h1, h2⟩ e => ⟨C.st _ _ h1 fun a m => e a (.inl m), fun f hf => by
  obtain ⟨ms, kvs, g1, g2⟩ := h2 f hf
  exact ⟨ms, kvs, by rw [e f.1 (.inr ⟨f, hf, rfl⟩)]; exact g1, g2⟩⟩, fun H a ⟨h1, h2⟩ m => by
  rcases m with m | ⟨f, hf, rfl⟩
  · exact C.nt H a h1 m
  · obtain ⟨ms, kvs, g1, _⟩ := h2 f hf
    rw [g1]; trivial⟩
def HasPk (f : Addr × (List Int × List Int)) (C' : MI) : Prop := ∃ C fam, C' = PkC C fam ∧ f ∈ fam ∧ (fam.map Prod.fst).Nodup ∧ ∀ f ∈ fam, ¬ C.M f.1
theorem valV_at {g : List Int → V} : ∀ {ms : List (List Int)} {kvs : List (List Key × V)}, kvs.map Prod.fst = ms.map ik → kvs.map Prod.snd = ms.map g → ∀ t ∈ ms, valV kvs (ik t) = some (g t)
  | [], _, _, _, t, h => by cases h
  | m :: ms, [], h, _, t, _ => by cases h
  | m :: ms, kv :: kvs, h1, h2, t, ht => by
    rw [List.map_cons, List.map_cons] at h1 h2
    injection h1 with a1 a2
    injection h2 with b1 b2
    by_cases e : m = t
    · subst e
      rw [valV_pos a1, b1]
    · rw [valV_neg fun z => e (ik_inj (a1.symm.trans z))]
      rcases List.mem_cons.mp ht with rfl | ht
      · exact absurd rfl e
      · exact valV_at a2 b2 t ht
theorem valV_no {ms : List (List Int)} {kvs : List (List Key × V)} (h1 : kvs.map Prod.fst = ms.map ik) {t : List Int} : (valV kvs (ik t)).isSome = decide (t ∈ ms) := by
  have vs := valV_iff (kvs := kvs) (k := ik t)
  have : ik t ∈ kvs.map Prod.fst ↔ t ∈ ms := by
    rw [h1, List.mem_map]
    exact ⟨fun ⟨x, a, b⟩ => by rw [← ik_inj b]; exact a, fun a => ⟨t, a, rfl⟩⟩
  rw [this] at vs
  by_cases z : t ∈ ms
  · rw [vs.mpr z, decide_eq_true z]
  · rw [decide_eq_false z]
    cases e : (valV kvs (ik t)).isSome with
    | true => exact absurd (vs.mp e) z
    | false => rfl
theorem fam_eq {fam : List (Addr × (List Int × List Int))} (nd : (fam.map Prod.fst).Nodup) {f g : Addr × (List Int × List Int)} (hf : f ∈ fam) (hg : g ∈ fam) (e : f.1 = g.1) : f = g := by
  have h : (f.1, f.2) ∈ fam := hf
  have h2 : (f.1, g.2) ∈ fam := by rw [e]; exact hg
  exact Prod.ext e (nodup_fst nd h h2)
section
variable {C : MI} {B0 H0 B H B2 H2 : Hp}
/-- only new addresses are changed -/
theorem Stp.more (k : Ok C B H) (h : ∀ a, H a ≠ none → H2 a = H a) : Stp C B H B H2 :=
  have e : Ex H H2 := fun a o q => by rw [h a (by rw [q]; simp)]; exact q
  ⟨⟨k.sub.trans e, k.off, fun a m => by rw [h a (k.liv a m)]; exact k.liv a m, C.st _ _ k.inv fun a m => h a (k.liv a m)⟩, .refl _, fun a o _ q => e a o q, fun _ _ h => h⟩
/-- a packer's dict is written -/
theorem pk_put {fam : List (Addr × (List Int × List Int))} {f : Addr × (List Int × List Int)} (hf : f ∈ fam) (nd : (fam.map Prod.fst).Nodup) (nm : ∀ f ∈ fam, ¬ C.M f.1) (S : Stp (PkC C fam) B0 H0 B H) {kvs : List (List Key × V)} (h : PkV f (upd H f.1 (.dT kvs))) :
    Stp (PkC C fam) B0 H0 B (upd H f.1 (.dT kvs)) := by
  have I := S.ok.inv
  have m : (PkC C fam).M f.1 := .inr ⟨f, hf, rfl⟩
  refine ⟨⟨S.ok.sub.put (S.ok.off f.1 m), S.ok.off, fun a ma => ?_, C.st _ _ I.1 fun a ma => upd_ne fun e => by subst e; exact nm f hf ma, fun g hg => ?_⟩, S.bb, fun a o na q => ?_, S.nw⟩
  · by_cases e : a = f.1
    · subst e; rw [upd_same]; simp
    · rw [upd_ne e]; exact S.ok.liv a ma
  · by_cases e : g.1 = f.1
    · rw [fam_eq nd hg hf e]; exact h
    · obtain ⟨ms, kv, g1, g2⟩ := I.2 g hg
      exact ⟨ms, kv, by rw [upd_ne e]; exact g1, g2⟩
  · rw [upd_ne fun e => na (by rw [e]; exact m)]; exact S.hh a o na q
theorem Stp.fromPk {fam : List (Addr × (List Int × List Int))} (S : Stp C B0 H0 B H) (nw : ∀ f ∈ fam, H0 f.1 = none) (s : Stp (PkC C fam) B H B2 H2) : Stp C B0 H0 B2 H2 :=
  ⟨⟨s.ok.sub, fun a m => s.ok.off a (.inl m), fun a m => s.ok.liv a (.inl m), s.ok.inv.1⟩, S.bb.trans s.bb, fun a o m q => s.hh a o (fun z => by
    rcases z with z | ⟨f, hf, rfl⟩
    · exact m z
    · rw [nw f hf] at q; cases q) (S.hh a o m q), fun a n b => s.nw a (S.ntup n) (S.nw a n b)⟩
end
section
variable {K : PySem.W.Frag}
def sp_Packer___init__ (K : PySem.W.Frag) : Sp := fun vs H Q E => ∃ (x dx : Addr) (w r : V), vs = [.ref x, w, r] ∧ H x = some (.ins (He.ga K "Packer") dx []) ∧ ∀ d H2, d ≠ x → H d = none → (∀ a, a ≠ x → a ≠ d → H2 a = H a) →
  H2 x = some (.ins (He.ga K "Packer") dx [("its_weights", w), ("its_rooms", r), ("its_answers", .ref d)]) → H2 d = some (.dT []) → Q .non H2
theorem len_Packer___init__ (K : PySem.W.Frag) : ∀ vs H Q E, sp_Packer___init__ K vs H Q E → vs.length = 3 := fun vs H Q E ⟨x, dx, w, r, e, _⟩ => by rw [e]; rfl
def t_Packer___init__ (K : PySem.W.Frag) : TS := (tSeq (sFld K (tVar 0) (tVar 1) "its_weights")
  (tSeq (sFld K (tVar 0) (tVar 2) "its_rooms")
  (sFld K (tVar 0) tDNewT "its_answers")))
theorem pure_Packer___init__ (c : Kn_Packer K) : ∀ vs H Q E, sp_Packer___init__ K vs H Q E → t_Packer___init__ K { nx := fun _ H' => Q .non H', rt := Q } (start ["self", "weights", "rooms"] vs) H := by
  rintro vs H Q E ⟨x, dx, w, r, rfl, hx, q⟩
  refine ⟨w, rfl, .ref x, rfl, x, _, dx, [], rfl, hx, c.l_Packer, c.n_Packer_its_weights, by simp, ?_⟩
  refine ⟨r, rfl, .ref x, rfl, x, _, dx, [("its_weights", w)], rfl, upd_same, c.l_Packer, c.n_Packer_its_rooms, by simp, ?_⟩
  intro d hd
  have ndx : d ≠ x := fun z => by subst z; rw [upd_same] at hd; cases hd
  refine ⟨.ref x, rfl, x, _, dx, [("its_weights", w), ("its_rooms", r)], rfl, by rw [upd_ne (Ne.symm ndx)]; exact upd_same, c.l_Packer, c.n_Packer_its_answers, by simp, ?_⟩
  refine q d _ ndx (by rw [upd_ne ndx, upd_ne ndx] at hd; exact hd) (fun a h1 h2 => ?_) upd_same (by rw [upd_ne ndx]; exact upd_same)
  rw [upd_ne h1, upd_ne h2, upd_ne h1, upd_ne h1]
abbrev PkR (K : PySem.W.Frag) (f : Addr × (List Int × List Int)) : Rp := InsR (He.ga K "Packer") [("its_weights", Is K f.2.1), ("its_rooms", Is K f.2.2), ("its_answers", RefR f.1)]
def p_Packer_is_heavy (K : PySem.W.Frag) : Pm ((Addr × (List Int × List Int)) × Nat) where
  n := 2
  need x C := HasPk x.1 C
  args x := [PkR K x.1, Is K x.2]
  pre x := x.2 < 2 ^ x.1.2.2.length ∧ x.1.2.2.length ≤ 12 ∧ x.1.2.1 ≠ [] ∧ x.1.2.1.length ≤ 7
  res x := Is K (canPack x.1.2.1 (topsOf x.1.2 x.2))
abbrev sp_Packer_is_heavy (K : PySem.W.Frag) : Sp := (p_Packer_is_heavy K).sp
def t_Packer_is_heavy (K : PySem.W.Frag) : TS := (tSeq (tAsg (tThen (tSl (rSlL K) (tCKw (rSrtB K true) (tCons (tCall (sp_members K) [] E0 (tCons (tFld K (tVar 0) "its_rooms") (tCons (tVar 1) tNil))) tNil) (tCons (tC (.bl true)) tNil)) tNoPart (tPart (tCB (rLenQ K) (tCons (tFld K (tVar 0) "its_weights") tNil)))) (kTup K)) (gName 2))
  (tSeq (tIfS (tB (tDNotIn (tVar 2) (tFld K (tVar 0) "its_answers"))) (sDPut (tFld K (tVar 0) "its_answers") (tVar 2) (tCall (sp_can_pack K) [] E0 (tCons (tFld K (tVar 0) "its_weights") (tCons (tCB (rListQ K) (tCons (tVar 2) tNil)) tNil)))) tNext)
  (tRet (tDGet (tFld K (tVar 0) "its_answers") (tVar 2)))))
theorem len_Packer_is_heavy (K : PySem.W.Frag) : ∀ vs H Q E, sp_Packer_is_heavy K vs H Q E → vs.length = 2 := Pm.len _ rfl
theorem pure_Packer_is_heavy (c : Kn_Packer K) : ∀ vs H Q E, sp_Packer_is_heavy K vs H Q E → t_Packer_is_heavy K { nx := fun _ H' => Q .non H', rt := Q } (start ["self", "mask", "tops"] vs) H := by
  rintro vs H Q E ⟨C', B, ⟨⟨d, ws, rooms⟩, mask⟩, k, hpk, a, ⟨hm, hr12, hne, hw7⟩, q⟩
  have hm : mask < 2 ^ rooms.length := hm
  have hr12 : rooms.length ≤ 12 := hr12
  have hne : ws ≠ [] := hne
  have hw7 : ws.length ≤ 7 := hw7
  obtain ⟨C, fam, rfl, hf, nd, nm⟩ := hpk
  have hf : (d, ws, rooms) ∈ fam := hf
  obtain _ | @⟨_, v0, _, _, r0, _ | @⟨_, v1, _, _, r1, _ | _⟩⟩ := a
  let t := topsOf (ws, rooms) mask
  have hml : (memA rooms mask).length ≤ 12 := Nat.le_trans (memA_sublist rooms mask).length_le hr12
  have htl : t.length ≤ 12 := by
    show ((dsc (memA rooms mask)).take ws.length).length ≤ 12
    rw [List.length_take, dsc_len]; omega
  refine q_asg (R := Is K (Tu.mk t)) (ev_tupleD (K := K) (xs := t) (Ev.to (F := Is K) (ev_slLD (K := K) (xs := dsc (memA rooms mask)) ((ev_srtB (K := K) ((ev_members (K := K) rooms mask (ea_cons (ev_fld c.l_Packer c.n_Packer_its_rooms (ev_var (i := 0) rfl r0) rfl) (ea_cons (ev_var (i := 1) rfl r1) ea_nil)) (by omega)).le newL_is)).le newL_is) eo_none (eo_some (K := K) (ev_lenD (K := K) (xs := ws) (ev_fld c.l_Packer c.n_Packer_its_weights (ev_var (i := 0) rfl r0) rfl)))) ?_)) k.refl fun v2 B2 H2 S2 s2 r2 => ?_
  · show cut (dsc (memA rooms mask)) none (some (ws.length : Int)) = (dsc (memA rooms mask)).take ws.length
    by_cases h : ws.length ≤ (dsc (memA rooms mask)).length
    · exact cut_take _ _ h
    · unfold cut
      rw [HT.sIx_none, HT.sIx_nat, List.drop_zero, Nat.sub_zero, Nat.min_eq_right (by omega), List.take_of_length_le (by omega), List.take_of_length_le (by omega)]
  have R0 : (PkR K (d, ws, rooms)).P v0 B2 := Rp.mono _ s2.bb r0
  obtain ⟨b, eb, hb⟩ := key_val r2
  obtain ⟨x, dx, fv, rfl, hx, hfv⟩ := R0
  obtain _ | @⟨_, f0, _, _, y0, _ | @⟨_, f1, _, _, y1, _ | @⟨_, f2, _, _, y2, _ | _⟩⟩⟩ := hfv
  have y2 : f2 = .ref d := y2
  subst y2
  -- the attribute its_answers, read
  have ans : ∀ {σ : L2.St} {H' : Hp} (Q' : VK), σ[0]? = some (some (.ref x)) → Ex B2 H' → Q' (.ref d) H' → (tFld K (tVar 0) "its_answers") σ H' Q' := fun Q' h0 e q' => ⟨.ref x, h0, x, _, dx, _, .ref d, rfl, e _ _ hx, c.l_Packer, c.n_Packer_its_answers, rfl, q'⟩
  have has : ∀ {H' : Hp} {B' : Hp}, Stp (PkC C fam) B H B' H' → PkV (d, ws, rooms) H' := fun S => S.ok.inv.2 _ hf
  -- the end: what is kept is returned
  have fin : ∀ {B' H' : Hp}, Stp (PkC C fam) B H B' H' → Ex B2 B' → (∃ (ms : List (List Int)) (kvs : List (List Key × V)), H' d = some (.dT kvs) ∧ kvs.map Prod.fst = ms.map ik ∧ kvs.map Prod.snd = ms.map (fun t => V.bl (canPack ws t)) ∧ t ∈ ms) →
      (tRet (tDGet (tFld K (tVar 0) "its_answers") (tVar 2))) { nx := fun _ H' => Q .non H', rt := Q } [some (.ref x), some v1, some v2] H' := fun {B' H'} S e ⟨ms, kvs, g1, g2, g3, ht⟩ => by
    unfold tRet tDGet
    refine ans (σ := [some (.ref x), some v1, some v2]) (H' := H') _ rfl (e.trans S.ok.sub) ?_
    refine ⟨v2, rfl, d, .bl (canPack ws t), rfl, .inr ⟨kvs, ik t, b, .inl g1, eb, S.ok.sub _ _ (e _ _ hb), (valV_at g2 g3 t ht).symm⟩, ?_⟩
    exact q _ B' H' S (.bl _)
  obtain ⟨ms, kvs, g1, g2, g3, g4, g5⟩ := has S2
  have g1 : H2 d = some (.dT kvs) := g1
  refine ⟨v2, rfl, ans (σ := [some (.ref x), some v1, some v2]) (H' := H2) _ rfl S2.ok.sub ⟨d, valV kvs (ik t), rfl, .inr ⟨kvs, ik t, b, .inl g1, eb, S2.ok.sub _ _ hb, rfl⟩, _, rfl, ?_⟩⟩
  rw [valV_no g2]
  by_cases ht : t ∈ ms
  · rw [decide_eq_true ht]
    dsimp only
    rw [if_neg (by simp)]
    unfold tNext
    dsimp only
    exact fin S2 (.refl _) ⟨ms, kvs, g1, g2, g5, ht⟩
  · rw [decide_eq_false ht]
    dsimp only
    rw [if_pos (by rfl)]
    refine ev_call (p := p_can_pack K) (σ := [some (.ref x), some v1, some v2]) (B := B2) (ws, t) (ea_cons (ev_fld c.l_Packer c.n_Packer_its_weights (ev_var (i := 0) (R := PkR K (d, ws, rooms)) rfl ⟨x, dx, _, rfl, hx, .cons y0 (.cons y1 (.cons rfl .nil))⟩) rfl) (ea_cons ?_ ea_nil)) ⟨hne, hw7, by show t.length ≤ 1000; omega⟩ trivial B2 H2 (.refl _) S2.ok _ fun y B3 H3 s3 r3 => ?_
    · -- list(tops)
      exact (show Ev (PkC C fam) (tCB (rListQ K) (tCons (tVar 2) tNil)) [some (.ref x), some v1, some v2] B2 (Is K t) from fun B1 H1 e k1 Q' q' => by
        obtain ⟨p, vs, e1, e2, e3⟩ := is_tup.mp (Rp.mono _ e r2)
        exact ⟨v2, rfl, p, vs, by rw [e1], .inr (rd_t (k1.sub _ _ e2)), fun l hl => q' _ _ _ (k1.new hl) (is_lst.mpr ⟨l, vs, rfl, upd_same, e3.mono (.new (k1.sub.un hl))⟩)⟩)
    · have r3 : y = .bl (canPack ws t) := is_bool.mp r3
      subst r3
      have S3 := S2.trans s3
      obtain ⟨ms3, kvs3, k1, k2, k3, k4, k5⟩ := has S3
      have k1 : H3 d = some (.dT kvs3) := k1
      have hkl : kvs3.length ≤ 4096 := by
        have h1 : kvs3.length = ms3.length := by have := congrArg List.length k2; simpa using this
        have h2 := nodup_subL ms3 ((List.range (2 ^ rooms.length)).map fun mask => topsOf (ws, rooms) mask) k3 fun t ht => by
          obtain ⟨mask, h, e⟩ := k4 t ht
          exact List.mem_map.mpr ⟨mask, List.mem_range.mpr h, e.symm⟩
        rw [List.length_map, List.length_range] at h2
        have h3 : 2 ^ rooms.length ≤ 2 ^ 12 := Nat.pow_le_pow_right (by decide) hr12
        omega
      refine ans (σ := [some (.ref x), some v1, some v2]) (H' := H3) _ rfl (s3.bb.trans S3.ok.sub) ⟨v2, rfl, d, _, rfl, .inr ⟨kvs3, ik t, b, k1, eb, S3.ok.sub _ _ (s3.bb _ _ hb), Nat.lt_of_le_of_lt hkl (by decide), rfl⟩, ?_⟩
      dsimp only
      by_cases ht3 : t ∈ ms3
      · -- written meanwhile: can't be, but it does no harm
        have hin : ik t ∈ kvs3.map Prod.fst := by rw [k2]; exact List.mem_map.mpr ⟨t, ht3, rfl⟩
        have same : putK kvs3 (ik t) (.bl (canPack ws t)) = kvs3 := by
          unfold putK
          rw [if_pos (by
            rw [List.any_eq_true]
            obtain ⟨kv, h1, h2⟩ := List.mem_map.mp hin
            exact ⟨kv, h1, decide_eq_true h2⟩)]
          have : ∀ {ms : List (List Int)} {kvs : List (List Key × V)}, kvs.map Prod.fst = ms.map ik → kvs.map Prod.snd = ms.map (fun t => V.bl (canPack ws t)) → kvs.map (fun kv => if kv.1 = ik t then (kv.1, V.bl (canPack ws t)) else kv) = kvs := by
            intro ms
            induction ms with
            | nil => intro kvs h _; cases kvs with
              | nil => rfl
              | cons _ _ => cases h
            | cons m ms ih =>
              intro kvs h1 h2
              cases kvs with
              | nil => rfl
              | cons kv kvs =>
                rw [List.map_cons, List.map_cons] at h1 h2
                injection h1 with a1 a2
                injection h2 with b1 b2
                rw [List.map_cons, ih a2 b2]
                congr 1
                split
                · rename_i z
                  have : m = t := ik_inj (a1.symm.trans z)
                  rw [this] at b1
                  exact Prod.ext rfl b1.symm
                · rfl
          exact this k2 k5
        have S4 := pk_put hf nd nm S3 (kvs := putK kvs3 (ik t) (.bl (canPack ws t))) ⟨ms3, kvs3, by rw [same]; exact upd_same, k2, k3, k4, k5⟩
        exact fin S4 s3.bb ⟨ms3, kvs3, by rw [same]; exact upd_same, k2, k5, ht3⟩
      · have hn : ik t ∉ kvs3.map Prod.fst := by
          rw [k2, List.mem_map]
          rintro ⟨z, h1, h2⟩
          exact ht3 (by rw [← ik_inj h2]; exact h1)
        have ep := putK_new (v := V.bl (canPack ws t)) hn
        have q2 : (putK kvs3 (ik t) (.bl (canPack ws t))).map Prod.fst = (ms3 ++ [t]).map ik := by rw [ep, List.map_append, List.map_append, k2]; rfl
        have q5 : (putK kvs3 (ik t) (.bl (canPack ws t))).map Prod.snd = (ms3 ++ [t]).map fun t => V.bl (canPack ws t) := by rw [ep, List.map_append, List.map_append, k5]; rfl
        have q3 : (ms3 ++ [t]).Nodup := List.nodup_append.mpr ⟨k3, by simp, fun a ha b' hb' e => by rw [List.mem_singleton] at hb'; subst hb'; subst e; exact ht3 ha⟩
        have S4 := pk_put hf nd nm S3 (kvs := putK kvs3 (ik t) (.bl (canPack ws t))) ⟨ms3 ++ [t], _, upd_same, q2, q3, fun z hz => by
          rcases List.mem_append.mp hz with hz | hz
          · exact k4 z hz
          · rw [List.mem_singleton.mp hz]; exact ⟨mask, hm, rfl⟩, q5⟩
        exact fin S4 s3.bb ⟨ms3 ++ [t], _, upd_same, q2, q5, by simp⟩
end
end Pk

/-! heavy_masks, heavy_table, light_sets, all_sides. -/
namespace Pk
open PySem L2
open Enc (enc dep)
theorem rng_pre1 {lo : Int} {n : Nat} {pre post : List Int} {x : Int} (h : rng lo n = pre ++ x :: post) : x = lo + (pre.length : Int) ∧ pre.length < n := by
  have h1 := pre_len h
  rw [rng_len] at h1
  have h2 : (rng lo n)[pre.length]? = some x := by rw [h]; simp
  rw [rng_get h1] at h2
  exact ⟨(Option.some.inj h2).symm, h1⟩
section
variable {C : MI} {K : PySem.W.Frag} {σ : L2.St} {B0 H0 B H : Hp} {ta tb : TE} {t : TA} {tz : TS} {D : Ends} {i j m : Nat} {R1 R2 : Rp} {α : Type} {Ra : α → Rp} {xs : List α}
/-- x, l = e, [..] -/
theorem q_pairL (h1 : Ev C ta σ B R1) (h2 : EvA C t σ B (xs.map Ra)) (S : Stp C B0 H0 B H) (hl : xs.length ≤ 1000)
    (k : ∀ v l B2 H2, Stp C B0 H0 B2 H2 → Ex B B2 → R1.P v B2 → Acc C H0 Ra l xs B2 H2 → tz D ((σ.set i (some v)).set j (some (.ref l))) H2) :
    tSeq (tAsg (tTup (tCons ta (tCons (tLst t) tNil))) (gTup K 2 (gCons (gName i) (gCons (gName j) gNil)))) tz D σ H := by
  unfold tSeq tAsg tTup tCons
  refine h1 B H (.refl _) S.ok _ fun v B1 H1 s1 r1 => ?_
  unfold tLst
  refine h2 B1 H1 s1.bb s1.ok _ fun us B2 H2 s2 a2 => ⟨by rw [← a2.pkLen, List.length_map]; exact Nat.le_trans hl (by decide), fun l hl2 => ?_⟩
  refine ⟨show 2 ≤ sizeLine by decide, fun T hT => ?_⟩
  have S2 := (S.trans s1).trans s2
  have nTl : T ≠ l := fun z => by subst z; rw [upd_same] at hT; cases hT
  have S3 := S2.loc (o := .lst us) (S2.new0 hl2) (s2.ok.sub.un hl2) (s2.ok.fresh hl2)
  have A3 : Acc C H0 Ra l xs B2 (upd H2 l (.lst us)) := ⟨S2.new0 hl2, s2.ok.sub.un hl2, s2.ok.fresh hl2, us, upd_same, a2⟩
  have s4 := S3.ok.new (o := .tup [v, .ref l]) hT
  refine ⟨T, [v, .ref l], rfl, .inl (.inl upd_same), rfl, v, [.ref l], rfl, .ref l, [], rfl, rfl, ?_⟩
  exact k v l _ _ (S3.trans s4) (s1.bb.trans (s2.bb.trans s4.bb)) (Rp.mono _ (s2.bb.trans s4.bb) r1) (A3.step s4)
/-- x, y, l = e, f, [] -/
theorem q_tripL (h1 : Ev C ta σ B R1) (h2 : Ev C tb σ B R2) (S : Stp C B0 H0 B H)
    (k : ∀ v w l B2 H2, Stp C B0 H0 B2 H2 → Ex B B2 → R1.P v B2 → R2.P w B2 → Acc C H0 Ra l [] B2 H2 → tz D (((σ.set i (some v)).set j (some w)).set m (some (.ref l))) H2) :
    tSeq (tAsg (tTup (tCons ta (tCons tb (tCons (tLst tNil) tNil)))) (gTup K 3 (gCons (gName i) (gCons (gName j) (gCons (gName m) gNil))))) tz D σ H := by
  unfold tSeq tAsg tTup tCons
  refine h1 B H (.refl _) S.ok _ fun v B1 H1 s1 r1 => ?_
  refine h2 B1 H1 s1.bb s1.ok _ fun w B2 H2 s2 r2 => ?_
  unfold tLst
  refine ⟨Nat.zero_le _, fun l hl2 => ?_⟩
  refine ⟨show 3 ≤ sizeLine by decide, fun T hT => ?_⟩
  have S2 := (S.trans s1).trans s2
  have nTl : T ≠ l := fun z => by subst z; rw [upd_same] at hT; cases hT
  have S3 := S2.loc (o := .lst []) (S2.new0 hl2) (s2.ok.sub.un hl2) (s2.ok.fresh hl2)
  have A3 : Acc C H0 Ra l [] B2 (upd H2 l (.lst [])) := ⟨S2.new0 hl2, s2.ok.sub.un hl2, s2.ok.fresh hl2, [], upd_same, .nil⟩
  have s4 := S3.ok.new (o := .tup [v, w, .ref l]) hT
  refine ⟨T, [v, w, .ref l], rfl, .inl (.inl upd_same), rfl, v, [w, .ref l], rfl, w, [.ref l], rfl, .ref l, [], rfl, rfl, ?_⟩
  exact k v w l _ _ (S3.trans s4) (s1.bb.trans (s2.bb.trans s4.bb)) (Rp.mono _ (s2.bb.trans s4.bb) r1) (Rp.mono _ s4.bb r2) (A3.step s4)
end
section
variable {C : MI} {K : PySem.W.Frag} {B H : Hp} {tz : TS} {D : Ends}
theorem q_packers {cases_ : List (List Int × List Int)} {v0 v1 : V} (r0 : (Is K cases_).P v0 B) (k : Ok C B H) (hn : cases_.length ≤ 1000)
    (fin : ∀ (l : Addr) (fam : List (Addr × (List Int × List Int))) B2 H2, Stp C B H B2 H2 → fam.map Prod.snd = cases_ → (fam.map Prod.fst).Nodup → (∀ f ∈ fam, H f.1 = none ∧ B2 f.1 = none ∧ ¬ C.M f.1 ∧ H2 f.1 = some (.dT [])) → (LstR (fam.map (PkR K))).P (.ref l) B2 →
      tz D [some v0, some v1, some (.ref l), none, none, none, none, none, none, none, none] H2) :
    tSeq (tAsg (tLc (iList K (tVar 0)) (gTup K 2 (gCons (gName 7) (gCons (gName 8) gNil))) tYes (tMake (He.ga K "Packer") (sp_Packer___init__ K) [] E0 (tCons (tVar 7) (tCons (tVar 8) tNil))) [7, 8]) (gName 2)) tz D [some v0, some v1, none, none, none, none, none, none, none, none, none] H := by
  unfold tSeq tAsg tLc
  refine (ei_listD (K := K) (xs := cases_) (ev_var (i := 0) rfl r0)) B H (.refl _) k _ fun Jt B2 H2 s2 hJ L hL => ?_
  let Pv : Nat → Hp → Prop := fun n H' => ∃ (B' : Hp) (acc : List V) (fam : List (Addr × (List Int × List Int))), Stp C B H B' H' ∧ Ex B2 B' ∧ B' L = none ∧ H' L = some (.lst acc) ∧ Args (fam.map (PkR K)) acc B' ∧ fam.map Prod.snd = cases_.take n ∧ (fam.map Prod.fst).Nodup ∧
    ∀ f ∈ fam, H f.1 = none ∧ B' f.1 = none ∧ ¬ C.M f.1 ∧ H' f.1 = some (.dT []) ∧ f.1 ≠ L
  have hL0 : H L = none := s2.new0 hL
  have nM : ¬ C.M L := s2.ok.fresh hL
  refine ⟨fun n m H' => m = cases_.length - n ∧ n ≤ cases_.length ∧ Pv n H', ⟨cases_.length, by simp, Nat.zero_le _, B2, [], [], s2.loc hL0 (s2.ok.sub.un hL) nM, .refl _, s2.ok.sub.un hL, upd_same, .nil, rfl, List.nodup_nil, fun f hf => by cases hf⟩, ?_⟩
  rintro n m H' ⟨rfl, hi, B', acc, fam, s, eb, hb, hl, ha, hsnd, hnd, hfam⟩
  obtain ⟨G, g1, g2, g3, g4⟩ := hJ B' eb
  rw [List.length_map] at g2 g3
  by_cases hlt : n < cases_.length
  · refine .inr ⟨g2 n H' hlt (g1 H' s.ok.sub), Pv (n + 1), fun H'' p' => ⟨cases_.length - (n + 1), by omega, rfl, hlt, p'⟩, fun x H'' y => ?_⟩
    have hx : (cases_.map (Is K))[n]? = some (Is K cases_[n]) := by rw [List.getElem?_map, List.getElem?_eq_getElem hlt]; rfl
    obtain ⟨B3, s3, r3⟩ := g4 n H' x H'' _ hx s.ok y
    refine go_pair (K := K) (R1 := Is K cases_[n].1) (R2 := Is K cases_[n].2) x B3 H'' _ _ s3.ok.sub (is_pair.mp r3) fun σ2 ⟨w7, w8, r7, r8, e⟩ => ?_
    subst e
    refine ⟨rfl, et_yes B3 H'' (.refl _) s3.ok _ fun H3 s4 => ?_⟩
    rw [if_pos rfl]
    refine ⟨w7, rfl, w8, rfl, fun p dx hp hdx ndx => ?_⟩
    refine ⟨p, dx, w7, w8, rfl, upd_same, fun d H4 ndp hd same hp4 hd4 => ⟨rfl, ?_⟩⟩
    have hd1 : (upd H3 dx (.own p)) d = none := by rw [upd_ne ndp] at hd; exact hd
    have nddx : d ≠ dx := fun z => by subst z; rw [upd_same] at hd1; cases hd1
    have hd3 : H3 d = none := by rw [upd_ne nddx] at hd1; exact hd1
    have sm : Stp C B3 H3 B3 H4 := Stp.more s4.ok fun a ha => by
      have n1 : a ≠ p := fun z => by subst z; exact ha hp
      have n2 : a ≠ d := fun z => by subst z; exact ha hd3
      have n3 : a ≠ dx := fun z => by subst z; exact ha hdx
      rw [same a n1 n2, upd_ne n1, upd_ne n3]
    have s34 : Stp C B' H' B3 H3 := s3.trans s4
    have S3 := s.trans s34
    have st : Stp C B' H' B3 H4 := s34.trans sm
    have S4 := s.trans st
    have p0 : H p = none := S3.new0 hp
    have d0 : H d = none := S3.new0 hd3
    have b3p : B3 p = none := s4.ok.sub.un hp
    have b3d : B3 d = none := s4.ok.sub.un hd3
    have nmp : ¬ C.M p := s4.ok.fresh hp
    have nmd : ¬ C.M d := s4.ok.fresh hd3
    let o : HO := .ins (He.ga K "Packer") dx [("its_weights", w7), ("its_rooms", w8), ("its_answers", .ref d)]
    have S5 : Stp C B H (upd B3 p o) H4 := S4.frz p0 b3p nmp hp4
    have eb5 : Ex B3 (upd B3 p o) := .new b3p
    have l4 : H4 L = some (.lst acc) := st.hh L _ nM hl
    have b5 : B3 L = none := st.nw L (by rw [hl]; trivial) hb
    have h3L : H3 L ≠ none := by
      have := s34.hh L _ nM hl
      rw [this]; simp
    have nLp : L ≠ p := fun z => by subst z; exact h3L hp
    have nLd : L ≠ d := fun z => by subst z; exact h3L hd3
    have al : acc.length = n := by
      have h1 := ha.pkLen
      have h2 := congrArg List.length hsnd
      rw [List.length_map] at h1
      rw [List.length_map, List.length_take] at h2
      omega
    refine ⟨acc, l4, by rw [al]; exact Nat.lt_of_lt_of_le hlt (Nat.le_trans hn (by decide)), upd B3 p o, acc ++ [.ref p], fam ++ [(d, cases_[n])], S5.loc hL0 (by rw [upd_ne nLp]; exact b5) nM, (eb.trans s34.bb).trans eb5, by rw [upd_ne nLp]; exact b5, upd_same, ?_, ?_, ?_, fun f hf => ?_⟩
    · rw [List.map_append]
      refine Paired.pkApp (ha.mono (s34.bb.trans eb5)) (.cons ⟨p, dx, [w7, w8, .ref d], rfl, upd_same, .cons (Rp.mono _ eb5 r7) (.cons (Rp.mono _ eb5 r8) (.cons rfl .nil))⟩ .nil)
    · rw [List.map_append, hsnd, List.take_succ_eq_append_getElem hlt]; rfl
    · rw [List.map_append]
      refine List.nodup_append.mpr ⟨hnd, by simp, fun a h1 b h2 e => ?_⟩
      have h2 : b = d := by simpa using h2
      obtain ⟨f, hf, rfl⟩ := List.mem_map.mp h1
      have h4 := s34.hh f.1 _ (hfam f hf).2.2.1 (hfam f hf).2.2.2.1
      rw [e, h2, hd3] at h4; cases h4
    · rcases List.mem_append.mp hf with hf | hf
      · obtain ⟨k1, k2, k3, k4, k5⟩ := hfam f hf
        have h4 := s34.hh f.1 _ k3 k4
        have nfp : f.1 ≠ p := fun z => by rw [z, hp] at h4; cases h4
        exact ⟨k1, by rw [upd_ne nfp]; exact s34.nw f.1 (by rw [k4]; trivial) k2, k3, by rw [upd_ne k5]; exact st.hh f.1 _ k3 k4, k5⟩
      · rw [List.mem_singleton.mp hf]
        exact ⟨d0, by show upd _ _ _ d = _; rw [upd_ne ndp]; exact b3d, nmd, by show upd _ _ _ d = _; rw [upd_ne (Ne.symm nLd)]; exact hd4, Ne.symm nLd⟩
  · have en : n = cases_.length := by omega
    subst en
    refine .inl ⟨g3 H' (g1 H' s.ok.sub), ?_⟩
    have S5 := s.frz hL0 hb nM hl
    refine fin L fam _ H' S5 (by rw [hsnd, List.take_length]) hnd (fun f hf => ?_) ⟨L, acc, rfl, upd_same, ha.mono (.new hb)⟩
    obtain ⟨k1, k2, k3, k4, k5⟩ := hfam f hf
    exact ⟨k1, by rw [upd_ne k5]; exact k2, k3, k4⟩
end
section
variable {K : PySem.W.Frag}
structure CaseS (m : Nat) (c : List Int × List Int) : Prop where
  ne : c.1 ≠ []
  w7 : c.1.length ≤ 7
  l : c.2.length = m
def p_heavy_masks (K : PySem.W.Frag) : Pm (List (List Int × List Int) × Nat) where
  n := 2
  args x := [Is K x.1, Is K x.2]
  pre x := (∀ c ∈ x.1, CaseS x.2 c) ∧ x.2 ≤ 12 ∧ x.1.length ≤ 1000
  res x := Is K (hvTab x.1 x.2 (2 ^ x.2 - 1))
abbrev sp_heavy_masks (K : PySem.W.Frag) : Sp := (p_heavy_masks K).sp
def t_heavy_masks (K : PySem.W.Frag) : TS := (tSeq (tAsg (tLc (iList K (tVar 0)) (gTup K 2 (gCons (gName 7) (gCons (gName 8) gNil))) tYes (tMake (He.ga K "Packer") (sp_Packer___init__ K) [] E0 (tCons (tVar 7) (tCons (tVar 8) tNil))) [7, 8]) (gName 2))
  (tSeq (tAsg (tTup (tCons (tCall (sp_bits_of K) [] E0 (tCons (tVar 1) tNil)) (tCons (tLst (tCons (tC (.bl false)) tNil)) tNil))) (gTup K 2 (gCons (gName 3) (gCons (gName 4) gNil))))
  (tSeq (tFor (iRng2 (tCons (tC (.int 1)) (tCons (tIf (tTest (tOp (rNeD K) (tVar 3) (tLst tNil))) (tOp rMulI (tC (.int 2)) (tOp (rIxL K) (tVar 3) (tUn rNeg (tC (.int 1))))) (tC (.int 1))) tNil))) (gName 5) (tSeq (tAsg (tCB (rAny K) (tCons (tLc (iList K (tVar 3)) (gName 9) (tTest (tOp (rNeD K) (tOp rAndI (tVar 5) (tVar 9)) (tC (.int 0)))) (tOp (rIxL K) (tVar 4) (tOp rSubI (tVar 5) (tVar 9))) [9]) tNil)) (gName 6))
  (tDrop (tBM K "list" rAppend (tVar 4) (tCons (tOrV (tVar 6) (tCB (rAny K) (tCons (tLc (iList K (tVar 2)) (gName 10) tYes (tMeth (He.ga K "Packer") "is_heavy" (sp_Packer_is_heavy K) [] E0 (tVar 10) (tCons (tVar 5) tNil)) [10]) tNil))) tNil)))))
  (tRet (tVar 4)))))
theorem len_heavy_masks (K : PySem.W.Frag) : ∀ vs H Q E, sp_heavy_masks K vs H Q E → vs.length = 2 := Pm.len _ rfl
theorem pure_heavy_masks (c : Kn_Packer K) : ∀ vs H Q E, sp_heavy_masks K vs H Q E → t_heavy_masks K { nx := fun _ H' => Q .non H', rt := Q } (start ["cases", "many", "packers", "bits", "found", "mask", "below", "weights", "rooms", "bit", "packer"] vs) H := by
  rintro vs H Q E ⟨C, B, ⟨cases_, m⟩, k, _, a, ⟨hc, hm, hn⟩, q⟩
  have hc : ∀ c ∈ cases_, CaseS m c := hc
  have hm : m ≤ 12 := hm
  have hn : cases_.length ≤ 1000 := hn
  have p12 : 2 ^ m ≤ 2 ^ 12 := Nat.pow_le_pow_right (by decide) hm
  have ppos := Nat.two_pow_pos m
  obtain _ | @⟨_, v0, _, _, r0, _ | @⟨_, v1, _, _, r1, _ | _⟩⟩ := a
  refine q_packers r0 k hn fun lp fam B6 H6 S6 hsnd hnd hfam rp => ?_
  have hsnd : fam.map Prod.snd = cases_ := hsnd
  let C' := PkC C fam
  have k' : Ok C' B6 H6 := ⟨S6.ok.sub, fun a ma => by
    rcases ma with ma | ⟨f, hf, rfl⟩
    · exact S6.ok.off a ma
    · exact (hfam f hf).2.1, fun a ma => by
    rcases ma with ma | ⟨f, hf, rfl⟩
    · exact S6.ok.liv a ma
    · rw [(hfam f hf).2.2.2]; simp, S6.ok.inv, fun f hf => ⟨[], [], (hfam f hf).2.2.2, rfl, List.nodup_nil, fun t h => (nomatch h), rfl⟩⟩
  have nmf : ∀ f ∈ fam, ¬ C.M f.1 := fun f hf => (hfam f hf).2.2.1
  have R1 : (Is K m).P v1 B6 := Rp.mono _ S6.bb r1
  refine q_pairL (C := C') (Ra := Is K) (R1 := Is K (bits m)) (xs := [false]) (ev_call (p := p_bits_of K) m (ea_cons (ev_var (i := 1) rfl R1) ea_nil) (by show m ≤ 1000; omega)) (ea_cons ev_bl ea_nil) k'.refl (by simp) fun v3 l B7 H7 S7 e7 r3 A7 => ?_
  have evn : EvA C' (tCons (tC (.int 1)) (tCons (tIf (tTest (tOp (rNeD K) (tVar 3) (tLst tNil))) (tOp rMulI (tC (.int 2)) (tOp (rIxL K) (tVar 3) (tUn rNeg (tC (.int 1))))) (tC (.int 1))) tNil)) [some v0, some v1, some (.ref lp), some v3, some (.ref l), none, none, none, none, none, none] B7 [Is K (1 : Int), Is K ((2 ^ m : Nat) : Int)] := by
    refine ea_cons ev_int (ea_cons (ev_if (b := decide (bits m ≠ [])) (et_test (ev_ne (K := K) (ev_var (i := 3) rfl r3) (ev_lstD (α := Nat) (xs := []) ea_nil))) (fun e => ?_) (fun e => ?_)) ea_nil)
    · have h0 : bits m ≠ [] := of_decide_eq_true e
      have hm0 : 0 < m := by
        rcases Nat.eq_zero_or_pos m with h | h
        · subst h; exact absurd rfl h0
        · exact h
      refine (ev_ic (K := K) (c := CMul) (g := fun i j => i * j) ev_int (ev_natI (a := 2 ^ (m - 1)) (ev_ixLd (K := K) (ev_var (i := 3) rfl r3) (ev_un (K := K) (f := fun i => -i) ev_int) ?_)) (.inl (by decide))).to (F := Is K) ?_
      · unfold atI ixN
        rw [bits_len, if_neg (by decide), if_pos (by omega)]
        show (bits m)[(-1 + (m : Int)).toNat]? = _
        rw [show (-1 + (m : Int)).toNat = m - 1 by omega, bits_get (by omega)]
      · show (2 : Int) * ((2 ^ (m - 1) : Nat) : Int) = ((2 ^ m : Nat) : Int)
        conv => rhs; rw [show m = (m - 1) + 1 by omega, Nat.pow_succ]
        simp [Int.mul_comm]
    · have h0 : bits m = [] := Classical.byContradiction fun z => by rw [decide_eq_true z] at e; cases e
      have hm0 : m = 0 := by rw [← bits_len m, h0]; rfl
      rw [hm0]
      exact ev_int
  have hnum : (((2 ^ m : Nat) : Int) - 1).toNat = 2 ^ m - 1 := by omega
  refine q_forD (xs := rng 1 (((2 ^ m : Nat) : Int) - 1).toNat) (Ri := Is K) (J := fun i => JN 5 (Is K i)) (ei_range2 (K := K) evn (by omega) (by decide)) S7 (fun x => go_name)
    (fun pre σ1 B1 H1 => ∃ o5 o6, σ1 = [some v0, some v1, some (.ref lp), some v3, some (.ref l), o5, o6, none, none, none, none] ∧ Acc C' H6 (Is K) l (hvTab cases_ m pre.length) B1 H1)
    (fun B1 H1 S1 s1 => ⟨none, none, rfl, A7.step s1⟩) (fun pre x post σ1 B8 H8 B9 H9 hx S8 e8 ⟨o5, o6, hs, A8⟩ s9 σ2 j => ?_) (fun σ1 B8 H8 S8 e8 ⟨o5, o6, hs, A8⟩ => ?_)
  · subst hs
    obtain ⟨v5, r5, rfl⟩ := j
    obtain ⟨ex, hpl⟩ := rng_pre1 hx
    rw [hnum] at hpl
    have em : x = ((pre.length + 1 : Nat) : Int) := by omega
    subst em
    let mask := pre.length + 1
    let tab := hvTab cases_ m pre.length
    have htl : tab.length = mask := hvTab_len cases_ m pre.length
    have R5 : (Is K mask).P v5 B9 := r5
    have A9 := A8.step s9
    have S9 := S8.trans s9
    have e79 : Ex B7 B9 := e8.trans s9.bb
    refine q_asgH (v := .bl (belowH m tab mask)) (A9.peek S9.ok (R := Is K (belowH m tab mask)) (fun T eT kT rT => ?_) bool_val) S9 fun H10 S10 s10 => ?_
    · have rT : (Is K tab).P (.ref l) T := is_lst.mpr rT
      refine Ev.to (F := Is K) (ev_any (K := K) (bs := ((bits m).filter fun bit => decide (mask &&& bit ≠ 0)).map fun bit => tab.getD (mask - bit) false) (ev_lcFD (K := K) (xs := bits m) (Ri := Is K) (J := fun b => JN 9 (Is K b)) (fun bit => decide (mask &&& bit ≠ 0)) (fun bit => tab.getD (mask - bit) false) (ei_listD (ev_var (i := 3) rfl (Rp.mono _ (e79.trans eT) r3))) (by rw [bits_len]; omega) (fun x => go_name) fun bit σ2 B' hb eb j => ?_)) (any_map _ _)
      obtain ⟨v, hv, rfl⟩ := j
      refine ⟨rfl, et_test (ev_ne (K := K) (α := Nat) (ev_andN (K := K) (ev_var (i := 5) rfl (Rp.mono _ (eT.trans eb) R5)) (ev_var (i := 9) rfl hv)) ev_nat), fun hbit => ?_⟩
      obtain ⟨i, hi, rfl⟩ := in_bits.mp hb
      have h1 := (tb_sub (and_bit.mp (of_decide_eq_true hbit))).1
      have h2 := Nat.two_pow_pos i
      refine ev_ixLd (K := K) (xs := tab) (i := ((mask - 2 ^ i : Nat) : Int)) (ev_var (i := 4) rfl (Rp.mono _ eb rT)) (Ev.to (F := Is K) (ev_i (K := K) (g := fun i j => i - j) (ev_natI (a := mask) (ev_var (i := 5) rfl (Rp.mono _ (eT.trans eb) R5))) (ev_natI (a := 2 ^ i) (ev_var (i := 9) rfl hv))) ?_) (atI_get (by rw [htl]; omega))
      show (mask : Int) - ((2 ^ i : Nat) : Int) = _
      omega
    have A10 := A9.step s10
    refine s_appV (x := belowH m tab mask || heavyAt cases_ mask) (v := .bl (belowH m tab mask || heavyAt cases_ mask)) A10 rfl (Ev.at (ev_or (K := K) (ev_var (i := 6) rfl (.bl _)) fun _ => Ev.to (F := Is K) (ev_any (K := K) (bs := fam.map fun f => canPack f.2.1 (topsOf f.2 mask)) (ev_lcMD (K := K) (xs := fam) (Ri := PkR K) (J := fun f => JN 10 (PkR K f)) _ (ei_list (ev_var (i := 2) rfl (Rp.mono _ (e7.trans e79) rp))) ?_ (fun x => go_name) fun f σ2 B' hb eb j => ?_)) ?_) S10.ok bool_val) S10 (fun B => .bl _) ?_ fun H11 S11 A11 => ⟨B9, S11, s9.bb, some v5, some (.bl (belowH m tab mask)), rfl, ?_⟩
    · have h1 := congrArg List.length hsnd
      rw [List.length_map] at h1
      omega
    · obtain ⟨v, hv, rfl⟩ := j
      have hfc : f.2 ∈ cases_ := by rw [← hsnd]; exact List.mem_map.mpr ⟨f, hb, rfl⟩
      have h1 := hc f.2 hfc
      refine ⟨rfl, ev_meth (p := p_Packer_is_heavy K) (f, mask) (ev_var (i := 10) rfl hv) (ea_cons (ev_var (i := 5) rfl (Rp.mono _ eb R5)) ea_nil) rfl rfl ⟨?_, ?_, h1.ne, h1.w7⟩ ⟨C, fam, rfl, hb, hnd, nmf⟩⟩
      · show mask < 2 ^ f.2.2.length
        rw [h1.l]; omega
      · show f.2.2.length ≤ 12
        rw [h1.l]; exact hm
    · unfold heavyAt
      rw [any_map, ← hsnd, List.any_map]; rfl
    · rw [htl]; omega
    · rw [List.length_append, List.length_singleton]; exact A11
  · subst hs
    rw [rng_len, hnum] at A8
    exact s_retAcc A8 rfl S8 fun B9 S9 r9 => q _ B9 H8 (S6.fromPk (fun f hf => (hfam f hf).1) S9) (is_lst.mpr r9)
def p_heavy_table (K : PySem.W.Frag) : Pm (List (List Int × List Int) × List Sd) where
  n := 2
  args x := [CouL K x.1, Is K x.2]
  pre x := (∀ c ∈ x.1, c.1 ≠ [] ∧ c.1.length ≤ 7 ∧ ∀ s ∈ x.2, 0 ≤ s.1 ∧ s.1 < c.2.length) ∧ x.2.length ≤ 12 ∧ x.1.length ≤ 1000
  res x := Is K (hvTab (casesOf x.1 x.2) x.2.length (2 ^ x.2.length - 1))
abbrev sp_heavy_table (K : PySem.W.Frag) : Sp := (p_heavy_table K).sp
def t_heavy_table (K : PySem.W.Frag) : TS := (tRet (tCall (sp_heavy_masks K) [] E0 (tCons (tLc (iList K (tVar 0)) (gName 2) tYes (tTup (tCons (tMeth (He.ga K "Council") "weights" (sp_Council_weights K) [] E0 (tVar 2) tNil) (tCons (tCall (sp_rooms_of K) [] E0 (tCons (tVar 2) (tCons (tVar 1) tNil))) tNil))) [2]) (tCons (tCB (rLenQ K) (tCons (tVar 1) tNil)) tNil))))
theorem len_heavy_table (K : PySem.W.Frag) : ∀ vs H Q E, sp_heavy_table K vs H Q E → vs.length = 2 := Pm.len _ rfl
theorem pure_heavy_table (c : Kn_Council K) : ∀ vs H Q E, sp_heavy_table K vs H Q E → t_heavy_table K { nx := fun _ H' => Q .non H', rt := Q } (start ["councils", "sides", "council"] vs) H := by
  rintro vs H Q E ⟨C, B, ⟨cs, sides⟩, k, _, a, ⟨hc, hs, hn⟩, q⟩
  have hc : ∀ c ∈ cs, c.1 ≠ [] ∧ c.1.length ≤ 7 ∧ ∀ s ∈ sides, 0 ≤ s.1 ∧ s.1 < c.2.length := hc
  have hs : sides.length ≤ 12 := hs
  have hn : cs.length ≤ 1000 := hn
  obtain _ | @⟨_, v0, _, _, r0, _ | @⟨_, v1, _, _, r1, _ | _⟩⟩ := a
  refine s_ret (ev_call (p := p_heavy_masks K) (casesOf cs sides, sides.length) (ea_cons (ev_lcMD (K := K) (xs := cs) (Ri := fun c => CouR K c.1 c.2) (J := fun c => JN 2 (CouR K c.1 c.2)) (fun c => (c.1, sides.map (roomOf c))) (ei_list (ev_var (i := 0) rfl r0)) (by omega) (fun x => go_name) fun p σ2 B' hb eb j => ?_) (ea_cons (ev_lenD (K := K) (ev_var (i := 1) rfl r1)) ea_nil)) ⟨fun c hc' => ?_, hs, by show (cs.map _).length ≤ 1000; rw [List.length_map]; exact hn⟩) k.refl fun v B4 H4 S4 r4 => q v B4 H4 S4 r4
  · obtain ⟨v, hv, rfl⟩ := j
    exact ⟨rfl, ev_pair (K := K) (ev_meth (p := p_Council_weights K) p (ev_var (i := 2) rfl hv) ea_nil rfl rfl trivial) (ev_call (p := p_rooms_of K) (p, sides) (ea_cons (ev_var (i := 2) rfl hv) (ea_cons (ev_var (i := 1) rfl (Rp.mono _ eb r1)) ea_nil)) ⟨(hc p hb).2.2, by show sides.length ≤ 1000; omega⟩)⟩
  · obtain ⟨p, hp, rfl⟩ := List.mem_map.mp hc'
    exact ⟨(hc p hp).1, (hc p hp).2.1, by show (sides.map _).length = _; rw [List.length_map]⟩
def p_light_sets (K : PySem.W.Frag) : Pm (List (List Int × List Int) × List Sd) where
  n := 2
  args x := [CouL K x.1, Is K x.2]
  pre x := (∀ c ∈ x.1, c.1 ≠ [] ∧ c.1.length ≤ 7 ∧ ∀ s ∈ x.2, 0 ≤ s.1 ∧ s.1 < c.2.length) ∧ x.2.length ≤ 12 ∧ x.1.length ≤ 1000
  res x := Is K (lightSets x.1 x.2)
abbrev sp_light_sets (K : PySem.W.Frag) : Sp := (p_light_sets K).sp
def t_light_sets (K : PySem.W.Frag) : TS := (tSeq (tAsg (tCB (SrtIn K false) (tCons (tVar 1) tNil)) (gName 2))
  (tSeq (tAsg (tTup (tCons (tCall (sp_heavy_table K) [] E0 (tCons (tVar 0) (tCons (tVar 2) tNil))) (tCons (tCall (sp_bits_of K) [] E0 (tCons (tCB (rLenQ K) (tCons (tVar 2) tNil)) tNil)) (tCons (tLst tNil) tNil)))) (gTup K 3 (gCons (gName 3) (gCons (gName 4) (gCons (gName 5) gNil)))))
  (tSeq (tFor (iRng1 (tCons (tCB (rLenQ K) (tCons (tVar 3) tNil)) tNil)) (gName 6) (tIfS (tAnd (tNot (tB (tOp (rIxL K) (tVar 3) (tVar 6)))) (tB (tCB (rAll K) (tCons (tLc (iList K (tVar 4)) (gName 7) (tTest (tOp (rEqD K) (tOp rAndI (tVar 6) (tVar 7)) (tC (.int 0)))) (tOp (rIxL K) (tVar 3) (tOp rAddI (tVar 6) (tVar 7))) [7]) tNil)))) (tDrop (tBM K "list" rAppend (tVar 5) (tCons (tCall (sp_members K) [] E0 (tCons (tVar 2) (tCons (tVar 6) tNil))) tNil))) tNext))
  (tRet (tCB (SrtIn K false) (tCons (tVar 5) tNil))))))
theorem len_light_sets (K : PySem.W.Frag) : ∀ vs H Q E, sp_light_sets K vs H Q E → vs.length = 2 := Pm.len _ rfl
theorem pure_light_sets (c : Kn0 K) : ∀ vs H Q E, sp_light_sets K vs H Q E → t_light_sets K { nx := fun _ H' => Q .non H', rt := Q } (start ["councils", "sides", "some", "heavy", "bits", "found", "mask", "bit"] vs) H := by
  rintro vs H Q E ⟨C, B, ⟨cs, sides⟩, k, _, a, ⟨hc, hs, hn⟩, q⟩
  have hc : ∀ c ∈ cs, c.1 ≠ [] ∧ c.1.length ≤ 7 ∧ ∀ s ∈ sides, 0 ≤ s.1 ∧ s.1 < c.2.length := hc
  have hs : sides.length ≤ 12 := hs
  have hn : cs.length ≤ 1000 := hn
  obtain _ | @⟨_, v0, _, _, r0, _ | @⟨_, v1, _, _, r1, _ | _⟩⟩ := a
  let sm := srt Sd false sides
  let m := sm.length
  have sl : sm.length = sides.length := srt_len sides
  let tab := hvTab (casesOf cs sm) m (2 ^ m - 1)
  have p12 : 2 ^ m ≤ 2 ^ 12 := Nat.pow_le_pow_right (by decide) (by show sm.length ≤ 12; omega)
  have ppos := Nat.two_pow_pos m
  have tabl : tab.length = 2 ^ m := by
    have := hvTab_len (casesOf cs sm) m (2 ^ m - 1)
    show (hvTab _ _ _).length = _
    omega
  refine q_asg (ev_sort (K := K) (xs := sides) (ev_var (i := 1) rfl r1) so_pair) k.refl fun v2 B2 H2 S2 s2 r2 => ?_
  refine q_tripL (Ra := Is K) (α := List Sd) (R1 := Is K tab) (R2 := Is K (bits m)) (ev_call (p := p_heavy_table K) (cs, sm) (ea_cons (ev_var (i := 0) rfl (Rp.mono _ s2.bb r0)) (ea_cons (ev_var (i := 2) rfl r2) ea_nil)) ⟨fun c hc' => ⟨(hc c hc').1, (hc c hc').2.1, fun s hs' => (hc c hc').2.2 s (srt_mem.mp hs')⟩, by show sm.length ≤ 12; omega, hn⟩) (ev_call (p := p_bits_of K) m (ea_cons (ev_lenD (K := K) (ev_var (i := 2) rfl r2)) ea_nil) (by show sm.length ≤ 1000; omega)) S2 fun v3 v4 l B3 H3 S3 e3 r3 r4 A3 => ?_
  refine q_forD (xs := rng 0 ((tab.length : Int)).toNat) (Ri := Is K) (J := fun i => JN 6 (Is K i)) (ei_range1 (K := K) (ea_cons (ev_lenD (K := K) (ev_var (i := 3) rfl r3)) ea_nil) (by omega)) S3 (fun x => go_name)
    (fun pre σ1 B1 H1 => ∃ o6, σ1 = [some v0, some v1, some v2, some v3, some v4, some (.ref l), o6, none] ∧ Acc C H (Is K) l (((List.range pre.length).filter (lightMax m tab)).map (memA sm)) B1 H1)
    (fun B1 H1 S1 s1 => ⟨none, rfl, A3.step s1⟩) (fun pre x post σ1 B5 H5 B6 H6 hx S5 e5 ⟨o6, hs', A5⟩ s6 σ2 j => ?_) (fun σ1 B5 H5 S5 e5 ⟨o6, hs', A5⟩ => ?_)
  · subst hs'
    obtain ⟨v6, r6, rfl⟩ := j
    obtain ⟨rfl, hpl⟩ := rng_pre hx
    have hpl : pre.length < 2 ^ m := by omega
    let mask := pre.length
    have e36 : Ex B3 B6 := e5.trans s6.bb
    have R3 : (Is K tab).P v3 B6 := Rp.mono _ e36 r3
    have R4 : (Is K (bits m)).P v4 B6 := Rp.mono _ e36 r4
    have R6 : (Is K mask).P v6 B6 := r6
    have A6 := A5.step s6
    have S6 := S5.trans s6
    have rs : (List.range (pre ++ [(pre.length : Int)]).length).filter (lightMax m tab) = if lightMax m tab mask = true then (List.range pre.length).filter (lightMax m tab) ++ [mask] else (List.range pre.length).filter (lightMax m tab) := by
      rw [List.length_append, List.length_singleton, List.range_succ, filter_snoc]
    refine s_if (b := lightMax m tab mask) (et_and (et_not (et_B (K := K) (ev_ixLd (K := K) (xs := tab) (x := tab.getD mask false) (ev_var (i := 3) rfl R3) (ev_natI (a := mask) (ev_var (i := 6) rfl R6)) (atI_get (by rw [tabl]; exact hpl))))) fun _ => et_B (K := K) (Ev.to (F := Is K) (ev_all (K := K) (bs := ((bits m).filter fun bit => decide (mask &&& bit = 0)).map fun bit => tab.getD (mask + bit) false) (ev_lcFD (K := K) (xs := bits m) (Ri := Is K) (J := fun b => JN 7 (Is K b)) (fun bit => decide (mask &&& bit = 0)) (fun bit => tab.getD (mask + bit) false) (ei_listD (ev_var (i := 4) rfl R4)) (by rw [bits_len]; omega) (fun x => go_name) fun bit σ2 B' hb eb j => ?_)) (all_map _ _))) S6 (fun e H7 S7 s7 => ?_) (fun e H7 S7 s7 => ?_)
    · obtain ⟨v, hv, rfl⟩ := j
      refine ⟨rfl, et_test (ev_eq (K := K) (α := Nat) (ev_andN (K := K) (ev_var (i := 6) rfl (Rp.mono _ eb R6)) (ev_var (i := 7) rfl hv)) ev_nat), fun hbit => ?_⟩
      obtain ⟨i, hi, rfl⟩ := in_bits.mp hb
      have hz := of_decide_eq_true hbit
      have hnb : mask.testBit i = false := by
        cases q : mask.testBit i with
        | false => rfl
        | true => exact absurd hz (and_bit.mpr q)
      have hlt : mask + 2 ^ i < 2 ^ m := tb_lt fun j hj => by
        rw [tb_plus hnb] at hj
        split at hj
        · omega
        · exact tb_of_lt hpl hj
      refine ev_ixLd (K := K) (xs := tab) (i := ((mask + 2 ^ i : Nat) : Int)) (ev_var (i := 3) rfl (Rp.mono _ eb R3)) (Ev.to (F := Is K) (ev_i (K := K) (g := fun i j => i + j) (ev_natI (a := mask) (ev_var (i := 6) rfl (Rp.mono _ eb R6))) (ev_natI (a := 2 ^ i) (ev_var (i := 7) rfl hv))) ?_) (atI_get (by rw [tabl]; exact hlt))
      show (mask : Int) + ((2 ^ i : Nat) : Int) = _
      omega
    · have e' : lightMax m tab mask = true := e
      refine s_app (K := K) (x := memA sm mask) (A6.step s7) (ev_var rfl rfl) ((ev_members (K := K) sm mask (ea_cons (ev_var (i := 2) rfl (Rp.mono _ (e3.trans e36) r2)) (ea_cons (ev_var (i := 6) rfl R6) ea_nil)) (by show sm.length ≤ 1000; omega)).le newL_is) S7 ?_ fun B8 H8 H9 S9 s8 _ A9 => ⟨B8, S9, s6.bb.trans s8.bb, some v6, rfl, ?_⟩
      · rw [List.length_map]
        have := List.length_filter_le (lightMax m tab) (List.range pre.length)
        rw [List.length_range] at this
        omega
      · rw [rs, if_pos e', List.map_append]; exact A9
    · have e' : lightMax m tab mask = false := e
      refine ⟨B6, S7, s6.bb, some v6, rfl, ?_⟩
      rw [rs, if_neg (by rw [e']; exact Bool.false_ne_true)]
      exact A6.step s7
  · subst hs'
    rw [rng_len, Int.toNat_natCast] at A5
    obtain ⟨B8, S8, e8, rl, _⟩ := A5.frz S5
    exact s_ret (ev_sort (K := K) (ev_var (i := 5) rfl (is_lst.mpr rl)) so_list) S8 fun v B4 H4 S4 r4 => q v B4 H4 S4 r4
end
end Pk

/-! all_sides, shelves: what a shelf makes. -/
namespace Pk
open PySem L2
open Enc (enc dep)
section
variable {C : MI} {K : PySem.W.Frag} {σ : L2.St} {B : Hp} {wi wi1 : TI} {g g1 : TG} {te : TE} {vs vs1 : List Nat} {α β γ : Type} {t : TA} {R1 R2 : Rp}
/-- [e for a in as for b in bs] -/
theorem ev_lc2 {Ra : α → Rp} {Rb : β → Rp} {Ro : γ → Rp} {J : α → L2.St → L2.St → Hp → Prop} {J1 : β → L2.St → L2.St → Hp → Prop} (as : List α) (bs : α → List β) (f : α → β → γ) (hi : EvI C wi σ B (as.map Ra)) (hn : (as.flatMap fun a => (bs a).map (f a)).length ≤ 16000000)
    (hg : ∀ a, GOk g (Ra a) (J a)) (hg1 : ∀ b, GOk g1 (Rb b) (J1 b))
    (he : ∀ a σ2 B', a ∈ as → Ex B B' → J a (wipe σ vs) σ2 B' → wipe σ2 vs = wipe σ vs ∧ EvI C wi1 σ2 B' ((bs a).map Rb) ∧ ∀ b σ3 B'', b ∈ bs a → Ex B' B'' → J1 b (wipe σ2 vs1) σ3 B'' → wipe σ3 vs1 = wipe σ2 vs1 ∧ Ev C te σ3 B'' (Ro (f a b))) :
    Ev C (tLc2 wi g tYes wi1 g1 tYes te vs vs1) σ B (LstR ((as.flatMap fun a => (bs a).map (f a)).map Ro)) := fun B1 H1 e k Q q => hi B1 H1 e k _ fun Jt B2 H2 s2 hJ D hD => by
  let out (i : Nat) : List γ := (as.take i).flatMap fun a => (bs a).map (f a)
  let Pv : List γ → Hp → Hp → Prop := fun done Bb H => ∃ B' acc, Stp C B1 H1 B' H ∧ Ex Bb B' ∧ B' D = none ∧ H D = some (.lst acc) ∧ Args (done.map Ro) acc B'
  have hD1 : H1 D = none := by
    cases h : H1 D with
    | none => rfl
    | some o => exact absurd hD (s2.live (by rw [h]; simp))
  have nM : ¬ C.M D := s2.ok.fresh hD
  refine ⟨fun i m H => m = as.length - i ∧ i ≤ as.length ∧ Pv (out i) B2 H, ⟨as.length, by simp, Nat.zero_le _, B2, [], s2.loc hD1 (s2.ok.sub.un hD) nM, .refl _, s2.ok.sub.un hD, upd_same, .nil⟩, ?_⟩
  rintro i m H ⟨rfl, hi, B', acc, s, eb, hb, hl, ha⟩
  obtain ⟨G, g1', g2, g3, g4⟩ := hJ B' eb
  rw [List.length_map] at g2 g3
  by_cases hlt : i < as.length
  · refine .inr ⟨g2 i H hlt (g1' H s.ok.sub), Pv (out (i + 1)) B2, fun H' p' => ⟨as.length - (i + 1), by omega, rfl, hlt, p'⟩, fun x H' y => ?_⟩
    have hai : as[i] ∈ as := List.getElem_mem hlt
    obtain ⟨B3, s3, r3⟩ := g4 i H x H' (Ra as[i]) (by rw [List.getElem?_map, List.getElem?_eq_getElem hlt]; rfl) s.ok y
    refine hg as[i] x B3 H' (wipe σ vs) _ s3.ok.sub r3 fun σ2 j2 => ?_
    obtain ⟨w1, w2, w3⟩ := he as[i] σ2 B3 hai ((e.trans s2.bb).trans (eb.trans s3.bb)) j2
    refine ⟨w1, et_yes B3 H' (.refl _) s3.ok _ fun H3 s4 => ?_⟩
    rw [if_pos rfl]
    refine w2 B3 H3 (.refl _) s4.ok _ fun Jt1 B4 H4 s5 hJ1 => ?_
    have st : Stp C B' H B4 H4 := s3.trans (s4.trans s5)
    have S4 := s.trans st
    have e4 : out (i + 1) = out i ++ (bs as[i]).map (f as[i]) := by
      show (as.take (i + 1)).flatMap _ = _
      rw [List.take_succ_eq_append_getElem hlt, List.flatMap_append, List.flatMap_singleton]
    have hout : (out (i + 1)).length ≤ 16000000 := by
      refine Nat.le_trans ?_ hn
      have : as = as.take (i + 1) ++ as.drop (i + 1) := (List.take_append_drop _ _).symm
      show (List.flatMap _ (as.take (i + 1))).length ≤ _
      conv => rhs; rw [this, List.flatMap_append, List.length_append]
      omega
    refine ⟨fun j k' H => k' = (bs as[i]).length - j ∧ j ≤ (bs as[i]).length ∧ Pv (out i ++ ((bs as[i]).take j).map (f as[i])) B4 H, ⟨(bs as[i]).length, by simp, Nat.zero_le _, B4, acc, S4, .refl _, st.nw D (by rw [hl]; trivial) hb, st.hh D _ nM hl, by rw [List.take_zero, List.map_nil, List.append_nil]; exact ha.mono st.bb⟩, ?_⟩
    rintro j k' Hj ⟨rfl, hj, B5, acc5, s5', eb5, hb5, hl5, ha5⟩
    obtain ⟨G1, q1, q2, q3, q4⟩ := hJ1 B5 eb5
    rw [List.length_map] at q2 q3
    by_cases hjlt : j < (bs as[i]).length
    · refine .inr ⟨q2 j Hj hjlt (q1 Hj s5'.ok.sub), Pv (out i ++ ((bs as[i]).take (j + 1)).map (f as[i])) B4, fun H'' p' => ⟨(bs as[i]).length - (j + 1), by omega, rfl, hjlt, p'⟩, fun x1 H'' y1 => ?_⟩
      obtain ⟨B6, s6, r6⟩ := q4 j Hj x1 H'' (Rb (bs as[i])[j]) (by rw [List.getElem?_map, List.getElem?_eq_getElem hjlt]; rfl) s5'.ok y1
      refine hg1 (bs as[i])[j] x1 B6 H'' (wipe σ2 vs1) _ s6.ok.sub r6 fun σ3 j3 => ?_
      obtain ⟨u1, u2⟩ := w3 (bs as[i])[j] σ3 B6 (List.getElem_mem hjlt) (s5.bb.trans (eb5.trans s6.bb)) j3
      refine ⟨u1, et_yes B6 H'' (.refl _) s6.ok _ fun H7 s7 => ?_⟩
      rw [if_pos rfl]
      refine u2 B6 H7 (.refl _) s7.ok _ fun v B8 H8 s8 r8 => ?_
      have st2 : Stp C B5 Hj B8 H8 := s6.trans (s7.trans s8)
      have b8 : B8 D = none := st2.nw D (by rw [hl5]; trivial) hb5
      have hal := ha5.pkLen
      rw [List.length_map] at hal
      refine ⟨acc5, st2.hh D _ nM hl5, ?_, B8, acc5 ++ [v], (s5'.trans st2).loc hD1 b8 nM, eb5.trans st2.bb, b8, upd_same, ?_⟩
      · have : (out i ++ ((bs as[i]).take j).map (f as[i])).length < (out (i + 1)).length := by
          rw [e4, List.length_append, List.length_append, List.length_map, List.length_map, List.length_take]; omega
        exact Nat.lt_of_lt_of_le (by omega) (Nat.le_trans hout (by decide))
      · have e5 : out i ++ ((bs as[i]).take (j + 1)).map (f as[i]) = (out i ++ ((bs as[i]).take j).map (f as[i])) ++ [f as[i] (bs as[i])[j]] := by
          rw [List.take_succ_eq_append_getElem hjlt, List.map_append, List.append_assoc]; rfl
        rw [e5, List.map_append]
        exact Paired.pkApp (ha5.mono st2.bb) (.cons r8 .nil)
    · have ej : j = (bs as[i]).length := by omega
      subst ej
      refine .inl ⟨q3 Hj (q1 Hj s5'.ok.sub), B5, acc5, s5', (eb.trans (st.bb)).trans eb5, hb5, hl5, ?_⟩
      rw [e4]
      rw [List.take_length] at ha5
      exact ha5
  · have ei : i = as.length := by omega
    subst ei
    refine .inl ⟨g3 H (g1' H s.ok.sub), ?_⟩
    have : out as.length = as.flatMap fun a => (bs a).map (f a) := by show (as.take as.length).flatMap _ = _; rw [List.take_length]
    rw [this] at ha
    exact q (.ref D) (upd B' D (.lst acc)) H (s.frz hD1 hb nM hl) ⟨D, acc, rfl, upd_same, ha.mono (.new hb)⟩
end
section
variable {K : PySem.W.Frag}
def p_all_sides (K : PySem.W.Frag) : Pm Nat where
  n := 1
  args x := [Is K x]
  pre x := x ≤ 1000
  res x := Is K (sidesW x)
abbrev sp_all_sides (K : PySem.W.Frag) : Sp := (p_all_sides K).sp
def t_all_sides (K : PySem.W.Frag) : TS := (tRet (tLc2 (iRng1 (tCons (tVar 0) tNil)) (gName 1) tYes (iTup K (tTup (tCons (tC (.str "least")) (tCons (tC (.str "most")) tNil)))) (gName 2) tYes (tTup (tCons (tVar 1) (tCons (tVar 2) tNil))) [1, 2] [2]))
theorem len_all_sides (K : PySem.W.Frag) : ∀ vs H Q E, sp_all_sides K vs H Q E → vs.length = 1 := Pm.len _ rfl
theorem pure_all_sides (c : Kn0 K) : ∀ vs H Q E, sp_all_sides K vs H Q E → t_all_sides K { nx := fun _ H' => Q .non H', rt := Q } (start ["width", "column", "way"] vs) H := by
  rintro vs H Q E ⟨C, B, w, k, _, a, hp, q⟩
  have hp : w ≤ 1000 := hp
  obtain _ | @⟨_, v0, _, _, r0, _ | _⟩ := a
  have e : (rng 0 ((w : Int)).toNat).flatMap (fun i : Int => [Wy.least, Wy.most].map fun y => ((i, y) : Sd)) = sidesW w := by
    unfold rng sidesW
    rw [Int.toNat_natCast, List.flatMap_map]
    have h : ∀ c : Nat, (fun c : Nat => [Wy.least, Wy.most].map fun y => (((0 : Int) + (c : Int), y) : Sd)) c = [((c : Int), Wy.least), ((c : Int), Wy.most)] := fun c => by simp
    exact congrArg (fun f => (List.range w).flatMap f) (funext h)
  have ln : ((rng 0 ((w : Int)).toNat).flatMap (fun i : Int => [Wy.least, Wy.most].map fun y => ((i, y) : Sd))).length ≤ 16000000 := by
    have := flat_len (fun i : Int => [Wy.least, Wy.most].map fun y => ((i, y) : Sd)) 2 (rng 0 ((w : Int)).toNat) fun x _ => by simp
    rw [rng_len] at this
    omega
  refine s_ret (Ev.to (F := Is K) (Ev.le (ev_lc2 (Ra := Is K) (Rb := Is K) (Ro := Is K) (J := fun i => JN 1 (Is K i)) (J1 := fun y => JN 2 (Is K y)) (rng 0 ((w : Int)).toNat) (fun _ => [Wy.least, Wy.most]) (fun i y => ((i, y) : Sd)) (ei_range1 (K := K) (ea_cons (ev_natI (ev_var (i := 0) rfl r0)) ea_nil) (by omega)) ln (fun x => go_name) (fun x => go_name) fun i σ2 B' hb eb j => ?_) fun _ _ h => is_lst.mpr h) e) k.refl fun v B4 H4 S4 r4 => q v B4 H4 S4 r4
  obtain ⟨v1, hv1, rfl⟩ := j
  refine ⟨rfl, ei_tup (ev_tup (Rs := [Is K Wy.least, Is K Wy.most]) (ea_cons ev_least (ea_cons ev_most ea_nil)) (by simp)), fun y σ3 B'' hy eb2 j => ?_⟩
  obtain ⟨v2, hv2, rfl⟩ := j
  exact ⟨rfl, ev_pair (K := K) (ev_var (i := 1) rfl (Rp.mono _ eb2 hv1)) (ev_var (i := 2) rfl hv2)⟩
def sp_Shelf___init__ (K : PySem.W.Frag) : Sp := fun vs H Q E => ∃ (x dx : Addr) (w r : V), vs = [.ref x, w, r] ∧ H x = some (.ins (He.ga K "Shelf") dx []) ∧ ∀ H2, (∀ a, a ≠ x → H2 a = H a) → H2 x = some (.ins (He.ga K "Shelf") dx [("its_rows", w), ("its_parts", r)]) → Q .non H2
theorem len_Shelf___init__ (K : PySem.W.Frag) : ∀ vs H Q E, sp_Shelf___init__ K vs H Q E → vs.length = 3 := fun vs H Q E ⟨x, dx, w, r, e, _⟩ => by rw [e]; rfl
def t_Shelf___init__ (K : PySem.W.Frag) : TS := (tSeq (sFld K (tVar 0) (tVar 1) "its_rows")
  (sFld K (tVar 0) (tVar 2) "its_parts"))
theorem pure_Shelf___init__ (c : Kn_Shelf K) : ∀ vs H Q E, sp_Shelf___init__ K vs H Q E → t_Shelf___init__ K { nx := fun _ H' => Q .non H', rt := Q } (start ["self", "rows", "parts"] vs) H := by
  rintro vs H Q E ⟨x, dx, w, r, rfl, hx, q⟩
  refine ⟨w, rfl, .ref x, rfl, x, _, dx, [], rfl, hx, c.l_Shelf, c.n_Shelf_its_rows, by simp, ?_⟩
  refine ⟨r, rfl, .ref x, rfl, x, _, dx, [("its_rows", w)], rfl, upd_same, c.l_Shelf, c.n_Shelf_its_parts, by simp, ?_⟩
  exact q _ (fun a h => by rw [upd_ne h, upd_ne h]) upd_same
abbrev ShR (K : PySem.W.Frag) (X : List (Tu Int)) (parts : List (List Sd)) : Rp := InsR (He.ga K "Shelf") [("its_rows", Is K X), ("its_parts", Is K parts)]
theorem ev_shelf {C : MI} {σ : L2.St} {B : Hp} {t : TA} {X : List (Tu Int)} {parts : List (List Sd)} (h : EvA C t σ B [Is K X, Is K parts]) : Ev C (tMake (He.ga K "Shelf") (sp_Shelf___init__ K) [] E0 t) σ B (ShR K X parts) := fun B1 H1 e k Q q =>
  h B1 H1 e k _ fun vs B2 H2 s r p dx hp hdx ndx => by
    cases r with
    | @cons _ w1 _ _ r1 t =>
      cases t with
      | @cons _ w2 _ _ r2 t =>
        cases t
        refine ⟨p, dx, w1, w2, rfl, upd_same, fun H3 same hp3 => ⟨rfl, ?_⟩⟩
        have sm : Stp C B2 H2 B2 H3 := Stp.more s.ok fun a ha => by
          have n1 : a ≠ p := fun z => by subst z; exact ha hp
          have n2 : a ≠ dx := fun z => by subst z; exact ha hdx
          rw [same a n1, upd_ne n1, upd_ne n2]
        have b2 := s.ok.sub.un hp
        have s2 := sm.frz hp b2 (s.ok.fresh hp) hp3
        exact q _ _ _ (s.trans s2) ⟨p, dx, [w1, w2], rfl, upd_same, .cons (Rp.mono _ (.new b2) r1) (.cons (Rp.mono _ (.new b2) r2) .nil)⟩
structure MkIn where
  X : List (Tu Int)
  parts : List (List Sd)
  r : Tu Int
structure MkOk (x : MkIn) : Prop where
  x1 : x.X.length ≤ 1000
  r1 : x.r.l.length ≤ 400
  w : ∀ y ∈ x.X, x.r.l.length ≤ y.l.length
def p_Shelf_makes (K : PySem.W.Frag) : Pm MkIn where
  n := 2
  args x := [ShR K x.X x.parts, Is K x.r]
  pre x := MkOk x
  res x := Is K (makesB x.parts x.X x.r)
abbrev sp_Shelf_makes (K : PySem.W.Frag) : Sp := (p_Shelf_makes K).sp
def t_Shelf_makes (K : PySem.W.Frag) : TS := (tSeq (tAsg (tCall (sp_exactly K) [] E0 (tCons (tVar 1) tNil)) (gName 2))
  (tSeq (tFor (iList K (tFld K (tVar 0) "its_parts")) (gName 3) (tSeq (tAsg (tLc (iList K (tVar 2)) (gName 5) (tTest (tOp (rInD K) (tSl (rSlA K) (tVar 5) tNoPart (tPart (tC (.int 2)))) (tVar 3))) (tVar 5) [5]) (gName 4))
  (tIfS (tNot (tB (tCB (rAny K) (tCons (tLc (iList K (tFld K (tVar 0) "its_rows")) (gName 6) tYes (tCall (sp_meets K) [] E0 (tCons (tVar 6) (tCons (tVar 4) tNil))) [6]) tNil)))) (tRet (tC (.bl false))) tNext)))
  (tRet (tC (.bl true)))))
theorem len_Shelf_makes (K : PySem.W.Frag) : ∀ vs H Q E, sp_Shelf_makes K vs H Q E → vs.length = 2 := Pm.len _ rfl
theorem in_exact {r : Tu Int} {b : Bd} (h : b ∈ exactL r) : 0 ≤ b.c ∧ b.c < r.l.length := by
  rw [exact_map, List.mem_map] at h
  obtain ⟨s, hs, rfl⟩ := h
  exact in_sides.mp hs
theorem exact_len (r : Tu Int) : (exactL r).length ≤ 2 * r.l.length := by
  unfold exactL
  have := flat_len (fun c : Nat => ([⟨(c : Int), Wy.least, r.l.getD c 0⟩, ⟨(c : Int), Wy.most, r.l.getD c 0⟩] : List Bd)) 2 (List.range r.l.length) fun x _ => by simp
  rw [List.length_range] at this
  omega
theorem pure_Shelf_makes (c : Kn_Shelf K) : ∀ vs H Q E, sp_Shelf_makes K vs H Q E → t_Shelf_makes K { nx := fun _ H' => Q .non H', rt := Q } (start ["self", "row", "bounds", "part", "some", "bound", "other"] vs) H := by
  rintro vs H Q E ⟨C, B, ⟨X, parts, r⟩, k, _, a, ok, q⟩
  obtain ⟨x1, r1', hw⟩ := ok
  have x1 : X.length ≤ 1000 := x1
  have r1' : r.l.length ≤ 400 := r1'
  have hw : ∀ y ∈ X, r.l.length ≤ y.l.length := hw
  obtain _ | @⟨_, v0, _, _, r0, _ | @⟨_, v1, _, _, r1, _ | _⟩⟩ := a
  refine q_asg (ev_call (p := p_exactly K) r (ea_cons (ev_var (i := 1) rfl r1) ea_nil) (by show r.l.length ≤ 1000; omega)) k.refl fun v2 B2 H2 S2 s2 r2 => ?_
  have R0 : (ShR K X parts).P v0 B2 := Rp.mono _ s2.bb r0
  let P (part : List Sd) : Bool := X.any fun x => ((exactL r).filter fun b => decide ((b.c, b.w) ∈ part)).all (okB x.l)
  refine q_forD (xs := parts) (Ri := Is K) (J := fun p => JN 3 (Is K p)) (ei_listD (ev_fld c.l_Shelf c.n_Shelf_its_parts (ev_var (i := 0) rfl R0) rfl)) S2 (fun x => go_name)
    (fun pre σ1 B1 H1 => ∃ o3 o4, σ1 = [some v0, some v1, some v2, o3, o4, none, none] ∧ pre.all P = true) (fun B1 H1 S1 s1 => ⟨none, none, rfl, rfl⟩) (fun pre part post σ1 B3 H3 B4 H4 hx S3 e3 ⟨o3, o4, hs, hall⟩ s4 σ2 j => ?_) (fun σ1 B3 H3 S3 e3 ⟨o3, o4, hs, hall⟩ => ?_)
  · subst hs
    obtain ⟨v3, r3, rfl⟩ := j
    have e24 : Ex B2 B4 := e3.trans s4.bb
    have el := exact_len r
    let some_ := (exactL r).filter fun b => decide ((b.c, b.w) ∈ part)
    have hsl : some_.length ≤ 800 := by
      have := List.length_filter_le (fun b : Bd => decide ((b.c, b.w) ∈ part)) (exactL r)
      show (List.filter _ _).length ≤ _
      omega
    refine q_asg (R := Is K some_) (Ev.to (F := Is K) (ev_lcFD (K := K) (xs := exactL r) (Ri := Is K) (J := fun b => JN 5 (Is K b)) (fun b => decide ((b.c, b.w) ∈ part)) id (ei_listD (ev_var (i := 2) rfl (Rp.mono _ e24 r2))) (by omega) (fun x => go_name) fun b σ2 B' hb eb j => ?_) (List.map_id _)) (S3.trans s4) fun v4 B5 H5 S5 s5 r4 => ?_
    · obtain ⟨v, hv, rfl⟩ := j
      exact ⟨rfl, (et_test (ev_in (K := K) (ev_sl2 (K := K) (ev_var (i := 5) rfl hv)) (ev_var (i := 3) rfl (Rp.mono _ eb r3)))).to (decide_eq_decide.mpr Iff.rfl), fun _ => ev_var (i := 5) rfl hv⟩
    refine s_if (b := !P part) (et_not (et_B (K := K) (Ev.to (F := Is K) (ev_any (K := K) (bs := X.map fun x => some_.all (okB x.l)) (ev_lcMD (K := K) (xs := X) (Ri := Is K) (J := fun x => JN 6 (Is K x)) _ (ei_listD (ev_fld c.l_Shelf c.n_Shelf_its_rows (ev_var (i := 0) rfl (Rp.mono _ (e24.trans s5.bb) R0)) rfl)) (by omega) (fun x => go_name) fun x σ2 B' hb eb j => ?_)) (any_map _ _)))) S5 (fun e H6 S6 s6 => ?_) (fun e H6 S6 s6 => ?_)
    · obtain ⟨v, hv, rfl⟩ := j
      refine ⟨rfl, ev_call (p := p_meets K) (x.l, some_) (ea_cons (ev_var (i := 6) rfl hv) (ea_cons (ev_var (i := 4) rfl (Rp.mono _ eb r4)) ea_nil)) ⟨fun b hb' => ?_, ?_⟩⟩
      · have h1 := in_exact (List.mem_filter.mp hb').1
        have h2 := hw x hb
        show 0 ≤ b.c ∧ b.c < x.l.length
        omega
      · show some_.length ≤ 1000; omega
    · have e' : P part = false := by simpa using e
      refine s_ret (ev_bl (K := K) (i := false)) S6 fun v B7 H7 S7 r7 => q v B7 H7 S7 ?_
      have : makesB parts X r = false := by
        unfold makesB
        rw [hx, List.all_append, List.all_cons]
        show (_ && (P part && _)) = false
        rw [e']; simp
      show (Is K (makesB parts X r)).P v B7
      rw [this]; exact r7
    · have e' : P part = true := by simpa using e
      exact ⟨B5, S6, s4.bb.trans s5.bb, some v3, some v4, rfl, by rw [List.all_append, hall]; simp [e']⟩
  · subst hs
    refine s_ret (ev_bl (K := K) (i := true)) S3 fun v B7 H7 S7 r7 => q v B7 H7 S7 ?_
    have : makesB parts X r = true := hall
    show (Is K (makesB parts X r)).P v B7
    rw [this]; exact r7
end
end Pk

/-! parts_for; the law's closure of rows. -/
namespace Pk
open PySem L2
open Enc (enc dep)
def partsFor (rows : List (Tu Int)) (cs : List (List Int × List Int)) : List (List Sd) := if rows ≠ [] then lightSets cs (sidesW (rows.getD 0 ⟨[]⟩).l.length) else []
structure PfIn where
  rows : List (Tu Int)
  cs : List (List Int × List Int)
structure PfOk (x : PfIn) : Prop where
  w : ∀ r ∈ x.rows, r.l.length ≤ 6 ∧ ∀ c ∈ x.cs, r.l.length ≤ c.2.length
  c : ∀ c ∈ x.cs, c.1 ≠ [] ∧ c.1.length ≤ 7
  n : x.cs.length ≤ 1000
theorem sides_len (w : Nat) : (sidesW w).length = 2 * w := by
  have : ∀ L : List Nat, (L.flatMap fun c : Nat => [((c : Int), Wy.least), ((c : Int), Wy.most)]).length = 2 * L.length := fun L => by
    induction L with
    | nil => rfl
    | cons x L ih => rw [List.flatMap_cons, List.length_append, ih]; simp; omega
  unfold sidesW
  rw [this, List.length_range]
section
variable {K : PySem.W.Frag}
def p_parts_for (K : PySem.W.Frag) : Pm PfIn where
  n := 2
  args x := [Is K x.rows, CouL K x.cs]
  pre x := PfOk x
  res x := Is K (partsFor x.rows x.cs)
abbrev sp_parts_for (K : PySem.W.Frag) : Sp := (p_parts_for K).sp
def t_parts_for (K : PySem.W.Frag) : TS := (tRet (tIf (tTest (tOp (rNeD K) (tVar 0) (tLst tNil))) (tCall (sp_light_sets K) [] E0 (tCons (tVar 1) (tCons (tCall (sp_all_sides K) [] E0 (tCons (tCB (rLenQ K) (tCons (tOp (rIxL K) (tVar 0) (tC (.int 0))) tNil)) tNil)) tNil))) (tLst tNil)))
theorem len_parts_for (K : PySem.W.Frag) : ∀ vs H Q E, sp_parts_for K vs H Q E → vs.length = 2 := Pm.len _ rfl
theorem pure_parts_for (c : Kn0 K) : ∀ vs H Q E, sp_parts_for K vs H Q E → t_parts_for K { nx := fun _ H' => Q .non H', rt := Q } (start ["rows", "councils"] vs) H := by
  rintro vs H Q E ⟨C, B, ⟨rows, cs⟩, k, _, a, ⟨hw, hc, hn⟩, q⟩
  have hw : ∀ r ∈ rows, r.l.length ≤ 6 ∧ ∀ c ∈ cs, r.l.length ≤ c.2.length := hw
  have hc : ∀ c ∈ cs, c.1 ≠ [] ∧ c.1.length ≤ 7 := hc
  have hn : cs.length ≤ 1000 := hn
  obtain _ | @⟨_, v0, _, _, r0, _ | @⟨_, v1, _, _, r1, _ | _⟩⟩ := a
  refine s_ret (R := Is K (partsFor rows cs)) (ev_if (b := decide (rows ≠ [])) (et_test (ev_ne (K := K) (ev_var (i := 0) rfl r0) (ev_lstD (α := Tu Int) (xs := []) ea_nil))) (fun e => ?_) (fun e => ?_)) k.refl fun v B4 H4 S4 r4 => q v B4 H4 S4 r4
  · have h0 : rows ≠ [] := of_decide_eq_true e
    have hp : 0 < rows.length := List.length_pos_iff.mpr h0
    let w := (rows.getD 0 ⟨[]⟩).l.length
    have hmem : rows.getD 0 ⟨[]⟩ ∈ rows := by rw [getD_lt hp]; exact List.getElem_mem hp
    have h1 := hw _ hmem
    have eu : partsFor rows cs = lightSets cs (sidesW w) := by unfold partsFor; rw [if_pos h0]
    rw [eu]
    refine ev_call (p := p_light_sets K) (cs, sidesW w) (ea_cons (ev_var (i := 1) rfl r1) (ea_cons (ev_call (p := p_all_sides K) w (ea_cons (ev_lenTD (K := K) (xs := rows.getD 0 ⟨[]⟩) (ev_ixLd (K := K) (i := 0) (ev_var (i := 0) rfl r0) ev_int (atI_get (i := 0) hp))) ea_nil) (by show w ≤ 1000; have := h1.1; show (rows.getD 0 ⟨[]⟩).l.length ≤ 1000; omega)) ea_nil)) ⟨fun c hc' => ⟨(hc c hc').1, (hc c hc').2, fun s hs => ?_⟩, ?_, hn⟩
    · have h2 := in_sides.mp hs
      have h3 := h1.2 c hc'
      have h4 : s.1 < ((rows.getD 0 ⟨[]⟩).l.length : Int) := h2.2
      omega
    · show (sidesW w).length ≤ 12
      rw [sides_len]
      have := h1.1
      show 2 * (rows.getD 0 ⟨[]⟩).l.length ≤ 12
      omega
  · have h0 : rows = [] := Classical.byContradiction fun z => by rw [decide_eq_true z] at e; cases e
    have eu : partsFor rows cs = [] := by unfold partsFor; rw [if_neg fun z => z h0]
    rw [eu]
    exact ev_lstD (α := List Sd) (xs := []) ea_nil
/-! ### every row that comes -/
def stopsE (plans : List (List Int × List Int)) : Nat → List (Tu Int) → Prop
  | 0, _ => False
  | n + 1, f => (rnd plans f).length = f.length ∨ stopsE plans n (rnd plans f)
structure EvIn where
  w : Nat
  plans : List (List Int × List Int)
  rows : List (Tu Int)
  G : List (Tu Int) → Prop
structure EvOk (x : EvIn) : Prop where
  few : FewT x.rows
  ne : ∀ r ∈ x.rows, r.l ≠ []
  g0 : x.G (sset x.rows)
  gr : ∀ r, x.G r → RndOk x.w x.plans r
  gs : ∀ r, x.G r → x.G (rnd x.plans r)
  st : stopsE x.plans 64 (sset x.rows)
def p__law_every (K : PySem.W.Frag) : PmN EvIn where
  n := 2
  args x := [Is K x.plans, Is K x.rows]
  pre x := EvOk x
  res x B := NewL B ((evr x.plans 64 (sset x.rows)).map (Is K))
  mono x B B' e := newL_ex e
abbrev sp__law_every (K : PySem.W.Frag) : Sp := (p__law_every K).sp
theorem len__law_every (K : PySem.W.Frag) : ∀ vs H Q E, sp__law_every K vs H Q E → vs.length = 2 := PmN.len _ rfl
def t__law_every (K : PySem.W.Frag) : TS := (tSeq (tPar 2 3 (tCons (tSS K (tVar 1)) (tCons (tUn rNeg (tC (.int 1))) tNil)))
  (tSeq (tWhile (tTest (tOp (rNeD K) (tVar 3) (tCB (rLenQ K) (tCons (tVar 2) tNil)))) (tSeq (tAsg (tCB (rLenQ K) (tCons (tVar 2) tNil)) (gName 3))
  (tSeq (tAsg (tCB (rListQ K) (tCons (tVar 2) tNil)) (gName 4))
  (tSeq (tFor (iList K (tVar 0)) (gName 5) (tSeq (tAsg (tLst (tCons (tTup tNil) tNil)) (gName 6))
  (tSeq (tFor (iList K (tOp (rIxT K) (tVar 5) (tC (.int 0)))) (gName 7) (tSeq (tAsg (tLst tNil) (gName 8))
  (tSeq (tFor (iList K (tVar 6)) (gName 9) (tDrop (tBM K "list" rExtend (tVar 8) (tCons (tLc (iList K (tVar 2)) (gName 10) tYes (tOp (rCatA K) (tVar 9) (tTup (tCons (tVar 10) tNil))) [10]) tNil))))
  (tAsg (tVar 8) (gName 6)))))
  (tDrop (tBM K "list" rExtend (tVar 4) (tCons (tLc (iList K (tVar 6)) (gName 9) tYes (tCall (sp__law_settle K) [] E0 (tCons (tVar 5) (tCons (tVar 9) tNil))) [9]) tNil))))))
  (tAsg (tSS K (tVar 4)) (gName 2))))))
  (tRet (tVar 2))))
/-- sorted(set(..)) is a new list -/
theorem ev_ssN {C : MI} {σ : L2.St} {B : Hp} {te : TE} {xs : List (Tu Int)} (h : Ev C te σ B (Is K xs)) (few : FewT xs) (ne : ∀ x ∈ xs, x.l ≠ []) : Ev C (tSS K te) σ B (NewL B ((sset xs).map (Is K))) := fun B1 H1 e k Q q => by
  have h' : Ev C (tSS K te) σ B1 (Is K (sset xs)) := ev_ss (h.mono e) few ne
  -- the same run, its list told to be new
  refine h B1 H1 e k _ fun v B2 H2 s r => ?_
  obtain ⟨a, vs, rfl, h2, h3⟩ := is_lst.mp r
  refine (show rSS K (.ref a) H2 Q from ?_)
  obtain ⟨ks, rfl, rfl, hk⟩ := rows_ks h3
  refine ⟨a, ks, rfl, rd_l (s.ok.sub _ _ h2), fun p hp => rd_t (s.ok.sub _ _ (hk p hp)), fun L hL nd => ?_, fun p hp => ne _ (List.mem_map.mpr ⟨p, hp, rfl⟩), fun a' o L p ha hpa hp sub all nd => ?_⟩
  · have := few (L.map fun p => (⟨p.2⟩ : Tu Int)) (fun x hx => by
      obtain ⟨p, hp, rfl⟩ := List.mem_map.mp hx
      exact List.mem_map.mpr ⟨p, hL p hp, rfl⟩) (by
      have : L.map (fun p => (⟨p.2⟩ : Tu Int)) = (L.map Prod.snd).map Tu.mk := by rw [List.map_map]; rfl
      rw [this]
      unfold List.Nodup at *
      rw [List.pairwise_map]
      exact nd.imp fun h e => h (by cases e; rfl))
    rwa [List.length_map] at this
  · have hp2 : (upd H2 a' o) p = none := by rw [upd_ne hpa]; exact hp
    have S1 := s.ok.new (o := o) ha
    have S2 := S1.ok.new (o := .lst ((L.mergeSort (PySem.W.dataLe false encT)).map fun q => V.ref q.1)) hp2
    refine q _ _ _ (s.trans (S1.trans S2)) ⟨p, _, rfl, (e.trans s.bb).un (s.ok.sub.un hp), upd_same, ?_⟩
    have hset : sset (ks.map fun p => (⟨p.2⟩ : Tu Int)) = (L.mergeSort (PySem.W.dataLe false encT)).map fun q => (⟨q.2⟩ : Tu Int) := by
      apply sorted_ext
      · exact srt_sorted _
      · rw [List.pairwise_map]
        exact PySem.W.sort_pairwise (PySem.W.sortLe_total _ _ _) L
      · exact sset_nodup _
      · have pm := (List.mergeSort_perm L (PySem.W.dataLe false encT)).map Prod.snd
        have nd2 := pm.nodup_iff.mpr nd
        have : (L.mergeSort (PySem.W.dataLe false encT)).map (fun q => (⟨q.2⟩ : Tu Int)) = ((L.mergeSort (PySem.W.dataLe false encT)).map Prod.snd).map Tu.mk := by rw [List.map_map]; rfl
        rw [this]
        unfold List.Nodup at *
        rw [List.pairwise_map]
        exact nd2.imp fun h e => h (by cases e; rfl)
      · intro x
        rw [sset_mem, List.mem_map, List.mem_map]
        constructor
        · rintro ⟨p, hp, rfl⟩
          obtain ⟨q, hq, e⟩ := List.mem_map.mp (all p hp)
          exact ⟨q, List.mem_mergeSort.mpr hq, by rw [e]⟩
        · rintro ⟨q, hq, rfl⟩
          exact ⟨q, sub q (List.mem_mergeSort.mp hq), rfl⟩
    rw [hset]
    have e2 : Ex B2 (upd (upd B2 a' o) p (.lst ((L.mergeSort (PySem.W.dataLe false encT)).map fun q => V.ref q.1))) := S1.bb.trans S2.bb
    have : ∀ M : List (Addr × List Int), (∀ q ∈ M, q ∈ ks) → Args ((M.map fun q => (⟨q.2⟩ : Tu Int)).map (Is K)) (M.map fun q => V.ref q.1) (upd (upd B2 a' o) p (.lst ((L.mergeSort (PySem.W.dataLe false encT)).map fun q => V.ref q.1))) := by
      intro M
      induction M with
      | nil => intro _; exact .nil
      | cons q M ih =>
        intro hM
        exact .cons (is_tup.mpr ⟨q.1, _, rfl, e2 _ _ (hk q (hM q List.mem_cons_self)), args_ints.mpr rfl⟩) (ih fun z hz => hM z (List.mem_cons_of_mem _ hz))
    exact this _ fun q hq => sub q (List.mem_mergeSort.mp hq)
theorem pure__law_every (c : Kn0 K) : ∀ vs H Q E, sp__law_every K vs H Q E → t__law_every K { nx := fun _ H' => Q .non H', rt := Q } (start ["councils", "rows", "found", "many", "new", "parts", "seatings", "weight", "longer", "one", "row"] vs) H := by
  rintro vs H Q E ⟨C, B, ⟨w, plans, rows, G⟩, k, _, a, ok, q⟩
  obtain ⟨few, ne, g0, gr, gs, hst⟩ := ok
  have gr : ∀ r, G r → RndOk w plans r := gr
  have gs : ∀ r, G r → G (rnd plans r) := gs
  have g0 : G (sset rows) := g0
  have hst : stopsE plans 64 (sset rows) := hst
  obtain _ | @⟨_, v0, _, _, r0, _ | @⟨_, v1, _, _, r1, _ | _⟩⟩ := a
  refine q_par (R1 := NewL B ((sset rows).map (Is K))) (R2 := Is K (-1 : Int)) (ea_cons (ev_ssN (K := K) (ev_var (i := 1) rfl r1) few ne) (ea_cons (ev_un (K := K) (f := fun i => -i) ev_int) ea_nil)) k.refl fun v2 v3 B2 H2 S2 s2 r2 r3 => ?_
  have r3 := is_int.mp r3
  subst r3
  refine ⟨fun n σ H' => ∃ (B' : Hp) (f : List (Tu Int)) (m : Int) (v2 : V) (o4 o5 o6 o7 o8 o9 : Option V), σ = [some v0, some v1, some v2, some (.int m), o4, o5, o6, o7, o8, o9, none] ∧ Stp C B H B' H' ∧ Ex B2 B' ∧ (NewL B (f.map (Is K))).P v2 B' ∧ G f ∧
    (if m = (f.length : Int) then f = evr plans 64 (sset rows) else stopsE plans n f ∧ evr plans n f = evr plans 64 (sset rows)),
    ⟨64, B2, sset rows, -1, v2, none, none, none, none, none, none, rfl, S2, .refl _, r2, g0, by rw [if_neg (by omega)]; exact ⟨hst, rfl⟩⟩, ?_⟩
  rintro n σ H' ⟨B', f, m, v2, o4, o5, o6, o7, o8, o9, rfl, S', e2, r2, hG, hm⟩
  have R2 : (Is K f).P v2 B' := newL_is _ _ r2
  refine (et_test (ev_ne (K := K) (x := m) (y := (f.length : Int)) (ev_var (i := 3) rfl (is_int.mpr rfl)) (ev_lenD (K := K) (ev_var (i := 2) rfl R2)))) B' H' (.refl _) S'.ok _ fun H1 s1 => ?_
  have S1 := S'.trans s1
  by_cases hmf : m = (f.length : Int)
  · rw [if_pos hmf] at hm
    rw [decide_eq_false (fun z => z hmf)]
    dsimp only
    rw [if_neg Bool.false_ne_true]
    subst hm
    exact s_ret (ev_var (i := 2) rfl r2) S1 fun v B4 H4 S4 r4 => q v B4 H4 S4 r4
  · rw [if_neg hmf] at hm
    rw [decide_eq_true hmf]
    dsimp only
    rw [if_pos rfl]
    obtain ⟨hse, hev⟩ := hm
    cases n with
    | zero => exact hse.elim
    | succ n =>
      obtain ⟨pl, ps, w1, w2, rl, pw, rs, fewA⟩ := gr f hG
      refine ⟨_, fun σ' H' h => h, ?_⟩
      refine q_asg (ev_lenD (K := K) (ev_var (i := 2) rfl R2)) S1 fun u3 B3 H3 S3 s3 ru3 => ?_
      have ru3 := is_int.mp ru3
      subst ru3
      have e3 : Ex B' B3 := s3.bb
      refine q_listO (Ra := Is K) (xs := f) ((ev_var (i := 2) rfl (Rp.mono _ e3 R2)).le fun _ _ => is_lst.mp) S3 fun l B4 H4 S4 e4 A4 => ?_
      have ml : ∀ p ∈ plans, (made p f).length ≤ 1000000 := fun p hp => by rw [made_len]; exact pw p hp _ (Nat.le_refl _)
      have eB4 : Ex B' B4 := e3.trans e4
      refine q_forD (xs := plans) (Ri := Is K) (J := fun p => JN 5 (Is K p)) (ei_listD (ev_var (i := 0) rfl (Rp.mono _ (S'.bb.trans eB4) r0))) S4 (fun x => go_name)
        (fun pre σ1 B1 H1 => ∃ o5 o6 o7 o8 o9, σ1 = [some v0, some v1, some v2, some (.int (f.length : Int)), some (.ref l), o5, o6, o7, o8, o9, none] ∧ Acc C H (Is K) l (f ++ pre.flatMap fun p => made p f) B1 H1)
        (fun B1 H1 S1 s1 => ⟨o5, o6, o7, o8, o9, rfl, by rw [List.flatMap_nil, List.append_nil]; exact A4.step s1⟩) (fun pre p post σ1 B5 H5 B6 H6 hx S5 e5 ⟨o5, o6, o7, o8, o9, hs, A5⟩ s6 σ2 j => ?_) (fun σ1 B5 H5 S5 e5 ⟨o5, o6, o7, o8, o9, hs, A5⟩ => ?_)
      · subst hs
        obtain ⟨v5, r5, rfl⟩ := j
        have hp : p ∈ plans := by rw [hx]; simp
        have hpl := pre_len hx
        have pok := ps p hp
        have l7 : p.1.length ≤ 7 := pok.l1
        have A6 := A5.step s6
        have e46 : Ex B4 B6 := e5.trans s6.bb
        have pwp := fun m hm => pw p hp m hm
        -- the seatings, seat by seat
        refine q_asg (R := Is K (seats f 0)) (ev_lstD (K := K) (α := Tu (Tu Int)) (xs := [⟨[]⟩]) (ea_cons ((ev_tup ea_nil (by simp)).le fun _ _ r => is_tup.mpr r) ea_nil)) (S5.trans s6) fun v6 B7 H7 S7 s7 r6 => ?_
        have A7 := A6.step s7
        have R5 : (Is K p).P v5 B7 := Rp.mono _ s7.bb r5
        have R2' : (Is K f).P v2 B7 := Rp.mono _ (eB4.trans (e46.trans s7.bb)) R2
        refine q_forD (xs := p.1) (Ri := Is K) (J := fun x => JN 7 (Is K x)) (ei_listD (ev_ixT (K := K) (R := Is K p.1) (i := 0) ((ev_var (i := 5) rfl R5).le fun _ _ => is_pair.mp) ev_int rfl)) S7 (fun x => go_name)
          (fun pre2 σ1 B1 H1 => ∃ v6 o7 o8 o9, σ1 = [some v0, some v1, some v2, some (.int (f.length : Int)), some (.ref l), some v5, some v6, o7, o8, o9, none] ∧ (Is K (seats f pre2.length)).P v6 B1 ∧ Acc C H (Is K) l (f ++ pre.flatMap fun p => made p f) B1 H1)
          (fun B1 H1 S1 s1 => ⟨v6, o7, o8, o9, rfl, Rp.mono _ s1.bb r6, A7.step s1⟩) (fun pre2 x2 post2 σ1 B8 H8 B9 H9 hx2 S8 e8 ⟨v6, o7, o8, o9, hs, r6, A8⟩ s9 σ2 j => ?_) (fun σ1 B8 H8 S8 e8 ⟨v6, o7, o8, o9, hs, r6, A8⟩ => ?_)
        · subst hs
          obtain ⟨v7, r7, rfl⟩ := j
          have hpl2 := pre_len hx2
          have A9 := A8.step s9
          refine q_new (Ra := Is K) (α := Tu (Tu Int)) (S8.trans s9) fun l2 hl2 S10 A10 => ?_
          have nl : l ≠ l2 := fun z => by
            subst z
            obtain ⟨vs, g, _⟩ := A9.is
            rw [hl2] at g; cases g
          have A9' := A9.far (o := .lst []) nl
          refine q_forD (xs := seats f pre2.length) (Ri := Is K) (J := fun s => JN 9 (Is K s)) (ei_listD (ev_var (i := 6) rfl (Rp.mono _ s9.bb r6))) S10 (fun x => go_name)
            (fun pre3 σ1 B1 H1 => ∃ o9, σ1 = [some v0, some v1, some v2, some (.int (f.length : Int)), some (.ref l), some v5, some v6, some v7, some (.ref l2), o9, none] ∧ Acc C H (Is K) l (f ++ pre.flatMap fun p => made p f) B1 H1 ∧ Acc C H (Is K) l2 (pre3.flatMap fun one => f.map fun r => (⟨one.l ++ [r]⟩ : Tu (Tu Int))) B1 H1)
            (fun B1 H1 S1 s1 => ⟨o9, rfl, A9'.step s1, A10.step s1⟩) (fun pre3 one post3 σ1 B11 H11 B12 H12 hx3 S11 e11 ⟨o9, hs, A11, L11⟩ s12 σ2 j => ?_) (fun σ1 B11 H11 S11 e11 ⟨o9, hs, A11, L11⟩ => ?_)
          · subst hs
            obtain ⟨v9, r9, rfl⟩ := j
            have e712 : Ex B7 B12 := e8.trans (s9.bb.trans (e11.trans s12.bb))
            have hlen : ∀ l : List (Tu (Tu Int)), (l.flatMap fun one => f.map fun r => (⟨one.l ++ [r]⟩ : Tu (Tu Int))).length = l.length * f.length := fun l => by
              induction l with
              | nil => simp
              | cons x l ih => rw [List.flatMap_cons, List.length_append, ih, List.length_map, List.length_cons, Nat.succ_mul]; omega
            have hp3 := pre_len hx3
            have hsz : (pre3.length + 1) * f.length ≤ 1000000 := by
              refine Nat.le_trans (Nat.mul_le_mul_right _ hp3) ?_
              rw [seats_len, ← Nat.pow_succ]
              exact pwp _ hpl2
            have hone : one ∈ seats f pre2.length := by rw [hx3]; simp
            have hol := (seats_each f _ one hone).1
            refine s_ext (K := K) (ys := f.map fun r => (⟨one.l ++ [r]⟩ : Tu (Tu Int))) (L11.step s12) (ev_var (i := 8) rfl rfl) ((ev_lcMD (K := K) (xs := f) (fun r => (⟨one.l ++ [r]⟩ : Tu (Tu Int))) (ei_listD (ev_var (i := 2) rfl (Rp.mono _ e712 R2'))) (by omega) (fun x => go_name) fun r σ2 B' hb eb j => ?_).le fun _ _ => is_lst.mp) (S11.trans s12) ?_ fun B13 H13 H14 S14 s13 far L14 => ⟨B13, S14, s12.bb.trans s13.bb, some v9, rfl, ?_, by rw [List.flatMap_append, List.flatMap_singleton]; exact L14⟩
            · obtain ⟨v, hv, rfl⟩ := j
              exact ⟨rfl, ev_catTD (K := K) (xs := one) (ys := ⟨[r]⟩) (ev_var (i := 9) rfl (Rp.mono _ eb r9)) ((ev_tup (Rs := [Is K r]) (ea_cons (ev_var (i := 10) rfl hv) ea_nil) (by simp)).le fun _ _ r => is_tup.mpr r) (by rw [hol]; simp; omega)⟩
            · rw [hlen, List.length_map]
              rw [Nat.succ_mul] at hsz; omega
            · have A13 := (A11.step s12).step s13
              obtain ⟨vs, z1, z2⟩ := A13.is
              exact ⟨A13.new, A13.off, A13.nm, vs, far l _ nl z1, z2⟩
          · subst hs
            obtain ⟨B12, S12, e12, rl, keep⟩ := L11.frz S11
            have A12 : Acc C H (Is K) l (f ++ pre.flatMap fun p => made p f) B12 H11 := A11.keep (keep l nl A11.off) e12
            refine s_asg (i := 6) (R := Is K (seats f (pre2.length + 1))) (ev_var (i := 8) rfl (is_lst.mpr rl)) S12 fun v B13 H13 S13 s13 r13 => ?_
            exact ⟨B13, S13, s9.bb.trans (e11.trans (e12.trans s13.bb)), v, some v7, some (.ref l2), o9, rfl, by rw [List.length_append, List.length_singleton]; exact r13, A12.step s13⟩
        · subst hs
          have hol : ∀ s ∈ seats f p.1.length, s.l.length = p.1.length ∧ ∀ x ∈ s.l, x ∈ f := fun s h => seats_each f _ s h
          have R5' : (Is K p).P v5 B8 := Rp.mono _ e8 R5
          refine s_ext (K := K) (ys := made p f) A8 (ev_var (i := 4) rfl rfl) ((ev_lcMD (K := K) (xs := seats f p.1.length) (fun s => (⟨stl p.1 p.2 s.l⟩ : Tu Int)) (ei_listD (ev_var (i := 6) rfl r6)) (by rw [seats_len]; exact Nat.le_trans (pwp _ (Nat.le_refl _)) (by decide)) (fun x => go_name) fun s σ2 B' hb eb j => ?_).le fun _ _ => is_lst.mp) S8 ?_ fun B9 H9 H10 S10 s10 _ A10 => ⟨B9, S10, s6.bb.trans (s7.bb.trans (e8.trans s10.bb)), some v5, some v6, o7, o8, o9, rfl, by rw [List.flatMap_append, List.flatMap_singleton, ← List.append_assoc]; exact A10⟩
          · obtain ⟨v, hv, rfl⟩ := j
            obtain ⟨h1, h2⟩ := hol s hb
            exact ⟨rfl, ev_call (p := p__law_settle K) (p, s.l) (ea_cons (ev_var (i := 5) rfl (Rp.mono _ eb R5')) (ea_cons (ev_var (i := 9) rfl hv) ea_nil)) ⟨h1, fun r hr => by rw [rl r (h2 r hr)]; exact Nat.le_of_eq pok.l2, pok.q, pok.ne, by show p.1.length ≤ 1000; omega, by show p.2.length ≤ 1000; rw [pok.l2]; exact w2⟩⟩
          · have h1 := flat_len (fun p => made p f) 1000000 pre fun x hx' => ml x (by rw [hx]; simp [hx'])
            have h2 := ml p hp
            have h3 : pre.length * 1000000 ≤ 9 * 1000000 := Nat.mul_le_mul_right _ (by have h : plans.length ≤ 10 := pl; omega)
            have rs' : f.length ≤ 1000 := rs
            rw [List.length_append]; omega
      · subst hs
        obtain ⟨B8, S8, e8, r8, _⟩ := A5.frz S5
        refine s_asg (i := 2) (R := NewL B8 ((rnd plans f).map (Is K))) (ev_ssN (K := K) (xs := rndAll plans f) (ev_var (i := 4) rfl (is_lst.mpr r8)) fewA fun x hx => ?_) S8 fun u2 B9 H9 S9 s9 r9 => ?_
        · have hxl : x.l.length = w := by
            rcases List.mem_append.mp hx with hx | hx
            · exact rl x hx
            · obtain ⟨p, hp, hx⟩ := List.mem_flatMap.mp hx
              obtain ⟨s, _, rfl⟩ := List.mem_map.mp hx
              show (stl p.1 p.2 s.l).length = w
              rw [stl_len, (ps p hp).l2]
          intro z
          rw [z] at hxl
          have hxl : (0 : Nat) = w := hxl
          have : 1 ≤ w := w1
          omega
        · refine ⟨n, Nat.lt_succ_self _, B9, rnd plans f, (f.length : Int), u2, some (.ref l), o5, o6, o7, o8, o9, rfl, S9, e2.trans (eB4.trans (e5.trans (e8.trans s9.bb))), newL_ex S8.bb _ _ r9, gs f hG, ?_⟩
          have hun : evr plans (n + 1) f = if (rnd plans f).length = f.length then rnd plans f else evr plans n (rnd plans f) := rfl
          by_cases hlen : (f.length : Int) = ((rnd plans f).length : Int)
          · rw [if_pos hlen, ← hev, hun, if_pos (by omega)]
          · rw [if_neg hlen]
            rw [hun, if_neg (by omega)] at hev
            refine ⟨?_, hev⟩
            rcases hse with h | h
            · exact absurd h (by omega)
            · exact h
end
end Pk

/-! The law's shelves: few rows, so that everything that comes is found. Plain; and rules for the law's draws. -/
namespace Pk
open PySem L2
open Enc (enc dep)
def GB (lo : Int) (n w : Nat) (f : List (Tu Int)) : Prop := f.Nodup ∧ ∀ r ∈ f, InB lo n w r
structure Pl9 (w : Nat) (plans : List (List Int × List Int)) : Prop where
  pl : plans.length ≤ 10
  ps : ∀ p ∈ plans, WsOk p.1 ∧ QsOk p.2 p.1.sum ∧ p.2.length = w ∧ p.1.length ≤ 4
theorem ses_of' {p : List Int × List Int} (h1 : WsOk p.1) (h2 : QsOk p.2 p.1.sum) : SesOk p := ⟨fun z => by have := h1.l2; rw [z] at this; simp at this, fun w hw => by have := (h1.r w hw).1; omega, h2.r⟩
theorem Pl9.so {w : Nat} {plans : List (List Int × List Int)} (h : Pl9 w plans) : ∀ p ∈ plans, SesOk p ∧ p.2.length = w := fun p hp => ⟨ses_of' (h.ps p hp).1 (h.ps p hp).2.1, (h.ps p hp).2.2.1⟩
theorem stops_of {plans : List (List Int × List Int)} {G : List (Tu Int) → Prop} {N : Nat} (gs : ∀ f, G f → G (rnd plans f)) (gN : ∀ f, G f → f.Nodup ∧ f.length ≤ N) : ∀ (n : Nat) (f : List (Tu Int)), G f → N < n + f.length → stopsE plans n f
  | 0, f, hG, h => by have := (gN f hG).2; omega
  | n + 1, f, hG, h => by
    by_cases e : (rnd plans f).length = f.length
    · exact .inl e
    · have hle : f.length ≤ (rnd plans f).length := nodup_subL _ _ (gN f hG).1 fun y hy => rnd_sup hy
      exact .inr (stops_of gs gN n _ (gs f hG) (by omega))
theorem evr_G {plans : List (List Int × List Int)} {G : List (Tu Int) → Prop} (gs : ∀ f, G f → G (rnd plans f)) : ∀ (n : Nat) (f : List (Tu Int)), G f → G (evr plans n f)
  | 0, f, h => h
  | n + 1, f, h => by
    unfold evr
    split
    · exact gs f h
    · exact evr_G gs n _ (gs f h)
section
variable {lo : Int} {n w : Nat} {plans : List (List Int × List Int)} {X : List (Tu Int)}
theorem gb_len {f : List (Tu Int)} (n9 : n ^ w ≤ 9) (h : GB lo n w f) : f.length ≤ 9 := Nat.le_trans (inB_len h.2 h.1) n9
theorem gb_rnd (hp : Pl9 w plans) {f : List (Tu Int)} (h : GB lo n w f) : GB lo n w (rnd plans f) := ⟨sset_nodup _, fun r hr => rndAll_in hp.so h.2 r (sset_mem.mp hr)⟩
theorem ev_okB (w1 : 1 ≤ w) (w6 : w ≤ 6) (n9 : n ^ w ≤ 9) (hp : Pl9 w plans) (hX : ∀ r ∈ X, InB lo n w r) : EvOk ⟨w, plans, X, GB lo n w⟩ := by
  have few : ∀ rs : List (Tu Int), (∀ r ∈ rs, InB lo n w r) → FewT rs := fun rs h L hL nd => by
    have := inB_len (fun r hr => h r (hL r hr)) nd
    omega
  refine ⟨few X hX, fun r hr z => ?_, ⟨sset_nodup _, fun r hr => hX r (sset_mem.mp hr)⟩, fun f hf => ?_, fun f hf => gb_rnd hp hf, ?_⟩
  · have := (hX r hr).w
    rw [z] at this
    have this : (0 : Nat) = w := this
    omega
  · have h9 := gb_len n9 hf
    refine ⟨hp.pl, fun p hp' => ⟨(hp.so p hp').1.ne, fun y hy => ((hp.so p hp').1.q y hy).1, (hp.ps p hp').1.l7, (hp.so p hp').2⟩, w1, by show w ≤ 1000; omega, fun r hr => (hf.2 r hr).w, fun p hp' m hm => ?_, by show f.length ≤ 1000; omega, few _ (rndAll_in hp.so hf.2)⟩
    have h4 := (hp.ps p hp').2.2.2
    refine Nat.le_trans (Nat.pow_le_pow_left h9 m) (Nat.le_trans (Nat.pow_le_pow_right (by decide) (show m ≤ 4 by omega)) (by decide))
  · exact stops_of (G := GB lo n w) (N := 9) (fun f hf => gb_rnd hp hf) (fun f hf => ⟨hf.1, gb_len n9 hf⟩) 64 _ ⟨sset_nodup _, fun r hr => hX r (sset_mem.mp hr)⟩ (by omega)
theorem made_inB (hp : Pl9 w plans) (hX : ∀ r ∈ X, InB lo n w r) {y : Tu Int} (h : Made plans X y) : InB lo n w y := by
  induction h with
  | told h => exact hX _ h
  | made hp' hlen _ ih => exact stl_in (hp.so _ hp').1 (hp.so _ hp').2 hlen ih
theorem in_evr (n9 : n ^ w ≤ 9) (hp : Pl9 w plans) (hX : ∀ r ∈ X, InB lo n w r) (r : Tu Int) : r ∈ evr plans 64 (sset X) ↔ Made plans X r :=
  evr_made 64 (sset X) (sset_nodup _) (fun x hx => sset_mem.mpr hx) (fun x hx => .told (sset_mem.mp hx)) (fun g nd hg => by
    have : g.length ≤ 9 := gb_len (lo := lo) n9 ⟨nd, fun r hr => made_inB hp hX (hg r hr)⟩
    omega) r
theorem makes_evr (n9 : n ^ w ≤ 9) (hp : Pl9 w plans) {rows : List (Tu Int)} (hr : ∀ r ∈ rows, r.l.length = w) (ne : rows ≠ []) (hX : ∀ r ∈ X, InB lo n w r) {r : Tu Int} (hrw : r.l.length = w) : makesB (partsFor rows plans) X r = decide (r ∈ evr plans 64 (sset X)) := by
  have h0 : 0 < rows.length := List.length_pos_iff.mpr ne
  have ep : partsFor rows plans = lightSets plans (sidesW w) := by
    unfold partsFor
    rw [if_pos ne, hr _ (by rw [getD_lt h0]; exact List.getElem_mem h0)]
  rw [ep]
  have h1 := makes_iff (X := X) hp.so (parts_ok hp.so) (fun x hx => (hX x hx).w) hrw
  have h2 := in_evr n9 hp hX r
  rw [← h2] at h1
  cases hb : makesB (lightSets plans (sidesW w)) X r with
  | true => exact (decide_eq_true (h1.mp hb)).symm
  | false => exact (decide_eq_false fun z => by rw [h1.mpr z] at hb; cases hb).symm
end
structure T85 (t : Int × Int × Int) : Prop where
  w1 : 1 ≤ t.1
  w3 : t.1 ≤ 3
  t1 : 1 ≤ t.2.1
  t3 : t.2.1 ≤ 3
  m2 : 2 ≤ t.2.2
  m4 : t.2.2 ≤ 4
  n9 : (t.2.1 + 1).toNat ^ t.1.toNat ≤ 9
def shift (d : Int) (r : Tu Int) : Tu Int := ⟨r.l.map fun e => e - d⟩
theorem shift_in {d : Int} {n w : Nat} {r : Tu Int} (h : InB 0 n w r) : InB (-d) n w (shift d r) := ⟨by show (r.l.map _).length = _; rw [List.length_map]; exact h.w, fun e he => by
  obtain ⟨e', he', rfl⟩ := List.mem_map.mp he
  have := h.e e' he'
  omega⟩
/-! ### rules for what the law draws -/
section
variable {C : MI} {K : PySem.W.Frag} {σ : L2.St} {B0 H0 B H T : Hp} {te ta ti : TE} {t : TA} {tu tz : TS} {D : Ends} {g : TG} {R R1 R2 R3 : Rp} {i j m : Nat} {α β : Type} {Ra : α → Rp} {l : Addr} {xs : List α} {p : α → Prop}
theorem noLst_tu : NoLst K (Tu Int) := by
  constructor
  · intro x B b ys h
    obtain ⟨a, vs, h1, h2, _⟩ := is_tup.mp h
    cases h1
    rw [h2]; exact fun z => nomatch z
  · intro x v B P h hP
    obtain ⟨a, vs, h1, h2, h3⟩ := is_tup.mp h
    refine is_tup.mpr ⟨a, vs, h1, ?_, args_ints.mpr (args_ints.mp h3)⟩
    rw [remS_out fun p => by obtain ⟨ys, e⟩ := hP a p; rw [h2] at e; cases e]
    exact h2
/-- a new list of data without lists, made while an own list is looked at -/
theorem Acc.peekL [Enc β] (hβ : NoLst K β) {ys : List β} (a : Acc C H0 Ra l xs B H) (k : Ok C B H) (h : ∀ T, Ex B T → Ok C T H → (LstR (xs.map Ra)).P (.ref l) T → Ev C te σ T (NewL T (ys.map (Is K)))) : EvAt C te σ B H (NewL B (ys.map (Is K))) := fun Q q => by
  obtain ⟨vs, h1, h2⟩ := a.is
  have kT : Ok C (upd B l (.lst vs)) H := k.frz a.off a.nm h1
  have eT : Ex B (upd B l (.lst vs)) := .new a.off
  refine h _ eT kT ⟨l, vs, rfl, upd_same, h2.mono eT⟩ _ H (.refl _) kT _ fun v B2 H2 s ⟨p, zs, e1, e2, e3, e4⟩ => ?_
  have npl : p ≠ l := fun z => by subst z; rw [upd_same] at e2; cases e2
  have er : rem B2 l = remS B2 fun a => a = l := funext fun a => by
    by_cases z : a = l
    · rw [z, rem_same, remS_in (P := fun a => a = l) rfl]
    · rw [rem_ne z, remS_out (P := fun a => a = l) z]
  refine q v (rem B2 l) H2 (s.rem a.off a.nm) ⟨p, zs, e1, eT.un e2, by rw [rem_ne npl]; exact e3, ?_⟩
  rw [er]
  exact Paired.pkMap.mpr ((Paired.pkMap.mp e4).pkImp fun d v hv => hβ.rem d v B2 _ hv fun a ha => by subst ha; exact ⟨vs, s.bb _ _ upd_same⟩)
theorem ev_lcRS {ti : TE} {vs : List Nat} {q : α → Prop} {F : α → Rp} {p : Int → Prop} (h : Ev C te σ B (SomeR p (Is K))) (hp : ∀ n, p n → -1000000000000000000 ≤ n ∧ n ≤ 1000000000000000000) (hk : ∀ n, p n → Ev C (tLc (wiR n) g tYes ti vs) σ B (SomeR q F)) :
    Ev C (tLc (iRng1 (tCons te tNil)) g tYes ti vs) σ B (SomeR q F) := fun B1 H1 e k Q q =>
  rng1_some (h.mono e) hp k _ fun n B2 H2 hn s => (hk n hn) B2 H2 (e.trans s.bb) s.ok Q fun v B3 H3 s3 r3 => q v B3 H3 (s.trans s3) r3
theorem rv_catD [Enc α] {xs ys : List α} (hl : xs.length + ys.length ≤ 16000000) : RV C rCat (Is K xs) (Is K ys) B (Is K (xs ++ ys)) := fun x y B1 H1 _ k hx hy Q q => by
  obtain ⟨a, vs, h1, h2, h3⟩ := is_lst.mp hx
  obtain ⟨b, us, g1, g2, g3⟩ := is_lst.mp hy
  refine ⟨a, b, vs, us, h1, g1, k.sub _ _ h2, k.sub _ _ g2, ?_, fun p hp => q _ _ _ (k.new hp) (is_lst.mpr ⟨p, _, rfl, upd_same, ?_⟩)⟩
  · rw [← h3.pkLen, ← g3.pkLen, List.length_map, List.length_map]; exact Nat.le_trans hl (by decide)
  · rw [List.map_append]; exact Args.mono (Ex.new (k.sub.un hp)) (Paired.pkApp h3 g3)
theorem q_forRAt {n : Int} (h : EvAt C te σ B H (Is K n)) (hn : -1000000000000000000 ≤ n ∧ n ≤ 1000000000000000000) (S : Stp C B0 H0 B H) (k : ∀ B2 H2, Stp C B0 H0 B2 H2 → Stp C B H B2 H2 → tSeq (tFor (wiR n) g tu) tz D σ H2) : tSeq (tFor (iRng1 (tCons te tNil)) g tu) tz D σ H :=
  h _ fun v B2 H2 s r => ⟨n, by rw [is_int.mp r], by omega, by omega, k B2 H2 (S.trans s) s⟩
/-- x.insert(i, e), e known in part -/
theorem s_insS (a : Acc C H0 Ra l xs B H) (hx : σ[i]? = some (some (.ref l))) (h : EvAt C ta σ B H (SomeR (fun i : Int => 0 ≤ i ∧ i ≤ xs.length) (Is K))) (he : Ev C te σ B (SomeR p Ra)) (S : Stp C B0 H0 B H) (hl : xs.length < 16000000)
    (k : ∀ n x B2 H3, p x → Stp C B0 H0 B2 H3 → Ex B B2 → Acc C H0 Ra l (xs.take n ++ [x] ++ xs.drop n) B2 H3 → D.nx σ H3) : tDrop (tBM K "list" rIns (tVar i) (tCons ta (tCons te tNil))) D σ H := by
  obtain ⟨vs1, g1, _⟩ := a.is
  refine ⟨.ref l, hx, .inl ⟨rfl, _, rd_l g1⟩, h _ fun w B2 H2 s2 ⟨n, hn, r2⟩ => he B2 H2 s2.bb s2.ok _ fun u B3 H3 s3 ⟨x, hpx, r3⟩ => ?_⟩
  have a3 := (a.step s2).step s3
  obtain ⟨vs, h1, h2⟩ := a3.is
  have en : w = .int n := is_int.mp r2
  subst en
  refine ⟨l, vs, n, u, rfl, rfl, h1, ?_, hn.1, ?_, k n.toNat x B3 _ hpx ((S.trans (s2.trans s3)).loc a.new a3.off a.nm) (s2.bb.trans s3.bb) ⟨a.new, a3.off, a.nm, _, upd_same, ?_⟩⟩
  · rw [← h2.pkLen, List.length_map]; exact Nat.lt_of_lt_of_le hl (by decide)
  · have := hn.2; omega
  · rw [List.map_append, List.map_append, List.map_take, List.map_drop]
    exact Paired.pkApp (Paired.pkApp (args_take _ h2) (.cons r3 .nil)) (args_drop _ h2)
theorem q_par3 (h : EvA C t σ B [R1, R2, R3]) (S : Stp C B0 H0 B H) (k : ∀ u v w B2 H2, Stp C B0 H0 B2 H2 → Stp C B H B2 H2 → R1.P u B2 → R2.P v B2 → R3.P w B2 → tz D (((σ.set i (some u)).set j (some v)).set m (some w)) H2) : tSeq (tPar3 i j m t) tz D σ H :=
  h B H (.refl _) S.ok _ fun vs B2 H2 s r => by
    cases r with
    | cons r t =>
      cases t with
      | cons r' t =>
        cases t with
        | cons r'' t => cases t; exact ⟨_, _, _, rfl, k _ _ _ B2 H2 (S.trans s) s r r' r''⟩
theorem rv_mul01 {b : Bool} {q : Int → Prop} {p : Int → Prop} (h : ∀ z, p z → q ((if b = true then 1 else 0) * z)) : RV C rMulI (Is K (if b = true then (1 : Int) else 0)) (SomeR p (Is K)) B (SomeR q (Is K)) := rv_some fun z hz =>
  (rv_I (K := K) (c := CMul) (g := fun i j => .int (i * j)) (S := Is K ((if b = true then (1 : Int) else 0) * z)) (.inl (by cases b <;> decide)) fun _ => .int _).le (some_in (F := Is K) (h z hz))
end
end Pk

/-! What can be shown. -/
namespace Pk
open PySem L2
open Enc (enc dep)
structure Rep (d : PyData) (w : Nat) : Prop where
  sh : d.showable = true
  ls : d.leavesShort 20 = true
  wt : d.weight ≤ w
theorem showAll_of {ds : List PyData} : (∀ d ∈ ds, d.showable = true) → PyData.showableAll ds = true := by
  induction ds with
  | nil => intro _; rfl
  | cons d ds ih => intro h; simp only [PyData.showableAll, Bool.and_eq_true]; exact ⟨h d List.mem_cons_self, ih fun x hx => h x (List.mem_cons_of_mem _ hx)⟩
theorem leavesAll_of {ds : List PyData} : (∀ d ∈ ds, d.leavesShort 20 = true) → PyData.leavesShortAll 20 ds = true := by
  induction ds with
  | nil => intro _; rfl
  | cons d ds ih => intro h; simp only [PyData.leavesShortAll, Bool.and_eq_true]; exact ⟨h d List.mem_cons_self, ih fun x hx => h x (List.mem_cons_of_mem _ hx)⟩
theorem weightAll_le {ds : List PyData} {w : Nat} : (∀ d ∈ ds, d.weight ≤ w) → PyData.weightAll ds ≤ ds.length * (w + 1) := by
  induction ds with
  | nil => intro _; simp [PyData.weightAll]
  | cons d ds ih =>
    intro h
    have h1 := ih fun x hx => h x (List.mem_cons_of_mem _ hx)
    have h2 := h d List.mem_cons_self
    simp only [PyData.weightAll]
    rw [List.length_cons, Nat.succ_mul]; omega
theorem Rep.list {α : Type} [Enc α] {xs : List α} {w k : Nat} (h : ∀ x ∈ xs, Rep (enc x) w) (hk : xs.length ≤ k) : Rep (enc xs) (k * (w + 1)) := by
  have e : enc xs = .list (xs.map enc) := rfl
  have g : ∀ d ∈ xs.map enc, Rep d w := fun d hd => by
    obtain ⟨x, hx, rfl⟩ := List.mem_map.mp hd
    exact h x hx
  rw [e]
  refine ⟨?_, ?_, ?_⟩
  · simp only [PyData.showable]; exact showAll_of fun d hd => (g d hd).sh
  · simp only [PyData.leavesShort]; exact leavesAll_of fun d hd => (g d hd).ls
  · simp only [PyData.weight]
    have h1 := weightAll_le (ds := xs.map enc) (w := w) fun d hd => (g d hd).wt
    rw [List.length_map] at h1
    exact Nat.le_trans h1 (Nat.mul_le_mul_right _ hk)
theorem rep_int {i : Int} (h : -1000000000000000000 ≤ i ∧ i ≤ 1000000000000000000) : Rep (.int i) 60 := by
  have hn : i.natAbs < 2 ^ 60 := by omega
  have hn2 : i.natAbs < 10 ^ 19 := by omega
  have hl : i.natAbs = 0 ∨ i.natAbs.log2 < 60 := by
    by_cases z : i.natAbs = 0
    · exact .inl z
    · exact .inr ((Nat.log2_lt z).mpr hn)
  refine ⟨?_, ?_, ?_⟩
  · simp only [PyData.showable, decide_eq_true_eq]
    rcases hl with z | z
    · rw [z]; decide
    · omega
  · simp only [PyData.leavesShort, decide_eq_true_eq]
    show (Str.ofString (toString i)).length ≤ 20
    rw [ofString_length]
    exact int_text_length_le10 (k := 19) (by decide) hn2
  · simp only [PyData.weight]
    split
    · omega
    · rename_i hz
      rcases hl with z | z
      · exact absurd (by simp; omega) hz
      · omega
theorem rep_bd {b : Bd} (hc : 0 ≤ b.c ∧ b.c < 10) (hv : -1000000000000000000 ≤ b.v ∧ b.v ≤ 1000000000000000000) : Rep (enc b) 140 := by
  have r1 := rep_int (i := b.c) (by omega)
  have r2 := rep_int (i := b.v) hv
  have rs : Rep (.str b.w.s) 5 := by
    cases b.w
    · exact ⟨rfl, by decide +kernel, by decide +kernel⟩
    · exact ⟨rfl, by decide +kernel, by decide +kernel⟩
  have e : enc b = .tuple [.int b.c, .str b.w.s, .int b.v] := rfl
  rw [e]
  refine ⟨?_, ?_, ?_⟩
  · simp only [PyData.showable, PyData.showableAll, Bool.and_eq_true]
    have := r1.sh; have := r2.sh
    simp only [PyData.showable] at *
    simp_all
  · have h1 := r1.ls; have h2 := r2.ls; have h3 := rs.ls
    simp only [PyData.leavesShort, PyData.leavesShortAll, Bool.and_eq_true] at *
    exact ⟨h1, h3, h2, trivial⟩
  · have h1 := r1.wt; have h2 := r2.wt; have h3 := rs.wt
    simp only [PyData.weight, PyData.weightAll] at *
    omega
theorem show_of {α : Type} [Enc α] {xs : List α} {w : Nat} (h : Rep (enc xs) w) (hw : 22 * w + 20 ≤ 16777216) (hd : dep (List α) ≤ 60 := by decide) : ShowOk (enc xs) := by
  refine ⟨h.sh, PyData.hasDict_of_canLay _ (Enc.lay xs), Nat.le_trans (Enc.depth xs) hd, ?_, (Enc.inj xs xs).mpr rfl, Enc.shaped xs (Nat.le_trans hd (by decide)), .inl ⟨_, rfl⟩⟩
  have h1 := PyData.shown_le 20 (by decide) (enc xs) h.ls
  have h2 : (20 + 2) * (enc xs).weight ≤ 22 * w := Nat.mul_le_mul_left _ h.wt
  rw [sizeLine_eq]; omega
end Pk

/-! The law's bag. -/
namespace Pk
open PySem L2
open Enc (enc dep)
theorem q_asgQ {σ : L2.St} {H : Hp} {te : TE} {tz : TS} {D : Ends} {i : Nat} (h : te σ H fun v H2 => tz D (σ.set i (some v)) H2) : tSeq (tAsg te (gName i)) tz D σ H := h
section
variable {K : PySem.W.Frag}
theorem pure__law_take (c : Kn0 K) : ∀ vs H Q E, sp__law_take K vs H Q E → t__law_take K { nx := fun _ H' => Q .non H', rt := Q } (start ["bag", "many", "first", "second", "cell", "value"] vs) H := pure_take
def sp__law_bag (K : PySem.W.Frag) : Sp := fun vs H Q _ => ∃ (a : Addr) (ns : List Int), vs = [.ref a] ∧ SqL K H a (ns.map V.int) ∧ ∀ b c ns' H2, BagI b c ns' H2 → Q (.ref b) H2
theorem len__law_bag (K : PySem.W.Frag) : ∀ vs H Q E, sp__law_bag K vs H Q E → vs.length = 1 := fun vs H Q E ⟨a, ns, e, _⟩ => by rw [e]; rfl
def t__law_bag (K : PySem.W.Frag) : TS := (tRet (tLst (tCons (tC (.int 0)) (tCons (tC (.int 1234567891)) (tCons (tC (.int 0)) (tCons (tLc (iList K (tSl (rSlL K) (tVar 0) tNoPart (tPart (tC (.int 63))))) (gName 1) tYes (tCB rAbs (tCons (tVar 1) tNil)) [1]) tNil))))))
theorem pure__law_bag (c : Kn0 K) : ∀ vs H Q E, sp__law_bag K vs H Q E → t__law_bag K { nx := fun _ H' => Q .non H', rt := Q } (start ["script", "cell"] vs) H := by
  rintro vs H Q E ⟨a, ns, rfl, hS, q⟩
  have sl : Ev C0 (tSl (rSlL K) (tVar 0) tNoPart (tPart (tC (.int 63)))) [some (.ref a), none] H (Is K (cut ns none (some 63))) := fun B1 H1 e k Q q =>
    ⟨.ref a, rfl, 63, rfl, a, ns.map V.int, rfl, (e.trans k.sub).l hS, fun p hp => q _ _ _ (k.new hp) (is_lst.mpr ⟨p, _, rfl, upd_same, args_ints.mpr (by unfold cutV cut; rw [List.length_map, List.map_take, List.map_drop])⟩)⟩
  have hl : (cut ns none (some 63)).length ≤ 63 := by
    unfold cut
    rw [show (63 : Int) = ((63 : Nat) : Int) by rfl, HT.sIx_none, HT.sIx_nat, List.length_take]; omega
  have ev : EvA C0 (tCons (tC (.int 0)) (tCons (tC (.int 1234567891)) (tCons (tC (.int 0)) (tCons (tLc (iList K (tSl (rSlL K) (tVar 0) tNoPart (tPart (tC (.int 63))))) (gName 1) tYes (tCB rAbs (tCons (tVar 1) tNil)) [1]) tNil)))) [some (.ref a), none] H [Is K (0 : Int), Is K (1234567891 : Int), Is K (0 : Int), Is K ((cut ns none (some 63)).map fun n => if n < 0 then -n else n)] := by
    refine ea_cons ev_int (ea_cons ev_int (ea_cons ev_int (ea_cons (ev_lcMD (K := K) _ (ei_listD sl) (by omega) (fun x => go_name) fun n σ2 B' hb eb j => ?_) ea_nil)))
    obtain ⟨v, hv, rfl⟩ := j
    exact ⟨rfl, ev_abs (K := K) (ev_var rfl hv)⟩
  unfold t__law_bag tRet tLst
  refine ev H H (.refl _) (ok0 H H (.refl _)) _ fun us B2 H2 s2 r2 => ?_
  obtain _ | @⟨_, u0, _, _, z0, _ | @⟨_, u1, _, _, z1, _ | @⟨_, u2, _, _, z2, _ | @⟨_, u3, _, _, z3, _ | _⟩⟩⟩⟩ := r2
  refine ⟨show 4 ≤ sizeLine by decide, fun p hp => ?_⟩
  obtain ⟨cc, ys, rfl, g2, g3⟩ := is_lst.mp z3
  have hy := args_ints.mp g3
  subst hy
  have hcH := s2.ok.sub _ _ g2
  have npc : p ≠ cc := fun z => by subst z; rw [hp] at hcH; cases hcH
  rw [is_int.mp z0, is_int.mp z1, is_int.mp z2]
  refine q p cc _ _ ⟨⟨0, 1234567891, 0, upd_same, by decide, by decide, by decide⟩, by rw [upd_ne (Ne.symm npc)]; exact hcH, fun n hn => ?_, npc⟩
  obtain ⟨m, _, rfl⟩ := List.mem_map.mp hn
  split <;> omega
end
end Pk

/-! parted. -/
namespace Pk
open PySem L2
open Enc (enc dep)
abbrev Shs := Nat × List (Tu Int) × List (Tu Int)
def partQ (M : List (Tu Int) → Tu Int → Bool) : List Shs → PyData
  | [] => .none
  | p :: ps => match p.2.1.findIdx? (fun r => !M p.2.2 r) with
    | some i => .tuple [.int (p.1 : Int), .int (i : Int)]
    | none => partQ M ps
theorem idx_none {α : Type} {f : α → Bool} : ∀ {l : List α}, (∀ r ∈ l, f r = true) → l.findIdx? (fun r => !f r) = none
  | [], _ => rfl
  | r :: l, h => by
    rw [List.findIdx?_cons, h r List.mem_cons_self]
    show Option.map _ _ = none
    rw [idx_none fun x hx => h x (List.mem_cons_of_mem _ hx)]; rfl
theorem idx_some {α : Type} {f : α → Bool} {r : α} {v : List α} : ∀ {u : List α}, (∀ y ∈ u, f y = true) → f r = false → (u ++ r :: v).findIdx? (fun r => !f r) = some u.length
  | [], _, hr => by
    rw [List.nil_append, List.findIdx?_cons, hr]; rfl
  | y :: u, h, hr => by
    rw [List.cons_append, List.findIdx?_cons, h y List.mem_cons_self]
    show Option.map _ _ = _
    rw [idx_some (fun x hx => h x (List.mem_cons_of_mem _ hx)) hr]; rfl
theorem idx_congr {α : Type} {f g : α → Bool} : ∀ {l : List α}, (∀ r ∈ l, f r = g r) → l.findIdx? (fun r => !f r) = l.findIdx? (fun r => !g r)
  | [], _ => rfl
  | r :: l, h => by
    rw [List.findIdx?_cons, List.findIdx?_cons, h r List.mem_cons_self, idx_congr fun x hx => h x (List.mem_cons_of_mem _ hx)]
theorem partQ_none {M : List (Tu Int) → Tu Int → Bool} : ∀ {ps : List Shs}, (∀ p ∈ ps, ∀ r ∈ p.2.1, M p.2.2 r = true) → partQ M ps = .none
  | [], _ => rfl
  | p :: ps, h => by
    unfold partQ
    rw [idx_none (h p List.mem_cons_self)]
    exact partQ_none fun x hx => h x (List.mem_cons_of_mem _ hx)
theorem partQ_some {M : List (Tu Int) → Tu Int → Bool} {x : Shs} {post : List Shs} {u v : List (Tu Int)} {r : Tu Int} (e : x.2.1 = u ++ r :: v) (hu : ∀ y ∈ u, M x.2.2 y = true) (hr : M x.2.2 r = false) : ∀ {pre : List Shs}, (∀ p ∈ pre, ∀ r ∈ p.2.1, M p.2.2 r = true) → partQ M (pre ++ x :: post) = .tuple [.int (x.1 : Int), .int (u.length : Int)]
  | [], _ => by
    rw [List.nil_append]
    unfold partQ
    rw [e, idx_some hu hr]
  | p :: ps, h => by
    rw [List.cons_append]
    unfold partQ
    rw [idx_none (h p List.mem_cons_self)]
    exact partQ_some e hu hr fun x hx => h x (List.mem_cons_of_mem _ hx)
/-- .none, or a pair of small ints -/
theorem partQ_shape {M : List (Tu Int) → Tu Int → Bool} {n : Nat} : ∀ {ps : List Shs}, (∀ p ∈ ps, p.1 ≤ 1 ∧ p.2.1.length ≤ n) → partQ M ps = .none ∨ ∃ i j : Nat, i ≤ 1 ∧ j ≤ n ∧ partQ M ps = .tuple [.int (i : Int), .int (j : Int)]
  | [], _ => .inl rfl
  | p :: ps, h => by
    unfold partQ
    cases e : p.2.1.findIdx? (fun r => !M p.2.2 r) with
    | none => exact partQ_shape fun x hx => h x (List.mem_cons_of_mem _ hx)
    | some i =>
      have h1 := h p List.mem_cons_self
      have hi : i < p.2.1.length := by
        have := List.findIdx?_eq_some_iff_getElem.mp e
        exact this.1
      exact .inr ⟨p.1, i, h1.1, by omega, rfl⟩
theorem enum_split {α : Type} {l : List α} {pre post : List (Nat × α)} {p : Nat × α} (h : (List.range l.length).zip l = pre ++ p :: post) : l = pre.map Prod.snd ++ p.2 :: post.map Prod.snd ∧ p.1 = pre.length := by
  have h1 : ((List.range l.length).zip l).map Prod.snd = l := List.map_snd_zip (by rw [List.length_range]; exact Nat.le_refl _)
  have h2 : ((List.range l.length).zip l).map Prod.fst = List.range l.length := List.map_fst_zip (by rw [List.length_range]; exact Nat.le_refl _)
  rw [h, List.map_append, List.map_cons] at h1 h2
  refine ⟨h1.symm, ?_⟩
  have hl : pre.length < (List.range l.length).length := by rw [← h2, List.length_append, List.length_map, List.length_cons]; omega
  have h3 : (List.range l.length)[pre.length]? = some p.1 := by
    rw [← h2, List.getElem?_append_right (by rw [List.length_map]; exact Nat.le_refl _), List.length_map, Nat.sub_self]; rfl
  rw [List.length_range] at hl
  rw [List.getElem?_range hl] at h3
  exact (Option.some.inj h3).symm
theorem part_congr {M M' : List (Tu Int) → Tu Int → Bool} : ∀ {ps qs : List Shs}, Paired (fun p q => p.1 = q.1 ∧ p.2.1 = q.2.1 ∧ ∀ r ∈ p.2.1, M p.2.2 r = M' q.2.2 r) ps qs → partQ M ps = partQ M' qs
  | _, _, .nil => rfl
  | _, _, .cons (a := p) (b := q) ⟨h1, h2, h3⟩ t => by
    unfold partQ
    rw [idx_congr h3, h2, h1, part_congr t]
section
variable {K : PySem.W.Frag}
theorem ei_enumF {C : MI} {σ : L2.St} {B : Hp} {t : TA} {α : Type} {F : α → Rp} {xs : List α} (h : EvA C t σ B [LstR (xs.map F)]) : EvI C (iEnum K t) σ B (((List.range xs.length).zip xs).map fun p : Nat × α => TupR [Is K (p.1 : Int), F p.2]) := by
  rw [← enumR_map]; exact ei_enum h
theorem ev_pairD {C : MI} {σ : L2.St} {B : Hp} {ta tb : TE} {i j : Int} (h1 : Ev C ta σ B (Is K i)) (h2 : Ev C tb σ B (Is K j)) : Ev C (tTup (tCons ta (tCons tb tNil))) σ B (DatR K (.tuple [.int i, .int j])) :=
  (ev_pair (K := K) h1 h2).le fun _ _ h => h
theorem ev_nonD {C : MI} {σ : L2.St} {B : Hp} : Ev C (tC .non) σ B (DatR K .none) := fun B1 H1 e k Q q => q _ _ _ k.refl .non
structure PartIn where
  w : Nat
  a : List (Tu Int)
  b : List (Tu Int)
  cs : List (List Int × List Int)
structure PartOk (x : PartIn) : Prop where
  w6 : x.w ≤ 6
  aw : ∀ r ∈ x.a, r.l.length = x.w
  bw : ∀ r ∈ x.b, r.l.length = x.w
  cw : ∀ c ∈ x.cs, x.w ≤ c.2.length
  c : ∀ c ∈ x.cs, c.1 ≠ [] ∧ c.1.length ≤ 7
  n : x.cs.length ≤ 1000
  al : x.a.length ≤ 1000
  bl : x.b.length ≤ 1000
abbrev two (a b : List (Tu Int)) : List Shs := [(0, a, b), (1, b, a)]
def p_parted (K : PySem.W.Frag) : Pm PartIn where
  n := 3
  args x := [Is K x.a, Is K x.b, CouL K x.cs]
  pre x := PartOk x
  res x := DatR K (partQ (fun y r => makesB (partsFor (x.a ++ x.b) x.cs) y r) (two x.a x.b))
abbrev sp_parted (K : PySem.W.Frag) : Sp := (p_parted K).sp
def t_parted (K : PySem.W.Frag) : TS := (tSeq (tAsg (tCall (sp_parts_for K) [] E0 (tCons (tOp rCat (tVar 0) (tVar 1)) (tCons (tVar 2) tNil))) (gName 3))
  (tSeq (tFor (iEnum K (tCons (tLst (tCons (tTup (tCons (tVar 0) (tCons (tVar 1) tNil))) (tCons (tTup (tCons (tVar 1) (tCons (tVar 0) tNil))) tNil))) tNil)) (gTup K 2 (gCons (gName 4) (gCons (gName 5) gNil))) (tSeq (tAsg (tMake (He.ga K "Shelf") (sp_Shelf___init__ K) [] E0 (tCons (tOp (rIxT K) (tVar 5) (tC (.int 1))) (tCons (tVar 3) tNil))) (gName 6))
  (tFor (iEnum K (tCons (tOp (rIxT K) (tVar 5) (tC (.int 0))) tNil)) (gTup K 2 (gCons (gName 7) (gCons (gName 8) gNil))) (tIfS (tNot (tB (tMeth (He.ga K "Shelf") "makes" (sp_Shelf_makes K) [] E0 (tVar 6) (tCons (tVar 8) tNil)))) (tRet (tTup (tCons (tVar 4) (tCons (tVar 7) tNil)))) tNext))))
  (tRet (tC .non))))
theorem len_parted (K : PySem.W.Frag) : ∀ vs H Q E, sp_parted K vs H Q E → vs.length = 3 := Pm.len _ rfl
theorem pure_parted (c : Kn_Shelf K) : ∀ vs H Q E, sp_parted K vs H Q E → t_parted K { nx := fun _ H' => Q .non H', rt := Q } (start ["rows", "others", "councils", "parts", "which", "pair", "shelf", "index", "row"] vs) H := by
  rintro vs H Q E ⟨C, B, ⟨w, xa, xb, cs⟩, k, _, a, ⟨w6, haw, hbw, cw, hc, hn, hal, hbl⟩, q⟩
  have w6 : w ≤ 6 := w6
  have haw : ∀ r ∈ xa, r.l.length = w := haw
  have hbw : ∀ r ∈ xb, r.l.length = w := hbw
  have cw : ∀ c ∈ cs, w ≤ c.2.length := cw
  have hal : xa.length ≤ 1000 := hal
  have hbl : xb.length ≤ 1000 := hbl
  obtain _ | @⟨_, v0, _, _, r0, _ | @⟨_, v1, _, _, r1, _ | @⟨_, v2, _, _, r2, _ | _⟩⟩⟩ := a
  let parts := partsFor (xa ++ xb) cs
  have hab : ∀ r ∈ xa ++ xb, r.l.length = w := fun r hr => by
    rcases List.mem_append.mp hr with h | h
    · exact haw r h
    · exact hbw r h
  let M : List (Tu Int) → Tu Int → Bool := fun y r => makesB parts y r
  refine q_asg (R := Is K parts) (ev_call (p := p_parts_for K) ⟨xa ++ xb, cs⟩ (ea_cons (ev_catD (K := K) (ev_var (i := 0) rfl r0) (ev_var (i := 1) rfl r1) (by omega)) (ea_cons (ev_var (i := 2) rfl r2) ea_nil)) ⟨fun r hr => ⟨by rw [hab r hr]; exact w6, fun c hc' => by rw [hab r hr]; exact cw c hc'⟩, hc, hn⟩) k.refl fun v3 B2 H2 S2 s2 r3 => ?_
  have R0 : (Is K xa).P v0 B2 := Rp.mono _ s2.bb r0
  have R1 : (Is K xb).P v1 B2 := Rp.mono _ s2.bb r1
  refine q_forD (xs := two xa xb) (Ri := fun p : Shs => TupR [Is K (p.1 : Int), TupR [Is K p.2.1, Is K p.2.2]]) (J := fun p => JP 4 5 (Is K (p.1 : Int)) (TupR [Is K p.2.1, Is K p.2.2])) (ei_enumF (K := K) (F := fun p : List (Tu Int) × List (Tu Int) => TupR [Is K p.1, Is K p.2]) (xs := [(xa, xb), (xb, xa)]) (ea_cons (ev_lst (ea_cons (ev_tup (ea_cons (ev_var (i := 0) rfl R0) (ea_cons (ev_var (i := 1) rfl R1) ea_nil)) (by simp)) (ea_cons (ev_tup (ea_cons (ev_var (i := 1) rfl R1) (ea_cons (ev_var (i := 0) rfl R0) ea_nil)) (by simp)) ea_nil)) (by simp)) ea_nil)) S2 (fun x => go_pair)
    (fun pre σ1 B1 H1 => ∃ o4 o5 o6 o7 o8, σ1 = [some v0, some v1, some v2, some v3, o4, o5, o6, o7, o8] ∧ ∀ p ∈ pre, ∀ r ∈ p.2.1, M p.2.2 r = true)
    (fun B1 H1 S1 s1 => ⟨none, none, none, none, none, rfl, fun p hp => by cases hp⟩) (fun pre x post σ1 B3 H3 B4 H4 hx S3 e3 ⟨o4, o5, o6, o7, o8, hs, good⟩ s4 σ2 j => ?_) (fun σ1 B3 H3 S3 e3 ⟨o4, o5, o6, o7, o8, hs, good⟩ => ?_)
  · subst hs
    obtain ⟨v4, v5, r4, r5, rfl⟩ := j
    have hxm : x ∈ two xa xb := by rw [hx]; simp
    have hxf : (∀ r ∈ x.2.1, r.l.length = w) ∧ (∀ r ∈ x.2.2, r.l.length = w) ∧ x.2.1.length ≤ 1000 ∧ x.2.2.length ≤ 1000 := by
      simp only [two, List.mem_cons, List.mem_nil_iff, or_false] at hxm
      rcases hxm with rfl | rfl
      · exact ⟨haw, hbw, hal, hbl⟩
      · exact ⟨hbw, haw, hbl, hal⟩
    obtain ⟨h1, h2, h3, h4⟩ := hxf
    refine q_asg (R := ShR K x.2.2 parts) (ev_shelf (K := K) (X := x.2.2) (parts := parts) (ea_cons (ev_ixT (K := K) (Rs := [Is K x.2.1, Is K x.2.2]) (i := 1) (ev_var (i := 5) rfl r5) ev_int rfl) (ea_cons (ev_var (i := 3) rfl (Rp.mono _ (e3.trans s4.bb) r3)) ea_nil))) (S3.trans s4) fun v6 B5 H5 S5 s5 r6 => ?_
    refine s_forD (xs := (List.range x.2.1.length).zip x.2.1) (Ri := fun p : Nat × Tu Int => TupR [Is K (p.1 : Int), Is K p.2]) (J := fun p => JP 7 8 (Is K (p.1 : Int)) (Is K p.2)) (ei_enumF (K := K) (F := Is K) (xs := x.2.1) (ea_cons ((ev_ixT (K := K) (Rs := [Is K x.2.1, Is K x.2.2]) (R := Is K x.2.1) (i := 0) (ev_var (i := 5) rfl (Rp.mono _ s5.bb r5)) ev_int rfl).le fun _ _ => is_lst.mp) ea_nil)) S5 (fun x => go_pair)
      (fun pre2 σ1 B1 H1 => ∃ o7 o8, σ1 = [some v0, some v1, some v2, some v3, some v4, some v5, some v6, o7, o8] ∧ ∀ p ∈ pre2, M x.2.2 p.2 = true)
      (fun B1 H1 S1 s1 => ⟨o7, o8, rfl, fun p hp => by cases hp⟩) (fun pre2 p post2 σ1 B6 H6 B7 H7 hx2 S6 e6 ⟨o7, o8, hs, good2⟩ s7 σ2 j => ?_) (fun σ1 B6 H6 S6 e6 ⟨o7, o8, hs, good2⟩ => ?_)
    · subst hs
      obtain ⟨v7, v8, r7, r8, rfl⟩ := j
      obtain ⟨el, ep⟩ := enum_split hx2
      have hp : p.2 ∈ x.2.1 := by rw [el]; simp
      have e57 := e6.trans s7.bb
      refine s_if (b := !M x.2.2 p.2) (et_not (et_B (K := K) (ev_meth (p := p_Shelf_makes K) ⟨x.2.2, parts, p.2⟩ (ev_var (i := 6) rfl (Rp.mono _ e57 r6)) (ea_cons (ev_var (i := 8) rfl r8) ea_nil) rfl rfl ⟨h4, by show p.2.l.length ≤ 400; rw [h1 _ hp]; omega, fun y hy => by show p.2.l.length ≤ y.l.length; rw [h1 _ hp, h2 y hy]; exact Nat.le_refl _⟩))) (S6.trans s7) (fun e H8 S8 s8 => ?_) (fun e H8 S8 s8 => ?_)
      · have hb : M x.2.2 p.2 = false := by simpa using e
        refine s_ret (ev_pairD (K := K) (ev_var (i := 4) rfl (Rp.mono _ (s5.bb.trans e57) r4)) (ev_var (i := 7) rfl r7)) S8 fun v B9 H9 S9 r9 => q v B9 H9 S9 ?_
        have := partQ_some (M := M) (post := post) el (fun y hy => by
          obtain ⟨p', hp', rfl⟩ := List.mem_map.mp hy
          exact good2 p' hp') hb good
        rw [← hx, List.length_map, ← ep] at this
        show (DatR K (partQ M (two xa xb))).P v B9
        rw [this]; exact r9
      · have hb : M x.2.2 p.2 = true := by simpa using e
        refine ⟨B7, S8, s7.bb, some v7, some v8, rfl, fun p' hp' => ?_⟩
        rcases List.mem_append.mp hp' with h | h
        · exact good2 p' h
        · rw [List.mem_singleton.mp h]; exact hb
    · subst hs
      refine ⟨B6, S6, s4.bb.trans (s5.bb.trans e6), some v4, some v5, some v6, o7, o8, rfl, fun p hp => ?_⟩
      rcases List.mem_append.mp hp with h | h
      · exact good p h
      · rw [List.mem_singleton.mp h]
        intro r hr
        have h1 : ((List.range x.2.1.length).zip x.2.1).map Prod.snd = x.2.1 := List.map_snd_zip (by rw [List.length_range]; exact Nat.le_refl _)
        rw [← h1] at hr
        obtain ⟨p', hp', rfl⟩ := List.mem_map.mp hr
        exact good2 p' hp'
  · subst hs
    refine s_ret (ev_nonD (K := K)) S3 fun v B4 H4 S4 r4 => q v B4 H4 S4 ?_
    show (DatR K (partQ M (two xa xb))).P v B4
    rw [partQ_none good]; exact r4
end
end Pk

/-! What the law of k84 expects; the other shelf that it draws. -/
namespace Pk
open PySem L2
open Enc (enc dep)
section
variable {K : PySem.W.Frag}
structure DueIn4 where
  a : List (Tu Int)
  b : List (Tu Int)
  ca : List (Tu Int)
  cb : List (Tu Int)
def inM (y : List (Tu Int)) (r : Tu Int) : Bool := decide (r ∈ y)
abbrev fourQ (a b ca cb : List (Tu Int)) : List Shs := [(0, a, cb), (1, b, ca)]
def p__law_due (K : PySem.W.Frag) : Pm DueIn4 where
  n := 2
  args x := [Is K (Tu.mk [x.a, x.b]), Is K [x.ca, x.cb]]
  pre x := True
  res x := DatR K (partQ inM (fourQ x.a x.b x.ca x.cb))
abbrev sp__law_due (K : PySem.W.Frag) : Sp := (p__law_due K).sp
def t__law_due (K : PySem.W.Frag) : TS := (tSeq (tFor (iRng1 (tCons (tC (.int 2)) tNil)) (gName 2) (tFor (iEnum K (tCons (tOp (rIxT K) (tVar 0) (tVar 2)) tNil)) (gTup K 2 (gCons (gName 3) (gCons (gName 4) gNil))) (tIfS (tTest (tOp (rNotInD K) (tVar 4) (tOp (rIxL K) (tVar 1) (tOp rSubI (tC (.int 1)) (tVar 2))))) (tRet (tTup (tCons (tVar 2) (tCons (tVar 3) tNil)))) tNext)))
  (tRet (tC .non)))
theorem len__law_due (K : PySem.W.Frag) : ∀ vs H Q E, sp__law_due K vs H Q E → vs.length = 2 := Pm.len _ rfl
theorem pure__law_due (c : Kn0 K) : ∀ vs H Q E, sp__law_due K vs H Q E → t__law_due K { nx := fun _ H' => Q .non H', rt := Q } (start ["pair", "closures", "which", "index", "row"] vs) H := by
  rintro vs H Q E ⟨C, B, ⟨xa, xb, ca, cb⟩, k, _, a, _, q⟩
  obtain _ | @⟨_, v0, _, _, r0, _ | @⟨_, v1, _, _, r1, _ | _⟩⟩ := a
  have r0 : (Is K (Tu.mk [xa, xb])).P v0 B := r0
  have r1 : (Is K [ca, cb]).P v1 B := r1
  let L := fourQ xa xb ca cb
  refine q_forD (xs := rng 0 ((2 : Int)).toNat) (Ri := Is K) (J := fun x => JN 2 (Is K x)) (ei_range1 (K := K) (ea_cons ev_int ea_nil) (by decide)) k.refl (fun x => go_name)
    (fun pre σ1 B1 H1 => ∃ o2 o3 o4, σ1 = [some v0, some v1, o2, o3, o4] ∧ ∀ p ∈ L.take pre.length, ∀ r ∈ p.2.1, inM p.2.2 r = true)
    (fun B1 H1 S1 s1 => ⟨none, none, none, rfl, fun p hp => by cases hp⟩) (fun pre n post σ1 B3 H3 B4 H4 hx S3 e3 ⟨o2, o3, o4, hs, good⟩ s4 σ2 j => ?_) (fun σ1 B3 H3 S3 e3 ⟨o2, o3, o4, hs, good⟩ => ?_)
  · subst hs
    obtain ⟨v2, r2, rfl⟩ := j
    obtain ⟨rfl, hp2⟩ := rng_pre hx
    have hp2 : pre.length < 2 := hp2
    have e04 : Ex B B4 := e3.trans s4.bb
    have R0 : (TupR [Is K xa, Is K xb]).P v0 B4 := is_tup.mp (Rp.mono _ e04 r0)
    obtain ⟨x, hxL, hx1, hxa, hxc⟩ : ∃ x : Shs, L = L.take pre.length ++ x :: L.drop (pre.length + 1) ∧ x.1 = pre.length ∧ atI [Is K xa, Is K xb] (pre.length : Int) = some (Is K x.2.1) ∧ atI [ca, cb] (1 - (pre.length : Int)) = some x.2.2 := by
      have h : pre.length = 0 ∨ pre.length = 1 := by omega
      rcases h with h | h
      · rw [h]; exact ⟨(0, xa, cb), rfl, rfl, rfl, rfl⟩
      · rw [h]; exact ⟨(1, xb, ca), rfl, rfl, rfl, rfl⟩
    refine s_forD (xs := (List.range x.2.1.length).zip x.2.1) (Ri := fun p : Nat × Tu Int => TupR [Is K (p.1 : Int), Is K p.2]) (J := fun p => JP 3 4 (Is K (p.1 : Int)) (Is K p.2)) (ei_enumF (K := K) (F := Is K) (xs := x.2.1) (ea_cons ((ev_ixT (K := K) (Rs := [Is K xa, Is K xb]) (R := Is K x.2.1) (i := (pre.length : Int)) (ev_var (i := 0) rfl R0) (ev_var (i := 2) rfl r2) hxa).le fun _ _ => is_lst.mp) ea_nil)) (S3.trans s4) (fun x => go_pair)
      (fun pre2 σ1 B1 H1 => ∃ o3 o4, σ1 = [some v0, some v1, some v2, o3, o4] ∧ ∀ p ∈ pre2, inM x.2.2 p.2 = true)
      (fun B1 H1 S1 s1 => ⟨o3, o4, rfl, fun p hp => by cases hp⟩) (fun pre2 p post2 σ1 B6 H6 B7 H7 hx2 S6 e6 ⟨o3, o4, hs, good2⟩ s7 σ2 j => ?_) (fun σ1 B6 H6 S6 e6 ⟨o3, o4, hs, good2⟩ => ?_)
    · subst hs
      obtain ⟨v3, v4, r3, r4, rfl⟩ := j
      obtain ⟨el, ep⟩ := enum_split hx2
      have e47 := e6.trans s7.bb
      refine s_if (b := decide (p.2 ∉ x.2.2)) (et_test (ev_nin (K := K) (x := p.2) (xs := x.2.2) (ev_var (i := 4) rfl r4) (ev_ixLd (K := K) (xs := [ca, cb]) (ev_var (i := 1) rfl (Rp.mono _ (e04.trans e47) r1)) (ev_i (K := K) (g := fun i j => i - j) ev_int (ev_var (i := 2) rfl (Rp.mono _ e47 r2))) hxc))) (S6.trans s7) (fun e H8 S8 s8 => ?_) (fun e H8 S8 s8 => ?_)
      · have hb : inM x.2.2 p.2 = false := decide_eq_false (of_decide_eq_true e)
        refine s_ret (ev_pairD (K := K) (ev_var (i := 2) rfl (Rp.mono _ e47 r2)) (ev_var (i := 3) rfl r3)) S8 fun v B9 H9 S9 r9 => q v B9 H9 S9 ?_
        have := partQ_some (M := inM) (post := L.drop (pre.length + 1)) el (fun y hy => by
          obtain ⟨p', hp', rfl⟩ := List.mem_map.mp hy
          exact good2 p' hp') hb good
        rw [← hxL, List.length_map, ← ep, hx1] at this
        show (DatR K (partQ inM L)).P v B9
        rw [this]; exact r9
      · have hb : inM x.2.2 p.2 = true := by
          have := of_decide_eq_false e
          exact decide_eq_true (Classical.not_not.mp this)
        refine ⟨B7, S8, s7.bb, some v3, some v4, rfl, fun p' hp' => ?_⟩
        rcases List.mem_append.mp hp' with h | h
        · exact good2 p' h
        · rw [List.mem_singleton.mp h]; exact hb
    · subst hs
      refine ⟨B6, S6, s4.bb.trans e6, some v2, o3, o4, rfl, fun p hp => ?_⟩
      have htk : L.take (pre ++ [(pre.length : Int)]).length = L.take pre.length ++ [x] := by
        rw [List.length_append, List.length_singleton]
        have h : pre.length = 0 ∨ pre.length = 1 := by omega
        rw [show L.take (pre.length + 1) = (L.take pre.length ++ x :: L.drop (pre.length + 1)).take (pre.length + 1) by rw [← hxL]]
        have hl : (L.take pre.length).length = pre.length := by
          rw [List.length_take]
          show min pre.length 2 = _
          omega
        rw [List.take_append, hl, show pre.length + 1 - pre.length = 1 by omega, List.take_of_length_le (by rw [hl]; omega)]
        rfl
      rw [htk] at hp
      rcases List.mem_append.mp hp with h | h
      · exact good p h
      · rw [List.mem_singleton.mp h]
        intro r hr
        have h1 : ((List.range x.2.1.length).zip x.2.1).map Prod.snd = x.2.1 := List.map_snd_zip (by rw [List.length_range]; exact Nat.le_refl _)
        rw [← h1] at hr
        obtain ⟨p', hp', rfl⟩ := List.mem_map.mp hr
        exact good2 p' hp'
  · subst hs
    have good' : ∀ p ∈ L, ∀ r ∈ p.2.1, inM p.2.2 r = true := good
    refine s_ret (ev_nonD (K := K)) S3 fun v B4 H4 S4 r4 => q v B4 H4 S4 ?_
    show (DatR K (partQ inM L)).P v B4
    rw [partQ_none good']; exact r4
/-! ### a slice whose ends are known in part -/
def EvOP (C : MI) (to : TO) (σ : L2.St) (B : Hp) : Prop := ∀ B1 H1, Ex B B1 → Ok C B1 H1 → ∀ Q : Option Int → Hp → Prop, (∀ o B2 H2, Stp C B1 H1 B2 H2 → Q o H2) → to σ H1 Q
theorem eop_none {C : MI} {σ : L2.St} {B : Hp} : EvOP C tNoPart σ B := fun B1 H1 e k Q q => q _ B1 H1 k.refl
theorem eop_some {C : MI} {σ : L2.St} {B : Hp} {te : TE} {p : Int → Prop} (h : Ev C te σ B (SomeR p (Is K))) : EvOP C (tPart te) σ B := fun B1 H1 e k Q q => h B1 H1 e k _ fun v B2 H2 s ⟨i, _, r⟩ => ⟨i, is_int.mp r, q _ B2 H2 s⟩
theorem ev_slS {C : MI} {σ : L2.St} {B : Hp} {te : TE} {tl th : TO} {α : Type} [Enc α] {xs : List α} (h : Ev C te σ B (Is K xs)) (hl : EvOP C tl σ B) (hh : EvOP C th σ B) : Ev C (tSl (rSlL K) te tl th) σ B (SomeR (fun ys : List α => ys.length ≤ xs.length ∧ ∀ y ∈ ys, y ∈ xs) (Is K)) := fun B1 H1 e k Q q =>
  h B1 H1 e k _ fun v B2 H2 s2 r => by
    obtain ⟨a, vs, h1, h2, h3⟩ := is_lst.mp r
    exact hl B2 H2 (e.trans s2.bb) s2.ok _ fun lo B3 H3 s3 => hh B3 H3 (e.trans (s2.bb.trans s3.bb)) s3.ok _ fun hi B4 H4 s4 =>
      ⟨a, vs, h1, rd_l (s4.ok.sub _ _ (s4.bb _ _ (s3.bb _ _ h2))), fun p hp => q _ _ _ (s2.trans (s3.trans (s4.trans (s4.ok.new hp)))) ⟨cut xs lo hi, ⟨cut_len _ _ _, fun y hy => cut_mem hy⟩, is_lst.mpr ⟨p, _, rfl, upd_same, by
        rw [cut_map]
        exact (args_cut lo hi h3).mono ((s3.bb.trans s4.bb).trans (.new (s4.ok.sub.un hp)))⟩⟩⟩
theorem rv_some1 {C : MI} {r : R2} {R' S : Rp} {B : Hp} {α : Type} {p : α → Prop} {F : α → Rp} (h : ∀ x, p x → RV C r (F x) R' B S) : RV C r (SomeR p F) R' B S := fun x y B1 H1 e k ⟨z, hz, hx⟩ hy Q q => h z hz x y B1 H1 e k hx hy Q q
theorem rv_catS {C : MI} {B : Hp} {α : Type} [Enc α] {p p2 p3 : List α → Prop} (hl : ∀ xs ys, p xs → p2 ys → xs.length + ys.length ≤ 16000000 ∧ p3 (xs ++ ys)) : RV C rCat (SomeR p (Is K)) (SomeR p2 (Is K)) B (SomeR p3 (Is K)) :=
  rv_some1 fun xs hxs => rv_some fun ys hys => (rv_catD (K := K) (hl xs ys hxs hys).1).le (some_in (F := Is K) (hl xs ys hxs hys).2)
structure OthIn where
  b : Addr
  plans : List (List Int × List Int)
  rows : List (Tu Int)
  width : Int
  top : Int
structure OthOk (x : OthIn) : Prop where
  w1 : 1 ≤ x.width
  w3 : x.width ≤ 3
  t1 : 1 ≤ x.top
  t3 : x.top ≤ 3
  n9 : (x.top + 1).toNat ^ x.width.toNat ≤ 9
  pl : Pl9 x.width.toNat x.plans
  rl : x.rows.length ≤ 5
  rs : ∀ r ∈ x.rows, InB 0 (x.top + 1).toNat x.width.toNat r
def p__law_other (K : PySem.W.Frag) : Pm OthIn where
  n := 5
  need x C := HasBag x.b C
  args x := [RefR x.b, Is K x.plans, Is K x.rows, Is K x.width, Is K x.top]
  pre x := OthOk x
  res x := SomeR (fun o : List (Tu Int) => o.length ≤ 6 ∧ ∀ r ∈ o, InB 0 (x.top + 1).toNat x.width.toNat r) (Is K)
abbrev sp__law_other (K : PySem.W.Frag) : Sp := (p__law_other K).sp
def t__law_other (K : PySem.W.Frag) : TS := (tSeq (tAsg (tCall (sp__law_every K) [] E0 (tCons (tVar 1) (tCons (tVar 2) tNil))) (gName 5))
  (tSeq (tAsg (tLc (iRng1 (tCons (tCall (sp__law_take K) [] E0 (tCons (tVar 0) (tCons (tC (.int 3)) tNil))) tNil)) (gName 9) tYes (tCall (sp__law_row K) [] E0 (tCons (tVar 0) (tCons (tVar 3) (tCons (tVar 4) tNil)))) [9]) (gName 6))
  (tSeq (tAsg (tCall (sp__law_take K) [] E0 (tCons (tVar 0) (tCons (tC (.int 4)) tNil))) (gName 7))
  (tSeq (tIfS (tOr (tTest (tOp (rEqD K) (tVar 7) (tC (.int 0)))) (tTest (tOp (rEqD K) (tVar 2) (tLst tNil)))) (tRet (tVar 6)) tNext)
  (tSeq (tAsg (tOp rCat (tSl (rSlL K) (tVar 2) (tPart (tCall (sp__law_take K) [] E0 (tCons (tVar 0) (tCons (tCB (rLenQ K) (tCons (tVar 2) tNil)) tNil)))) tNoPart) (tSl (rSlL K) (tVar 2) tNoPart (tPart (tCall (sp__law_take K) [] E0 (tCons (tVar 0) (tCons (tC (.int 3)) tNil)))))) (gName 8))
  (tRet (tSl (rSlL K) (tOp rCat (tOp rCat (tVar 8) (tLc (iRng1 (tCons (tOp rSubI (tVar 7) (tC (.int 1))) tNil)) (gName 9) tYes (tOp (rIxL K) (tVar 5) (tCall (sp__law_take K) [] E0 (tCons (tVar 0) (tCons (tCB (rLenQ K) (tCons (tVar 5) tNil)) tNil)))) [9])) (tSl (rSlL K) (tVar 6) tNoPart (tPart (tCall (sp__law_take K) [] E0 (tCons (tVar 0) (tCons (tC (.int 2)) tNil)))))) tNoPart (tPart (tC (.int 6))))))))))
theorem len__law_other (K : PySem.W.Frag) : ∀ vs H Q E, sp__law_other K vs H Q E → vs.length = 5 := Pm.len _ rfl
theorem pure__law_other (c : Kn0 K) : ∀ vs H Q E, sp__law_other K vs H Q E → t__law_other K { nx := fun _ H' => Q .non H', rt := Q } (start ["bag", "plans", "rows", "width", "top", "whole", "other", "way", "some", "one"] vs) H := by
  rintro vs H Q E ⟨C, B, ⟨b, plans, rows, width, top⟩, k, hB, a, ⟨w1, w3, t1, t3, n9, hpl9, hrl, hrs⟩, q⟩
  have w1 : 1 ≤ width := w1
  have w3 : width ≤ 3 := w3
  have t1 : 1 ≤ top := t1
  have t3 : top ≤ 3 := t3
  have hrl : rows.length ≤ 5 := hrl
  have hB : HasBag b C := hB
  let W := width.toNat
  let N := (top + 1).toNat
  have n9 : N ^ W ≤ 9 := n9
  have hpl9 : Pl9 W plans := hpl9
  have hrs : ∀ r ∈ rows, InB 0 N W r := hrs
  have W1 : 1 ≤ W := by show 1 ≤ width.toNat; omega
  have W6 : W ≤ 6 := by show width.toNat ≤ 6; omega
  obtain _ | @⟨_, v0, _, _, r0, _ | @⟨_, v1, _, _, r1, _ | @⟨_, v2, _, _, r2, _ | @⟨_, v3, _, _, r3, _ | @⟨_, v4, _, _, r4, _ | _⟩⟩⟩⟩⟩ := a
  have r0 : v0 = .ref b := r0
  subst r0
  have r3 := is_int.mp r3
  have r4 := is_int.mp r4
  subst r3 r4
  let whole := evr plans 64 (sset rows)
  have gw : GB 0 N W whole := evr_G (G := GB 0 N W) (fun f hf => gb_rnd hpl9 hf) 64 _ ⟨sset_nodup _, fun r hr => hrs r (sset_mem.mp hr)⟩
  have wl : whole.length ≤ 9 := gb_len n9 gw
  let P : List (Tu Int) → Prop := fun o => ∀ r ∈ o, InB 0 N W r
  refine q_asg (R := Is K whole) ((ev_callN (p := p__law_every K) ⟨W, plans, rows, GB 0 N W⟩ (ea_cons (ev_var (i := 1) rfl r1) (ea_cons (ev_var (i := 2) rfl r2) ea_nil)) (ev_okB W1 W6 n9 hpl9 hrs)).le newL_is) k.refl fun v5 B2 H2 S2 s2 r5 => ?_
  refine q_lcR (p := fun n => 0 ≤ n ∧ n < 3) (K := K) (ev_take (K := K) (n := 3) hB (i := 0) rfl ev_int (by decide)) (fun n hn => by omega) S2 fun n2 B3 H3 hn2 S3 s3 => ?_
  have hwn2 : (rng 0 n2.toNat).length = n2.toNat := rng_len
  refine q_asg (ev_lcSD (K := K) (α := Tu Int) (p := InB 0 N W) (ys := rng 0 n2.toNat) (Ri := Is K) (J := fun x => JN 9 (Is K x)) (ei_wiR (K := K) n2) (by rw [hwn2]; omega) (fun x => go_name) fun x σ2 B' hb eb j => ?_) S3 fun v6 B4 H4 S4 s4 ⟨other, ⟨hol, hos⟩, r6⟩ => ?_
  · obtain ⟨v, hv, rfl⟩ := j
    refine ⟨rfl, (ev_call (p := p__law_row K) (b, width, top) (ea_cons (ev_var (i := 0) rfl rfl) (ea_cons (ev_var (i := 3) rfl (is_int.mpr rfl)) (ea_cons (ev_var (i := 4) rfl (is_int.mpr rfl)) ea_nil))) ⟨by show 0 ≤ width; omega, by show width ≤ 6; omega, by show 0 ≤ top; omega, by show top ≤ 1000000000000000000; omega⟩ hB).le (some_le fun r hr => ⟨?_, fun e he => ?_⟩)⟩
    · have h : (r.l.length : Int) = width := hr.1
      omega
    · have h : 0 ≤ e ∧ e ≤ top := hr.2 e he
      omega
  rw [hwn2] at hol
  refine q_asg (ev_take (K := K) (n := 4) hB (i := 0) rfl ev_int (by decide)) S4 fun v7 B5 H5 S5 s5 r7 => ?_
  obtain ⟨way, hway, rfl⟩ := int_flat r7
  have R2 : (Is K rows).P v2 B5 := Rp.mono _ (s2.bb.trans (s3.bb.trans (s4.bb.trans s5.bb))) r2
  have R5 : (Is K whole).P v5 B5 := Rp.mono _ (s3.bb.trans (s4.bb.trans s5.bb)) r5
  have R6 : (Is K other).P v6 B5 := Rp.mono _ s5.bb r6
  refine q_if (b := decide (way = 0) || decide (rows = [])) (et_or (et_test (ev_eq (K := K) (x := way) (y := (0 : Int)) (ev_var (i := 7) rfl (is_int.mpr rfl)) ev_int)) fun _ => et_test (ev_eq (K := K) (ev_var (i := 2) rfl R2) (ev_lstD (α := Tu Int) (xs := []) ea_nil))) S5 (fun e H6 S6 s6 => ?_) (fun e H6 S6 s6 => ?_)
  · exact s_ret (ev_var (i := 6) rfl R6) S6 fun v B7 H7 S7 r => q v B7 H7 S7 ⟨other, ⟨by show other.length ≤ 6; omega, hos⟩, r⟩
  have hne : rows ≠ [] := fun z => by
    rw [decide_eq_true z, Bool.or_true] at e; cases e
  have hr0 : 0 < rows.length := List.length_pos_iff.mpr hne
  have hw0 : way ≠ 0 := fun z => by
    rw [decide_eq_true z, Bool.true_or] at e; cases e
  have wne : 0 < whole.length := by
    obtain ⟨r, hr⟩ := List.exists_mem_of_ne_nil _ hne
    exact List.length_pos_of_mem ((in_evr n9 hpl9 hrs r).mpr (.told hr))
  refine q_asg (R := SomeR (fun ys : List (Tu Int) => ys.length ≤ 10 ∧ P ys) (Is K)) (ev_op (ev_slS (K := K) (xs := rows) (ev_var (i := 2) rfl R2) (eop_some (ev_take (K := K) (n := (rows.length : Int)) hB (i := 0) rfl (ev_lenD (K := K) (ev_var (i := 2) rfl R2)) (by omega))) eop_none) (ev_slS (K := K) (xs := rows) (ev_var (i := 2) rfl R2) eop_none (eop_some (ev_take (K := K) (n := 3) hB (i := 0) rfl ev_int (by decide)))) (rv_catS fun xs ys hx hy => ⟨by have := hx.1; have := hy.1; omega, by rw [List.length_append]; have := hx.1; have := hy.1; omega, fun r hr => ?_⟩)) S6 fun v8 B7 H7 S7 s7 ⟨some_, ⟨hsl, hss⟩, r8⟩ => ?_
  · rcases List.mem_append.mp hr with h | h
    · exact hrs r (hx.2 r h)
    · exact hrs r (hy.2 r h)
  have R5' : (Is K whole).P v5 B7 := Rp.mono _ s7.bb R5
  have R6' : (Is K other).P v6 B7 := Rp.mono _ s7.bb R6
  have hwm : (rng 0 (way - 1).toNat).length = (way - 1).toNat := rng_len
  have e1 : Ev C (tLc (iRng1 (tCons (tOp rSubI (tVar 7) (tC (.int 1))) tNil)) (gName 9) tYes (tOp (rIxL K) (tVar 5) (tCall (sp__law_take K) [] E0 (tCons (tVar 0) (tCons (tCB (rLenQ K) (tCons (tVar 5) tNil)) tNil)))) [9]) [some (.ref b), some v1, some v2, some (.int width), some (.int top), some v5, some v6, some (.int way), some v8, none] B7 (SomeR (fun ys : List (Tu Int) => ys.length ≤ 2 ∧ P ys) (Is K)) := by
    refine (ev_lcSD (K := K) (α := Tu Int) (p := InB 0 N W) (ys := rng 0 (way - 1).toNat) (Ri := Is K) (J := fun x => JN 9 (Is K x)) (ei_range1 (K := K) (n := way - 1) (ea_cons (ev_i (K := K) (g := fun i j => i - j) (ev_var (i := 7) rfl (is_int.mpr rfl)) ev_int) ea_nil) (by omega)) (by rw [hwm]; omega) (fun x => go_name) fun x σ2 B' hb eb j => ?_).le (some_le fun pl ⟨h1, h2⟩ => ⟨by rw [h1, hwm]; omega, h2⟩)
    obtain ⟨v, hv, rfl⟩ := j
    refine ⟨rfl, ev_op (R := LstR (whole.map (Is K))) (R' := SomeR (fun r : Int => 0 ≤ r ∧ r < (whole.length : Int)) (Is K)) (ev_var (i := 5) rfl (is_lst.mp (Rp.mono _ eb R5'))) (ev_take (K := K) (n := (whole.length : Int)) hB (i := 0) rfl (ev_lenD (K := K) (ev_var (i := 5) rfl (Rp.mono _ eb R5'))) (by omega)) (rv_some fun i hi => (rv_ixL (K := K) (R := Is K (whole.getD i.toNat ⟨[]⟩)) ?_).le (some_in (F := Is K) (gw.2 _ ?_)))⟩
    · have h1 : i.toNat < whole.length := by omega
      have h2 := atI_get (d := (⟨[]⟩ : Tu Int)) h1
      rw [show ((i.toNat : Nat) : Int) = i by omega] at h2
      exact atI_map h2
    · have h1 : i.toNat < whole.length := by omega
      rw [getD_lt h1]; exact List.getElem_mem _
  have e2 := ev_op (C := C) (ev_op (C := C) (R := SomeR (fun ys : List (Tu Int) => ys.length ≤ 10 ∧ P ys) (Is K)) (ev_var (σ := [some (.ref b), some v1, some v2, some (.int width), some (.int top), some v5, some v6, some (.int way), some v8, none]) (i := 8) rfl ⟨some_, ⟨hsl, hss⟩, r8⟩) e1 (rv_catS (p3 := fun ys : List (Tu Int) => ys.length ≤ 12 ∧ P ys) fun xs ys hx hy => ⟨by have := hx.1; have := hy.1; omega, by rw [List.length_append]; have := hx.1; have := hy.1; omega, fun r hr => (List.mem_append.mp hr).elim (hx.2 r) (hy.2 r)⟩)) (ev_slS (K := K) (xs := other) (ev_var (i := 6) rfl R6') eop_none (eop_some (ev_take (K := K) (n := 2) hB (i := 0) rfl ev_int (by decide)))) (rv_catS (p3 := fun ys : List (Tu Int) => ys.length ≤ 16 ∧ P ys) fun xs ys hx hy => ⟨by have := hx.1; have := hy.1; omega, by rw [List.length_append]; have := hx.1; have := hy.1; omega, fun r hr => (List.mem_append.mp hr).elim (hx.2 r) fun h => hos r (hy.2 r h)⟩)
  refine e2 B7 H7 (.refl _) S7.ok _ fun v B8 H8 s8 ⟨xs, ⟨hxl, hxs⟩, r⟩ => ?_
  refine (ev_slLD (C := C) (K := K) (xs := xs) (te := tC v) (ev_val r) (tl := tNoPart) (th := tPart (tC (.int 6))) (σ := [some (.ref b), some v1, some v2, some (.int width), some (.int top), some v5, some v6, some (.int way), some v8, none]) eo_none (eo_some (K := K) ev_int)) B8 H8 (.refl _) s8.ok _ fun v9 B9 H9 s9 r9 => q v9 B9 H9 (S7.trans (s8.trans s9)) ⟨_, ⟨?_, fun r hr => hxs r (cut_mem hr)⟩, r9⟩
  unfold cut
  rw [show (6 : Int) = ((6 : Nat) : Int) by rfl, HT.sIx_none, HT.sIx_nat, List.length_take]; omega
end
end Pk

/-! What parted returns can be shown. -/
namespace Pk
open PySem L2
open Enc (enc dep)
def tbl84 : List (Int × Int × Int) := [(1, 3, 4), (2, 1, 4), (2, 2, 3), (3, 1, 3), (2, 1, 3)]
theorem t84 {t : Int × Int × Int} (h : t ∈ tbl84) : T85 t := by
  simp only [tbl84, List.mem_cons, List.mem_nil_iff, or_false] at h
  rcases h with rfl | rfl | rfl | rfl | rfl
  · exact ⟨by decide, by decide, by decide, by decide, by decide, by decide, by decide⟩
  · exact ⟨by decide, by decide, by decide, by decide, by decide, by decide, by decide⟩
  · exact ⟨by decide, by decide, by decide, by decide, by decide, by decide, by decide⟩
  · exact ⟨by decide, by decide, by decide, by decide, by decide, by decide, by decide⟩
  · exact ⟨by decide, by decide, by decide, by decide, by decide, by decide, by decide⟩
theorem part_same {lo : Int} {n w : Nat} {plans : List (List Int × List Int)} {a b : List (Tu Int)} (n9 : n ^ w ≤ 9) (hp : Pl9 w plans) (ha : ∀ r ∈ a, InB lo n w r) (hb : ∀ r ∈ b, InB lo n w r) :
    partQ (fun y r => makesB (partsFor (a ++ b) plans) y r) (two a b) = partQ inM (fourQ a b (evr plans 64 (sset a)) (evr plans 64 (sset b))) := by
  have hab : ∀ r ∈ a ++ b, r.l.length = w := fun r hr => by
    rcases List.mem_append.mp hr with h | h
    · exact (ha r h).w
    · exact (hb r h).w
  refine part_congr (.cons ⟨rfl, rfl, fun r hr => ?_⟩ (.cons ⟨rfl, rfl, fun r hr => ?_⟩ .nil))
  · have hr : r ∈ a := hr
    exact (makes_evr n9 hp hab (fun z => by rw [(List.append_eq_nil_iff.mp z).1] at hr; cases hr) hb (ha r hr).w).trans (decide_eq_decide.mpr Iff.rfl)
  · have hr : r ∈ b := hr
    exact (makes_evr n9 hp hab (fun z => by rw [(List.append_eq_nil_iff.mp z).2] at hr; cases hr) ha (hb r hr).w).trans (decide_eq_decide.mpr Iff.rfl)
theorem show_non : ShowOk .none := ⟨rfl, rfl, by decide, by decide, by decide, by decide, .inr (.inr rfl)⟩
theorem show_two {i j : Int} (hi : -1000000 ≤ i ∧ i ≤ 1000000) (hj : -1000000 ≤ j ∧ j ≤ 1000000) : ShowOk (.tuple [.int i, .int j]) := by
  have h1 := rep_int (i := i) (by omega)
  have h2 := rep_int (i := j) (by omega)
  have e : enc (i, j) = .tuple [.int i, .int j] := rfl
  have ls : (PyData.tuple [.int i, .int j]).leavesShort 20 = true := by
    have := h1.ls; have := h2.ls
    simp only [PyData.leavesShort, PyData.leavesShortAll, Bool.and_eq_true] at *
    simp_all
  have wt : (PyData.tuple [.int i, .int j]).weight ≤ 1000 := by
    have := h1.wt; have := h2.wt
    simp only [PyData.weight, PyData.weightAll] at *
    omega
  refine ⟨?_, ?_, ?_, ?_, ?_, ?_, .inr (.inl ⟨_, rfl⟩)⟩
  · have := h1.sh; have := h2.sh
    simp only [PyData.showable, PyData.showableAll, Bool.and_eq_true] at *
    simp_all
  · rw [← e]; exact PyData.hasDict_of_canLay _ (Enc.lay (i, j))
  · rw [← e]; exact Nat.le_trans (Enc.depth (i, j)) (by decide)
  · have h1 := PyData.shown_le 20 (by decide) _ ls
    have h2 : (20 + 2) * (PyData.tuple [.int i, .int j]).weight ≤ 22 * 1000 := Nat.mul_le_mul_left _ wt
    rw [sizeLine_eq]; omega
  · rw [← e]; exact (Enc.inj (i, j) (i, j)).mpr rfl
  · rw [← e]; exact Enc.shaped (i, j) (by decide)
theorem show_part {M : List (Tu Int) → Tu Int → Bool} {ps : List Shs} (h : ∀ p ∈ ps, p.1 ≤ 1 ∧ p.2.1.length ≤ 1000) : ShowOk (partQ M ps) := by
  rcases partQ_shape (M := M) h with e | ⟨i, j, hi, hj, e⟩
  · rw [e]; exact show_non
  · rw [e]; exact show_two (by omega) (by omega)
end Pk

/-! The law of k84. -/
namespace Pk
open PySem L2
open Enc (enc dep)
section
variable {K : PySem.W.Frag}
def sp_law (K : PySem.W.Frag) : Sp := fun vs H Q _ => ∃ (a : Addr) (ns : List Int), vs = [.ref a] ∧ SqL K H a (ns.map V.int) ∧ ∀ H', Q (.bl true) H'
theorem len_law (K : PySem.W.Frag) : ∀ vs H Q E, sp_law K vs H Q E → vs.length = 1 := fun vs H Q E ⟨a, ns, e, _⟩ => by rw [e]; rfl
def t_law (K : PySem.W.Frag) : TS := (tSeq (tAsg (tCall (sp__law_bag K) [] E0 (tCons (tVar 0) tNil)) (gName 1))
  (tSeq (tFor (iRng1 (tCons (tC (.int 3)) tNil)) (gName 2) (tSeq (tAsg (tOp (rIxL K) (tLst (tCons (tTup (tCons (tC (.int 1)) (tCons (tC (.int 3)) (tCons (tC (.int 4)) tNil)))) (tCons (tTup (tCons (tC (.int 2)) (tCons (tC (.int 1)) (tCons (tC (.int 4)) tNil)))) (tCons (tTup (tCons (tC (.int 2)) (tCons (tC (.int 2)) (tCons (tC (.int 3)) tNil)))) (tCons (tTup (tCons (tC (.int 3)) (tCons (tC (.int 1)) (tCons (tC (.int 3)) tNil)))) (tCons (tTup (tCons (tC (.int 2)) (tCons (tC (.int 1)) (tCons (tC (.int 3)) tNil)))) tNil)))))) (tCall (sp__law_take K) [] E0 (tCons (tVar 1) (tCons (tC (.int 5)) tNil)))) (gTup K 3 (gCons (gName 3) (gCons (gName 4) (gCons (gName 5) gNil)))))
  (tSeq (tAsg (tLc (iRng1 (tCons (tOp (rIxL K) (tLst (tCons (tC (.int 1)) (tCons (tC (.int 1)) (tCons (tC (.int 2)) (tCons (tC (.int 0)) tNil))))) (tCall (sp__law_take K) [] E0 (tCons (tVar 1) (tCons (tC (.int 4)) tNil)))) tNil)) (gName 15) tYes (tCall (sp__law_council K) [] E0 (tCons (tVar 1) (tCons (tVar 3) (tCons (tVar 5) tNil)))) [15]) (gName 6))
  (tSeq (tAsg (tOp rCat (tVar 6) (tLc (iRng1 (tCons (tOp rMulI (tCB rInt (tCons (tOp (rEqD K) (tVar 3) (tC (.int 1))) tNil)) (tCall (sp__law_take K) [] E0 (tCons (tVar 1) (tCons (tC (.int 4)) tNil)))) tNil)) (gName 15) tYes (tCall (sp__law_council K) [] E0 (tCons (tVar 1) (tCons (tC (.int 1)) (tCons (tC (.int 3)) tNil)))) [15])) (gName 6))
  (tSeq (tAsg (tTup (tCons (tLc (iRng1 (tCons (tCall (sp__law_take K) [] E0 (tCons (tVar 1) (tCons (tC (.int 6)) tNil))) tNil)) (gName 15) tYes (tCall (sp__law_row K) [] E0 (tCons (tVar 1) (tCons (tVar 3) (tCons (tVar 4) tNil)))) [15]) (tCons (tCall (sp__law_take K) [] E0 (tCons (tVar 1) (tCons (tOp rAddI (tOp rMulI (tC (.int 2)) (tVar 4)) (tC (.int 1))) tNil))) tNil))) (gTup K 2 (gCons (gName 7) (gCons (gName 8) gNil))))
  (tSeq (tAsg (tTup (tCons (tVar 7) (tCons (tCall (sp__law_other K) [] E0 (tCons (tVar 1) (tCons (tVar 6) (tCons (tVar 7) (tCons (tVar 3) (tCons (tVar 4) tNil)))))) tNil))) (gName 9))
  (tSeq (tAsg (tThen (tLc (iTup K (tVar 9)) (gName 16) tYes (tLc (iList K (tVar 16)) (gName 18) tYes (tThen (tLc (iTup K (tVar 18)) (gName 19) tYes (tOp rSubI (tVar 19) (tVar 8)) [19]) (kTup K)) [18]) [16]) (kTup K)) (gName 9))
  (tSeq (tPar 10 11 (tCons (tLc (iTup K (tVar 9)) (gName 16) tYes (tCall (sp__law_every K) [] E0 (tCons (tVar 6) (tCons (tVar 16) tNil))) [16]) (tCons (tLc (iList K (tVar 6)) (gName 17) tYes (tCall (sp__law_made K) [] E0 (tCons (tVar 17) tNil)) [17]) tNil)))
  (tSeq (tPar 12 13 (tCons (tLc (iTup K (tVar 9)) (gName 16) tYes (tCB (rListQ K) (tCons (tVar 16) tNil)) [16]) (tCons (tCB (rListQ K) (tCons (tVar 11) tNil)) tNil)))
  (tFor (iRng1 (tCons (tC (.int 2)) tNil)) (gName 14) (tSeq (tIfS (tNot (tB (tCall (sp__law_alike K) [] E0 (tCons (tCall (sp_parted K) [] E0 (tCons (tOp (rIxL K) (tVar 12) (tC (.int 0))) (tCons (tOp (rIxL K) (tVar 12) (tC (.int 1))) (tCons (tVar 11) tNil)))) (tCons (tCall (sp__law_due K) [] E0 (tCons (tVar 9) (tCons (tVar 10) tNil))) tNil))))) (tRet (tC (.bl false))) tNext)
  (tSeq (tIfS (tNot (tB (tCall (sp__law_alike K) [] E0 (tCons (tCall (sp_parted K) [] E0 (tCons (tOp (rIxL K) (tVar 12) (tC (.int 1))) (tCons (tOp (rIxL K) (tVar 12) (tC (.int 0))) (tCons (tVar 11) tNil)))) (tCons (tCall (sp__law_due K) [] E0 (tCons (tRevT K (tVar 9)) (tCons (tRevL K (tVar 10)) tNil))) tNil))))) (tRet (tC (.bl false))) tNext)
  (tIfS (tOr (tTest (tOp (rNeD K) (tVar 12) (tLc (iTup K (tVar 9)) (gName 16) tYes (tCB (rListQ K) (tCons (tVar 16) tNil)) [16]))) (tTest (tOp (rNeI K) (tVar 13) (tVar 11)))) (tRet (tC (.bl false))) tNext)))))))))))))
  (tRet (tC (.bl true)))))
theorem pure_law (c : Kn0 K) : ∀ vs H Q E, sp_law K vs H Q E → t_law K { nx := fun _ H' => Q .non H', rt := Q } (start ["script", "bag", "k", "width", "top", "most", "plans", "rows", "down", "pair", "closures", "councils", "handed", "given", "turn", "one", "some", "parts", "row", "entry"] vs) H := by
  rintro vs H Q E ⟨a, ns, rfl, hS, q⟩
  unfold t_law
  refine q_asgQ ⟨.ref a, rfl, a, ns, rfl, hS, fun b cc ns' H2 I => ?_⟩
  let C := BagC b cc ns'
  have hB : HasBag b C := ⟨cc, ns', rfl⟩
  let B : Hp := fun _ => none
  have k : Ok C B H2 := ⟨fun a o h => (nomatch h), fun _ _ => rfl, fun a m => by
    have := C.nt H2 a I m
    intro z
    rw [z] at this
    exact this, I⟩
  dsimp only
  refine q_forD (C := C) (B := B) (B0 := B) (H0 := H2) (xs := rng 0 ((3 : Int)).toNat) (Ri := Is K) (J := fun x => JN 2 (Is K x)) (ei_range1 (K := K) (ea_cons ev_int ea_nil) (by decide)) k.refl (fun x => go_name)
    (fun pre σ1 B1 H1 => ∃ o2 o3 o4 o5 o6 o7 o8 o9 o10 o11 o12 o13 o14, σ1 = [some (.ref a), some (.ref b), o2, o3, o4, o5, o6, o7, o8, o9, o10, o11, o12, o13, o14, none, none, none, none, none]) (fun B1 H1 S1 s1 => ⟨none, none, none, none, none, none, none, none, none, none, none, none, none, rfl⟩) (fun pre x post σ1 B3 H3 B4 H4 hx S3 e3 ⟨o2, o3, o4, o5, o6, o7, o8, o9, o10, o11, o12, o13, o14, hs⟩ s4 σ2 j => ?_) (fun σ1 B3 H3 S3 e3 ⟨o2, o3, o4, o5, o6, o7, o8, o9, o10, o11, o12, o13, o14, hs⟩ => ?_)
  · subst hs
    obtain ⟨v2, r2, rfl⟩ := j
    let P : Rp := SomeR (fun t : Int × Int × Int => t ∈ tbl84) (fun t => TupR [Is K t.1, Is K t.2.1, Is K t.2.2])
    have e3' : ∀ (σ : L2.St) (x y z : Int), (x, y, z) ∈ tbl84 → Ev C (tTup (tCons (tC (.int x)) (tCons (tC (.int y)) (tCons (tC (.int z)) tNil)))) σ B4 P := fun σ x y z h => (ev_tup (ea_cons (R := Is K x) ev_int (ea_cons (R := Is K y) ev_int (ea_cons (R := Is K z) ev_int ea_nil))) (by simp)).le fun v B r => ⟨(x, y, z), h, r⟩
    refine q_asg3S (K := K) (p := fun t => t ∈ tbl84) (F1 := fun t : Int × Int × Int => Is K t.1) (F2 := fun t => Is K t.2.1) (F3 := fun t => Is K t.2.2) (ev_op (R := LstR [P, P, P, P, P]) (R' := SomeR (fun r : Int => 0 ≤ r ∧ r < 5) (Is K)) (ev_lst (ea_cons (e3' _ 1 3 4 (by decide)) (ea_cons (e3' _ 2 1 4 (by decide)) (ea_cons (e3' _ 2 2 3 (by decide)) (ea_cons (e3' _ 3 1 3 (by decide)) (ea_cons (e3' _ 2 1 3 (by decide)) ea_nil))))) (by simp)) (ev_take hB (i := 1) rfl ev_int (by decide)) (rv_some fun i hi => rv_ixL ?_)) (S3.trans s4) fun t v3 v4 v5 B5 H5 ht S5 s5 r3 r4 r5 => ?_
    · have h5 : i = 0 ∨ i = 1 ∨ i = 2 ∨ i = 3 ∨ i = 4 := by omega
      rcases h5 with rfl | rfl | rfl | rfl | rfl <;> rfl
    have r3 := is_int.mp r3
    have r4 := is_int.mp r4
    have r5 := is_int.mp r5
    subst r3 r4 r5
    obtain ⟨w1, w3, t1, t3, m2, m4, n9⟩ := t84 ht
    let W := t.1.toNat
    let N := (t.2.1 + 1).toNat
    let P9 : List Int × List Int → Prop := fun p => WsOk p.1 ∧ QsOk p.2 p.1.sum ∧ (p.2.length : Int) = t.1 ∧ (p.1.length : Int) ≤ 4
    let PI : Rp := SomeR (fun n : Int => 0 ≤ n ∧ n ≤ 2) (Is K)
    refine q_lcR (p := fun n => 0 ≤ n ∧ n ≤ 2) (K := K) (ev_op (R := LstR [PI, PI, PI, PI]) (R' := SomeR (fun r : Int => 0 ≤ r ∧ r < 4) (Is K)) (ev_lst (ea_cons (ev_int.le (some_in (F := Is K) (by decide))) (ea_cons (ev_int.le (some_in (F := Is K) (by decide))) (ea_cons (ev_int.le (some_in (F := Is K) (by decide))) (ea_cons (ev_int.le (some_in (F := Is K) (by decide))) ea_nil)))) (by simp)) (ev_take hB (i := 1) rfl ev_int (by decide)) (rv_some fun i hi => rv_ixL ?_)) (fun n hn => by omega) S5 fun n B6 H6 hn S6 s6 => ?_
    · have h5 : i = 0 ∨ i = 1 ∨ i = 2 ∨ i = 3 := by omega
      rcases h5 with rfl | rfl | rfl | rfl <;> rfl
    have hwn : (rng 0 n.toNat).length = n.toNat := rng_len
    refine q_asg (ev_lcSD (K := K) (α := List Int × List Int) (p := P9) (ys := rng 0 n.toNat) (Ri := Is K) (J := fun x => JN 15 (Is K x)) (ei_wiR (K := K) n) (by rw [hwn]; omega) (fun x => go_name) fun x σ2 B' hb eb j => ?_) S6 fun v6 B7 H7 S7 s7 ⟨plans1, ⟨hpl1, hps1⟩, r6⟩ => ?_
    · obtain ⟨v, hv, rfl⟩ := j
      exact ⟨rfl, (ev_call (p := p__law_council K) (b, t.1, t.2.2) (ea_cons (ev_var (i := 1) rfl rfl) (ea_cons (ev_var (i := 3) rfl (is_int.mpr rfl)) (ea_cons (ev_var (i := 5) rfl (is_int.mpr rfl)) ea_nil))) ⟨w1, by show t.1 ≤ 6; omega, m2, by show t.2.2 ≤ 7; omega⟩ hB).le (some_le fun p ⟨h1, h2, h3, h4⟩ => ⟨h1, h2, h3, by have h4 : (p.1.length : Int) ≤ t.2.2 := h4; omega⟩)⟩
    rw [hwn] at hpl1
    refine q_asg (R := SomeR (fun pl : List (List Int × List Int) => pl.length ≤ 5 ∧ ∀ p ∈ pl, P9 p) (Is K)) (ev_op (R := Is K plans1) (R' := SomeR (fun pl : List (List Int × List Int) => pl.length ≤ 3 ∧ ∀ p ∈ pl, P9 p) (Is K)) (ev_var (i := 6) rfl r6) (ev_lcRS (K := K) (p := fun n : Int => 0 ≤ n ∧ n ≤ 3 ∧ (0 < n → t.1 = 1)) (ev_op (ev_intB (K := K) (ev_eq (K := K) (x := t.1) (y := (1 : Int)) (ev_var (i := 3) rfl (is_int.mpr rfl)) ev_int)) (ev_take (K := K) (n := 4) hB (i := 1) rfl ev_int (by decide)) (rv_mul01 fun z hz => ?_)) (fun n hn => by omega) fun m hm => ?_) (rv_some fun ys hys => (rv_catD (K := K) (by have := hys.1; omega)).le (some_in (F := Is K) ?_))) S7 fun v6 B8 H8 S8 s8 ⟨plans, ⟨hpl, hps⟩, r6⟩ => ?_
    · by_cases h : t.1 = 1
      · rw [if_pos (decide_eq_true h)]; omega
      · rw [if_neg (by rw [decide_eq_false h]; exact Bool.false_ne_true)]; omega
    · have hwm : (rng 0 m.toNat).length = m.toNat := rng_len
      refine (ev_lcSD (K := K) (α := List Int × List Int) (p := P9) (ys := rng 0 m.toNat) (Ri := Is K) (J := fun x => JN 15 (Is K x)) (ei_wiR (K := K) m) (by rw [hwm]; omega) (fun x => go_name) fun x σ2 B' hb eb j => ?_).le (some_le fun pl ⟨h1, h2⟩ => ⟨by rw [h1, hwm]; omega, h2⟩)
      obtain ⟨v, hv, rfl⟩ := j
      have h0 : 0 < m := by
        have : 0 < (rng 0 m.toNat).length := List.length_pos_of_mem hb
        rw [hwm] at this; omega
      have ht1 : t.1 = 1 := hm.2.2 h0
      exact ⟨rfl, (ev_call (p := p__law_council K) (b, 1, 3) (ea_cons (ev_var (i := 1) rfl rfl) (ea_cons ev_int (ea_cons ev_int ea_nil))) ⟨show (1 : Int) ≤ 1 by decide, show (1 : Int) ≤ 6 by decide, show (2 : Int) ≤ 3 by decide, show (3 : Int) ≤ 7 by decide⟩ hB).le (some_le fun p ⟨h1, h2, h3, h4⟩ => ⟨h1, h2, by have h3 : (p.2.length : Int) = 1 := h3; omega, by have h4 : (p.1.length : Int) ≤ 3 := h4; omega⟩)⟩
    · refine ⟨by rw [List.length_append]; have := hys.1; omega, fun p hp => ?_⟩
      rcases List.mem_append.mp hp with h | h
      · exact hps1 p h
      · exact hys.2 p h
    have hpl9 : Pl9 W plans := ⟨by omega, fun p hp => ⟨(hps p hp).1, (hps p hp).2.1, by have := (hps p hp).2.2.1; omega, by have := (hps p hp).2.2.2; omega⟩⟩
    have W1 : 1 ≤ W := by show 1 ≤ t.1.toNat; omega
    have W6 : W ≤ 6 := by show t.1.toNat ≤ 6; omega
    refine q_asg2 (K := K) (R1 := SomeR (fun rs : List (Tu Int) => rs.length ≤ 5 ∧ ∀ r ∈ rs, InB 0 N W r) (Is K)) (R2 := SomeR (fun d : Int => 0 ≤ d ∧ d < 2 * t.2.1 + 1) (Is K)) (ev_tup (ea_cons (ev_lcRS (K := K) (p := fun n : Int => 0 ≤ n ∧ n < 6) (ev_take (K := K) (n := 6) hB (i := 1) rfl ev_int (by decide)) (fun n hn => by omega) fun m hm => ?_) (ea_cons (ev_take (K := K) (n := 2 * t.2.1 + 1) hB (i := 1) rfl (ev_i (K := K) (g := fun i j => i + j) (ev_ic (K := K) (c := CMul) (g := fun i j => i * j) ev_int (ev_var (i := 4) rfl (is_int.mpr rfl)) (.inl (by decide))) ev_int) (by omega)) ea_nil)) (by simp)) S8 fun v7 v8 B9 H9 S9 s9 ⟨rows, ⟨hrl, hrs⟩, r7⟩ r8 => ?_
    · have hwm : (rng 0 m.toNat).length = m.toNat := rng_len
      refine (ev_lcSD (K := K) (α := Tu Int) (p := InB 0 N W) (ys := rng 0 m.toNat) (Ri := Is K) (J := fun x => JN 15 (Is K x)) (ei_wiR (K := K) m) (by rw [hwm]; omega) (fun x => go_name) fun x σ2 B' hb eb j => ?_).le (some_le fun pl ⟨h1, h2⟩ => ⟨by rw [h1, hwm]; omega, h2⟩)
      obtain ⟨v, hv, rfl⟩ := j
      refine ⟨rfl, (ev_call (p := p__law_row K) (b, t.1, t.2.1) (ea_cons (ev_var (i := 1) rfl rfl) (ea_cons (ev_var (i := 3) rfl (is_int.mpr rfl)) (ea_cons (ev_var (i := 4) rfl (is_int.mpr rfl)) ea_nil))) ⟨by show 0 ≤ t.1; omega, by show t.1 ≤ 6; omega, by show 0 ≤ t.2.1; omega, by show t.2.1 ≤ 1000000000000000000; omega⟩ hB).le (some_le fun r hr => ⟨?_, fun e he => ?_⟩)⟩
      · have h : (r.l.length : Int) = t.1 := hr.1
        omega
      · have h : 0 ≤ e ∧ e ≤ t.2.1 := hr.2 e he
        omega
    obtain ⟨down, hd, rfl⟩ := int_flat r8
    have R6 : (Is K plans).P v6 B9 := Rp.mono _ s9.bb r6
    refine q_asg (R := TupR [Is K rows, SomeR (fun o : List (Tu Int) => o.length ≤ 6 ∧ ∀ r ∈ o, InB 0 N W r) (Is K)]) (ev_tup (ea_cons (ev_var (i := 7) rfl r7) (ea_cons (ev_call (p := p__law_other K) ⟨b, plans, rows, t.1, t.2.1⟩ (ea_cons (ev_var (i := 1) rfl rfl) (ea_cons (ev_var (i := 6) rfl R6) (ea_cons (ev_var (i := 7) rfl r7) (ea_cons (ev_var (i := 3) rfl (is_int.mpr rfl)) (ea_cons (ev_var (i := 4) rfl (is_int.mpr rfl)) ea_nil))))) ⟨w1, w3, t1, t3, n9, hpl9, hrl, hrs⟩ hB) ea_nil)) (by simp)) S9 fun v9 B10 H10 S10 s10 r9 => ?_
    obtain ⟨other, ⟨hol, hos⟩, r9⟩ : ∃ other : List (Tu Int), (other.length ≤ 6 ∧ ∀ r ∈ other, InB 0 N W r) ∧ (Is K (Tu.mk [rows, other])).P v9 B10 := by
      obtain ⟨p, ys, h1, h2, h3⟩ := r9
      obtain _ | @⟨_, u0, _, _, z0, _ | @⟨_, u1, _, _, z1, _ | _⟩⟩ := h3
      obtain ⟨other, ho, z1⟩ := z1
      exact ⟨other, ho, is_tup.mpr ⟨p, _, h1, h2, .cons z0 (.cons z1 .nil)⟩⟩
    let ra := rows.map (shift down)
    let rb := other.map (shift down)
    have hra : ∀ r ∈ ra, InB (-down) N W r := fun r hr => by
      obtain ⟨r', hr', rfl⟩ := List.mem_map.mp hr
      exact shift_in (hrs r' hr')
    have hrb : ∀ r ∈ rb, InB (-down) N W r := fun r hr => by
      obtain ⟨r', hr', rfl⟩ := List.mem_map.mp hr
      exact shift_in (hos r' hr')
    have hral : ra.length ≤ 5 := by show (rows.map _).length ≤ 5; rw [List.length_map]; exact hrl
    have hrbl : rb.length ≤ 6 := by show (other.map _).length ≤ 6; rw [List.length_map]; exact hol
    refine q_asg (R := Is K (Tu.mk [ra, rb])) (ev_tupleD (K := K) (xs := [rows, other].map fun l => l.map (shift down)) (ev_lcMD (K := K) (xs := [rows, other]) (fun l => l.map (shift down)) (ei_tupD (ev_var (i := 9) rfl r9)) (by simp) (fun x => go_name) fun l σ2 B' hb eb j => ?_)) S10 fun v9 B11 H11 S11 s11 r9 => ?_
    · obtain ⟨v, hv, rfl⟩ := j
      have hl : l.length ≤ 6 ∧ ∀ r ∈ l, InB 0 N W r := by
        simp only [List.mem_cons, List.mem_nil_iff, or_false] at hb
        rcases hb with rfl | rfl
        · exact ⟨by omega, hrs⟩
        · exact ⟨hol, hos⟩
      refine ⟨rfl, ev_lcMD (K := K) (xs := l) (shift down) (ei_listD (ev_var (i := 16) rfl hv)) (by omega) (fun x => go_name) fun r σ3 B'' hb2 eb2 j => ?_⟩
      obtain ⟨u, hu, rfl⟩ := j
      refine ⟨rfl, ev_tupleD (K := K) (xs := r.l.map fun e => e - down) (ev_lcMD (K := K) (xs := r.l) (fun e => e - down) (ei_tupD (ev_var (i := 18) rfl hu)) ?_ (fun x => go_name) fun e σ4 B3' he eb3 j => ?_)⟩
      · rw [(hl.2 r hb2).w]; omega
      · obtain ⟨u', hu', rfl⟩ := j
        exact ⟨rfl, ev_i (K := K) (g := fun i j => i - j) (ev_var (i := 19) rfl hu') (ev_var (i := 8) rfl (is_int.mpr rfl))⟩
    have R6' : (Is K plans).P v6 B11 := Rp.mono _ (s10.bb.trans s11.bb) R6
    let ca := evr plans 64 (sset ra)
    let cb := evr plans 64 (sset rb)
    refine q_par (R1 := Is K [ca, cb]) (R2 := CouL K plans) (ea_cons (ev_lcMD (K := K) (xs := [ra, rb]) (fun l => evr plans 64 (sset l)) (ei_tupD (ev_var (i := 9) rfl r9)) (by simp) (fun x => go_name) fun l σ2 B' hb eb j => ?_) (ea_cons (Ev.le (ev_lcM (Ro := fun c : List Int × List Int => CouR K c.1 c.2) id (ei_listD (ev_var (i := 6) rfl R6')) (by omega) (fun x => go_name) fun p σ2 B' hb eb j => ?_) ?_) ea_nil)) S11 fun v10 v11 B12 H12 S12 s12 r10 r11 => ?_
    · obtain ⟨v, hv, rfl⟩ := j
      have hl : ∀ r ∈ l, InB (-down) N W r := by
        simp only [List.mem_cons, List.mem_nil_iff, or_false] at hb
        rcases hb with rfl | rfl
        · exact hra
        · exact hrb
      exact ⟨rfl, (ev_callN (p := p__law_every K) ⟨W, plans, l, GB (-down) N W⟩ (ea_cons (ev_var (i := 6) rfl (Rp.mono _ eb R6')) (ea_cons (ev_var (i := 16) rfl hv) ea_nil)) (ev_okB W1 W6 n9 hpl9 hl)).le newL_is⟩
    · obtain ⟨v, hv, rfl⟩ := j
      exact ⟨rfl, ev_call (p := p__law_made K) p (ea_cons (ev_var (i := 17) rfl hv) ea_nil) ⟨(hps p hb).1, (hps p hb).2.1⟩⟩
    · intro v B h
      rw [List.map_id] at h
      exact h
    obtain ⟨lc, us, rfl, hlc, hus⟩ := r11
    have hur : ∀ R ∈ us.map ValR, EqR K R := fun R hR => by
      obtain ⟨u, hu, rfl⟩ := List.mem_map.mp hR
      obtain ⟨i, hi⟩ := List.getElem?_of_mem hu
      obtain ⟨R, h1, h2⟩ := hus.pkGetR hi
      rw [List.getElem?_map] at h1
      cases hq : plans[i]? with
      | none => rw [hq] at h1; cases h1
      | some p => rw [hq] at h1; cases h1; obtain ⟨a, _, _, e, _⟩ := h2; rw [e]; exact eqR_same a
    have R9 : (Is K (Tu.mk [ra, rb])).P v9 B12 := Rp.mono _ s12.bb r9
    refine q_par (R1 := Is K [ra, rb]) (R2 := LstR (us.map ValR)) (ea_cons (Ev.to (F := Is K) (ev_lcMD (K := K) (xs := [ra, rb]) id (ei_tupD (ev_var (i := 9) rfl R9)) (by simp) (fun x => go_name) fun l σ2 B' hb eb j => ?_) (List.map_id _)) (ea_cons (ev_list (ev_var (i := 11) (R := LstR (us.map ValR)) rfl ⟨lc, us, rfl, hlc, args_val us _⟩)) ea_nil)) S12 fun v12 v13 B13 H13 S13 s13 r12 r13 => ?_
    · obtain ⟨v, hv, rfl⟩ := j
      exact ⟨rfl, ev_listD (K := K) (ev_var (i := 16) rfl hv)⟩
    have pok : ∀ (xa xb : List (Tu Int)), (∀ r ∈ xa, InB (-down) N W r) → (∀ r ∈ xb, InB (-down) N W r) → xa.length ≤ 6 → xb.length ≤ 6 → PartOk ⟨W, xa, xb, plans⟩ := fun xa xb ha hb hla hlb => ⟨W6, fun r hr => (ha r hr).w, fun r hr => (hb r hr).w, fun c hc => by show W ≤ c.2.length; have := (hps c hc).2.2.1; omega, fun c hc => ⟨fun z => by have := (hps c hc).1.l2; rw [z] at this; simp at this, by have := (hps c hc).2.2.2; omega⟩, by show plans.length ≤ 1000; omega, by show xa.length ≤ 1000; omega, by show xb.length ≤ 1000; omega⟩
    have sh : ∀ (xa xb ya yb : List (Tu Int)), xa.length ≤ 6 → xb.length ≤ 6 → ShowOk (partQ inM (fourQ xa xb ya yb)) := fun xa xb ya yb h1 h2 => show_part fun p hp => by
      simp only [fourQ, List.mem_cons, List.mem_nil_iff, or_false] at hp
      rcases hp with rfl | rfl
      · exact ⟨Nat.zero_le _, by show xa.length ≤ 1000; omega⟩
      · exact ⟨Nat.le_refl _, by show xb.length ≤ 1000; omega⟩
    refine s_forD (xs := rng 0 ((2 : Int)).toNat) (Ri := Is K) (J := fun x => JN 14 (Is K x)) (ei_range1 (K := K) (ea_cons ev_int ea_nil) (by decide)) S13 (fun x => go_name)
      (fun pre2 σ1 B1 H1 => ∃ o14, σ1 = [some (.ref a), some (.ref b), some v2, some (.int t.1), some (.int t.2.1), some (.int t.2.2), some v6, some v7, some (.int down), some v9, some v10, some (.ref lc), some v12, some v13, o14, none, none, none, none, none]) (fun B1 H1 S1 s1 => ⟨o14, rfl⟩) (fun pre2 x2 post2 σ1 B14 H14 B15 H15 hx2 S14 e14 ⟨o14, hs⟩ s15 σ2 j => ?_) (fun σ1 B14 H14 S14 e14 ⟨o14, hs⟩ => ?_)
    · subst hs
      obtain ⟨v14, r14, rfl⟩ := j
      have e1315 : Ex B13 B15 := e14.trans s15.bb
      have e1215 : Ex B12 B15 := s13.bb.trans e1315
      have Q9 : (Is K (Tu.mk [ra, rb])).P v9 B15 := Rp.mono _ e1215 R9
      have Q10 : (Is K [ca, cb]).P v10 B15 := Rp.mono _ e1215 r10
      have Q11 : (CouL K plans).P (.ref lc) B15 := ⟨lc, us, rfl, e1215 _ _ hlc, hus.mono e1215⟩
      have Q12 : (Is K [ra, rb]).P v12 B15 := Rp.mono _ e1315 r12
      have Q13 : (LstR (us.map ValR)).P v13 B15 := Rp.mono _ e1315 r13
      refine q_if (b := false) ((et_not (et_B (K := K) (ev_call (p := p__law_alike K) (partQ inM (fourQ ra rb ca cb)) (ea_cons (Ev.to (F := DatR K) (ev_call (p := p_parted K) ⟨W, ra, rb, plans⟩ (ea_cons (ev_ixLd (K := K) (xs := [ra, rb]) (i := 0) (ev_var (i := 12) rfl Q12) ev_int rfl) (ea_cons (ev_ixLd (K := K) (xs := [ra, rb]) (i := 1) (ev_var (i := 12) rfl Q12) ev_int rfl) (ea_cons (ev_var (i := 11) rfl Q11) ea_nil))) (pok ra rb hra hrb (by omega) hrbl)) (part_same n9 hpl9 hra hrb)) (ea_cons (ev_call (p := p__law_due K) ⟨ra, rb, ca, cb⟩ (ea_cons (ev_var (i := 9) rfl Q9) (ea_cons (ev_var (i := 10) rfl Q10) ea_nil)) trivial) ea_nil)) (sh ra rb ca cb (by omega) hrbl)))).to rfl) (S14.trans s15) (fun e => by cases e) (fun _ H16 S16 s16 => ?_)
      unfold tNext
      dsimp only
      refine q_if (b := false) ((et_not (et_B (K := K) (ev_call (p := p__law_alike K) (partQ inM (fourQ rb ra cb ca)) (ea_cons (Ev.to (F := DatR K) (ev_call (p := p_parted K) ⟨W, rb, ra, plans⟩ (ea_cons (ev_ixLd (K := K) (xs := [ra, rb]) (i := 1) (ev_var (i := 12) rfl Q12) ev_int rfl) (ea_cons (ev_ixLd (K := K) (xs := [ra, rb]) (i := 0) (ev_var (i := 12) rfl Q12) ev_int rfl) (ea_cons (ev_var (i := 11) rfl Q11) ea_nil))) (pok rb ra hrb hra hrbl (by omega))) (part_same n9 hpl9 hrb hra)) (ea_cons (ev_call (p := p__law_due K) ⟨rb, ra, cb, ca⟩ (ea_cons (ev_revT (K := K) (xs := Tu.mk [ra, rb]) (ev_var (i := 9) rfl Q9)) (ea_cons (ev_revL (K := K) (xs := [ca, cb]) (ev_var (i := 10) rfl Q10)) ea_nil)) trivial) ea_nil)) (sh rb ra cb ca hrbl (by omega))))).to rfl) S16 (fun e => by cases e) (fun _ H17 S17 s17 => ?_)
      dsimp only
      refine s_if (b := false) ((et_or (et_test (ev_ne (K := K) (x := [ra, rb]) (y := [ra, rb]) (ev_var (i := 12) rfl Q12) (Ev.to (F := Is K) (ev_lcMD (K := K) (xs := [ra, rb]) id (ei_tupD (ev_var (i := 9) rfl Q9)) (by simp) (fun x => go_name) fun l σ2 B' hb eb j => ?_) (List.map_id _)))) fun _ => et_test (ev_neIL (K := K) (Rs := us.map ValR) (ev_var (i := 13) rfl Q13) (ev_var (i := 11) rfl ⟨lc, us, rfl, e1215 _ _ hlc, args_val us _⟩) hur)).to (by simp)) S17 (fun e => by cases e) (fun _ H18 S18 s18 => ⟨B15, S18, s15.bb, some v14, rfl⟩)
      obtain ⟨v, hv, rfl⟩ := j
      exact ⟨rfl, ev_listD (K := K) (ev_var (i := 16) rfl hv)⟩
    · subst hs
      exact ⟨B14, S14, s4.bb.trans (s5.bb.trans (s6.bb.trans (s7.bb.trans (s8.bb.trans (s9.bb.trans (s10.bb.trans (s11.bb.trans (s12.bb.trans (s13.bb.trans e14))))))))), some v2, some (.int t.1), some (.int t.2.1), some (.int t.2.2), some v6, some v7, some (.int down), some v9, some v10, some (.ref lc), some v12, some v13, o14, rfl⟩
  · subst hs
    exact s_ret (ev_bl (K := K) (i := true)) S3 fun v B4 H4 S4 r4 => by rw [is_bool.mp r4]; exact q H4
end
end Pk

namespace Pk
open PySem PySem.Spec PyProof.Rows L2
def top (i : Nat) : Stmt := PySem.Challenge.pw_packedseats_k84_shelves_parted.main.body.getD i (.Pass ⟨0, 0, 0, 0⟩)
abbrev s_meets_bound : Stmt := top 2
theorem sc_meets_bound : FnScope ["row", "bound", "column", "way", "value"] ["row", "bound"] (defScope s_meets_bound) := ⟨rfl, rfl, rfl, by decide +kernel, rfl, by decide +kernel, by decide +kernel⟩
abbrev s_meets : Stmt := top 3
theorem sc_meets : FnScope ["row", "wish", "bound"] ["row", "wish"] (defScope s_meets) := ⟨rfl, rfl, rfl, by decide +kernel, rfl, by decide +kernel, by decide +kernel⟩
abbrev s_exactly : Stmt := top 4
theorem sc_exactly : FnScope ["row", "found", "column", "value"] ["row"] (defScope s_exactly) := ⟨rfl, rfl, rfl, by decide +kernel, rfl, by decide +kernel, by decide +kernel⟩
abbrev s_is_integer : Stmt := top 6
theorem sc_is_integer : FnScope ["thing"] ["thing"] (defScope s_is_integer) := ⟨rfl, rfl, rfl, by decide +kernel, rfl, by decide +kernel, by decide +kernel⟩
abbrev s_is_between : Stmt := top 7
theorem sc_is_between : FnScope ["thing", "least", "greatest"] ["thing", "least", "greatest"] (defScope s_is_between) := ⟨rfl, rfl, rfl, by decide +kernel, rfl, by decide +kernel, by decide +kernel⟩
abbrev s_Council_total : Stmt := inClass (top 38) 3
theorem sc_Council_total : FnScope ["self"] ["self"] (defScope s_Council_total) := ⟨rfl, rfl, rfl, by decide +kernel, rfl, by decide +kernel, by decide +kernel⟩
abbrev s_Council_allowance : Stmt := inClass (top 38) 5
theorem sc_Council_allowance : FnScope ["self", "side", "column", "way"] ["self", "side"] (defScope s_Council_allowance) := ⟨rfl, rfl, rfl, by decide +kernel, rfl, by decide +kernel, by decide +kernel⟩
abbrev s_rooms_of : Stmt := top 9
theorem sc_rooms_of : FnScope ["council", "sides", "side"] ["council", "sides"] (defScope s_rooms_of) := ⟨rfl, rfl, rfl, by decide +kernel, rfl, by decide +kernel, by decide +kernel⟩
abbrev s_fits : Stmt := top 10
theorem sc_fits : FnScope ["load", "tops", "one", "top"] ["load", "tops"] (defScope s_fits) := ⟨rfl, rfl, rfl, by decide +kernel, rfl, by decide +kernel, by decide +kernel⟩
abbrev s_next_loads : Stmt := top 11
theorem sc_next_loads : FnScope ["load", "weight", "some", "at", "one"] ["load", "weight"] (defScope s_next_loads) := ⟨rfl, rfl, rfl, by decide +kernel, rfl, by decide +kernel, by decide +kernel⟩
abbrev s_load_levels : Stmt := top 12
theorem sc_load_levels : FnScope ["weights", "rooms", "tops", "levels", "weight", "level", "load", "one"] ["weights", "rooms"] (defScope s_load_levels) := ⟨rfl, rfl, rfl, by decide +kernel, rfl, by decide +kernel, by decide +kernel⟩
abbrev s_first_fit : Stmt := top 13
theorem sc_first_fit : FnScope ["weights", "rooms", "left", "weight", "places", "index", "room"] ["weights", "rooms"] (defScope s_first_fit) := ⟨rfl, rfl, rfl, by decide +kernel, rfl, by decide +kernel, by decide +kernel⟩
abbrev s_can_pack : Stmt := top 14
theorem sc_can_pack : FnScope ["weights", "rooms", "some", "tops"] ["weights", "rooms"] (defScope s_can_pack) := ⟨rfl, rfl, rfl, by decide +kernel, rfl, by decide +kernel, by decide +kernel⟩
abbrev s_bits_of : Stmt := top 16
theorem sc_bits_of : FnScope ["many", "found", "index"] ["many"] (defScope s_bits_of) := ⟨rfl, rfl, rfl, by decide +kernel, rfl, by decide +kernel, by decide +kernel⟩
abbrev s_members : Stmt := top 17
theorem sc_members : FnScope ["items", "mask", "item", "bit"] ["items", "mask"] (defScope s_members) := ⟨rfl, rfl, rfl, by decide +kernel, rfl, by decide +kernel, by decide +kernel⟩
abbrev s_Packer___init__ : Stmt := inClass (top 18) 0
theorem sc_Packer___init__ : FnScope ["self", "weights", "rooms"] ["self", "weights", "rooms"] (defScope s_Packer___init__) := ⟨rfl, rfl, rfl, by decide +kernel, rfl, by decide +kernel, by decide +kernel⟩
abbrev s_Packer_is_heavy : Stmt := inClass (top 18) 1
theorem sc_Packer_is_heavy : FnScope ["self", "mask", "tops"] ["self", "mask"] (defScope s_Packer_is_heavy) := ⟨rfl, rfl, rfl, by decide +kernel, rfl, by decide +kernel, by decide +kernel⟩
abbrev s_heavy_masks : Stmt := top 19
theorem sc_heavy_masks : FnScope ["cases", "many", "packers", "bits", "found", "mask", "below", "weights", "rooms", "bit", "packer"] ["cases", "many"] (defScope s_heavy_masks) := ⟨rfl, rfl, rfl, by decide +kernel, rfl, by decide +kernel, by decide +kernel⟩
abbrev s_Council_weights : Stmt := inClass (top 38) 1
theorem sc_Council_weights : FnScope ["self"] ["self"] (defScope s_Council_weights) := ⟨rfl, rfl, rfl, by decide +kernel, rfl, by decide +kernel, by decide +kernel⟩
abbrev s_heavy_table : Stmt := top 20
theorem sc_heavy_table : FnScope ["councils", "sides", "council"] ["councils", "sides"] (defScope s_heavy_table) := ⟨rfl, rfl, rfl, by decide +kernel, rfl, by decide +kernel, by decide +kernel⟩
abbrev s_light_sets : Stmt := top 21
theorem sc_light_sets : FnScope ["councils", "sides", "some", "heavy", "bits", "found", "mask", "bit"] ["councils", "sides"] (defScope s_light_sets) := ⟨rfl, rfl, rfl, by decide +kernel, rfl, by decide +kernel, by decide +kernel⟩
abbrev s_all_sides : Stmt := top 23
theorem sc_all_sides : FnScope ["width", "column", "way"] ["width"] (defScope s_all_sides) := ⟨rfl, rfl, rfl, by decide +kernel, rfl, by decide +kernel, by decide +kernel⟩
abbrev s_Shelf___init__ : Stmt := inClass (top 25) 0
theorem sc_Shelf___init__ : FnScope ["self", "rows", "parts"] ["self", "rows", "parts"] (defScope s_Shelf___init__) := ⟨rfl, rfl, rfl, by decide +kernel, rfl, by decide +kernel, by decide +kernel⟩
abbrev s_Shelf_makes : Stmt := inClass (top 25) 1
theorem sc_Shelf_makes : FnScope ["self", "row", "bounds", "part", "some", "bound", "other"] ["self", "row"] (defScope s_Shelf_makes) := ⟨rfl, rfl, rfl, by decide +kernel, rfl, by decide +kernel, by decide +kernel⟩
abbrev s_parts_for : Stmt := top 26
theorem sc_parts_for : FnScope ["rows", "councils"] ["rows", "councils"] (defScope s_parts_for) := ⟨rfl, rfl, rfl, by decide +kernel, rfl, by decide +kernel, by decide +kernel⟩
abbrev s_parted : Stmt := top 27
theorem sc_parted : FnScope ["rows", "others", "councils", "parts", "which", "pair", "shelf", "index", "row"] ["rows", "others", "councils"] (defScope s_parted) := ⟨rfl, rfl, rfl, by decide +kernel, rfl, by decide +kernel, by decide +kernel⟩
abbrev s_are_weights : Stmt := top 36
theorem sc_are_weights : FnScope ["thing", "weight"] ["thing"] (defScope s_are_weights) := ⟨rfl, rfl, rfl, by decide +kernel, rfl, by decide +kernel, by decide +kernel⟩
abbrev s_are_quotas : Stmt := top 37
theorem sc_are_quotas : FnScope ["thing", "total", "quota"] ["thing", "total"] (defScope s_are_quotas) := ⟨rfl, rfl, rfl, by decide +kernel, rfl, by decide +kernel, by decide +kernel⟩
abbrev s_Council___init__ : Stmt := inClass (top 38) 0
theorem sc_Council___init__ : FnScope ["self", "weights", "quotas"] ["self", "weights", "quotas"] (defScope s_Council___init__) := ⟨rfl, rfl, rfl, by decide +kernel, rfl, by decide +kernel, by decide +kernel⟩
abbrev s__law_bag : Stmt := top 40
theorem sc__law_bag : FnScope ["script", "cell"] ["script"] (defScope s__law_bag) := ⟨rfl, rfl, rfl, by decide +kernel, rfl, by decide +kernel, by decide +kernel⟩
abbrev s__law_take : Stmt := top 41
theorem sc__law_take : FnScope ["bag", "many", "first", "second", "cell", "value"] ["bag", "many"] (defScope s__law_take) := ⟨rfl, rfl, rfl, by decide +kernel, rfl, by decide +kernel, by decide +kernel⟩
abbrev s__law_alike : Stmt := top 42
theorem sc__law_alike : FnScope ["found", "due"] ["found", "due"] (defScope s__law_alike) := ⟨rfl, rfl, rfl, by decide +kernel, rfl, by decide +kernel, by decide +kernel⟩
abbrev s__law_council : Stmt := top 43
theorem sc__law_council : FnScope ["bag", "width", "most", "seats", "way", "weights", "total", "quotas", "column", "some", "k"] ["bag", "width", "most"] (defScope s__law_council) := ⟨rfl, rfl, rfl, by decide +kernel, rfl, by decide +kernel, by decide +kernel⟩
abbrev s__law_made : Stmt := top 44
theorem sc__law_made : FnScope ["parts"] ["parts"] (defScope s__law_made) := ⟨rfl, rfl, rfl, by decide +kernel, rfl, by decide +kernel, by decide +kernel⟩
abbrev s__law_settle : Stmt := top 45
theorem sc__law_settle : FnScope ["parts", "rows", "weights", "quotas", "found", "column", "reached", "entry", "value", "weight", "k"] ["parts", "rows"] (defScope s__law_settle) := ⟨rfl, rfl, rfl, by decide +kernel, rfl, by decide +kernel, by decide +kernel⟩
abbrev s__law_row : Stmt := top 46
theorem sc__law_row : FnScope ["bag", "width", "top", "column"] ["bag", "width", "top"] (defScope s__law_row) := ⟨rfl, rfl, rfl, by decide +kernel, rfl, by decide +kernel, by decide +kernel⟩
abbrev s__law_every : Stmt := top 47
theorem sc__law_every : FnScope ["councils", "rows", "found", "many", "new", "parts", "seatings", "weight", "longer", "one", "row"] ["councils", "rows"] (defScope s__law_every) := ⟨rfl, rfl, rfl, by decide +kernel, rfl, by decide +kernel, by decide +kernel⟩
abbrev s__law_due : Stmt := top 48
theorem sc__law_due : FnScope ["pair", "closures", "which", "index", "row"] ["pair", "closures"] (defScope s__law_due) := ⟨rfl, rfl, rfl, by decide +kernel, rfl, by decide +kernel, by decide +kernel⟩
abbrev s__law_other : Stmt := top 49
theorem sc__law_other : FnScope ["bag", "plans", "rows", "width", "top", "whole", "other", "way", "some", "one"] ["bag", "plans", "rows", "width", "top"] (defScope s__law_other) := ⟨rfl, rfl, rfl, by decide +kernel, rfl, by decide +kernel, by decide +kernel⟩
abbrev s_law : Stmt := top 50
theorem sc_law : FnScope ["script", "bag", "k", "width", "top", "most", "plans", "rows", "down", "pair", "closures", "councils", "handed", "given", "turn", "one", "some", "parts", "row", "entry"] ["script"] (defScope s_law) := ⟨rfl, rfl, rfl, by decide +kernel, rfl, by decide +kernel, by decide +kernel⟩
structure Tx (K : PySem.W.Frag) (mg : Str → Option Value) : Prop where
  d_meets_bound : DefOf K "meets_bound" "meets_bound" s_meets_bound (He.ga K "meets_bound")
  g_meets_bound : mg "meets_bound" = some (.ref (He.ga K "meets_bound"))
  d_meets : DefOf K "meets" "meets" s_meets (He.ga K "meets")
  g_meets : mg "meets" = some (.ref (He.ga K "meets"))
  d_exactly : DefOf K "exactly" "exactly" s_exactly (He.ga K "exactly")
  g_exactly : mg "exactly" = some (.ref (He.ga K "exactly"))
  d_is_integer : DefOf K "is_integer" "is_integer" s_is_integer (He.ga K "is_integer")
  g_is_integer : mg "is_integer" = some (.ref (He.ga K "is_integer"))
  d_is_between : DefOf K "is_between" "is_between" s_is_between (He.ga K "is_between")
  g_is_between : mg "is_between" = some (.ref (He.ga K "is_between"))
  d_Council_total : DefOf K "total" "Council.total" s_Council_total (He.ma K (He.ga K "Council") "total")
  m_Council_total : Meth K (He.ga K "Council") "total" (He.ma K (He.ga K "Council") "total")
  d_Council_allowance : DefOf K "allowance" "Council.allowance" s_Council_allowance (He.ma K (He.ga K "Council") "allowance")
  m_Council_allowance : Meth K (He.ga K "Council") "allowance" (He.ma K (He.ga K "Council") "allowance")
  d_rooms_of : DefOf K "rooms_of" "rooms_of" s_rooms_of (He.ga K "rooms_of")
  g_rooms_of : mg "rooms_of" = some (.ref (He.ga K "rooms_of"))
  d_fits : DefOf K "fits" "fits" s_fits (He.ga K "fits")
  g_fits : mg "fits" = some (.ref (He.ga K "fits"))
  d_next_loads : DefOf K "next_loads" "next_loads" s_next_loads (He.ga K "next_loads")
  g_next_loads : mg "next_loads" = some (.ref (He.ga K "next_loads"))
  d_load_levels : DefOf K "load_levels" "load_levels" s_load_levels (He.ga K "load_levels")
  g_load_levels : mg "load_levels" = some (.ref (He.ga K "load_levels"))
  d_first_fit : DefOf K "first_fit" "first_fit" s_first_fit (He.ga K "first_fit")
  g_first_fit : mg "first_fit" = some (.ref (He.ga K "first_fit"))
  d_can_pack : DefOf K "can_pack" "can_pack" s_can_pack (He.ga K "can_pack")
  g_can_pack : mg "can_pack" = some (.ref (He.ga K "can_pack"))
  d_bits_of : DefOf K "bits_of" "bits_of" s_bits_of (He.ga K "bits_of")
  g_bits_of : mg "bits_of" = some (.ref (He.ga K "bits_of"))
  d_members : DefOf K "members" "members" s_members (He.ga K "members")
  g_members : mg "members" = some (.ref (He.ga K "members"))
  d_Packer___init__ : DefOf K "__init__" "Packer.__init__" s_Packer___init__ (He.ma K (He.ga K "Packer") "__init__")
  d_Packer_is_heavy : DefOf K "is_heavy" "Packer.is_heavy" s_Packer_is_heavy (He.ma K (He.ga K "Packer") "is_heavy")
  m_Packer_is_heavy : Meth K (He.ga K "Packer") "is_heavy" (He.ma K (He.ga K "Packer") "is_heavy")
  d_heavy_masks : DefOf K "heavy_masks" "heavy_masks" s_heavy_masks (He.ga K "heavy_masks")
  g_heavy_masks : mg "heavy_masks" = some (.ref (He.ga K "heavy_masks"))
  d_Council_weights : DefOf K "weights" "Council.weights" s_Council_weights (He.ma K (He.ga K "Council") "weights")
  m_Council_weights : Meth K (He.ga K "Council") "weights" (He.ma K (He.ga K "Council") "weights")
  d_heavy_table : DefOf K "heavy_table" "heavy_table" s_heavy_table (He.ga K "heavy_table")
  g_heavy_table : mg "heavy_table" = some (.ref (He.ga K "heavy_table"))
  d_light_sets : DefOf K "light_sets" "light_sets" s_light_sets (He.ga K "light_sets")
  g_light_sets : mg "light_sets" = some (.ref (He.ga K "light_sets"))
  d_all_sides : DefOf K "all_sides" "all_sides" s_all_sides (He.ga K "all_sides")
  g_all_sides : mg "all_sides" = some (.ref (He.ga K "all_sides"))
  d_Shelf___init__ : DefOf K "__init__" "Shelf.__init__" s_Shelf___init__ (He.ma K (He.ga K "Shelf") "__init__")
  d_Shelf_makes : DefOf K "makes" "Shelf.makes" s_Shelf_makes (He.ma K (He.ga K "Shelf") "makes")
  m_Shelf_makes : Meth K (He.ga K "Shelf") "makes" (He.ma K (He.ga K "Shelf") "makes")
  d_parts_for : DefOf K "parts_for" "parts_for" s_parts_for (He.ga K "parts_for")
  g_parts_for : mg "parts_for" = some (.ref (He.ga K "parts_for"))
  d_parted : DefOf K "parted" "parted" s_parted (He.ga K "parted")
  g_parted : mg "parted" = some (.ref (He.ga K "parted"))
  d_are_weights : DefOf K "are_weights" "are_weights" s_are_weights (He.ga K "are_weights")
  g_are_weights : mg "are_weights" = some (.ref (He.ga K "are_weights"))
  d_are_quotas : DefOf K "are_quotas" "are_quotas" s_are_quotas (He.ga K "are_quotas")
  g_are_quotas : mg "are_quotas" = some (.ref (He.ga K "are_quotas"))
  d_Council___init__ : DefOf K "__init__" "Council.__init__" s_Council___init__ (He.ma K (He.ga K "Council") "__init__")
  d__law_bag : DefOf K "_law_bag" "_law_bag" s__law_bag (He.ga K "_law_bag")
  g__law_bag : mg "_law_bag" = some (.ref (He.ga K "_law_bag"))
  d__law_take : DefOf K "_law_take" "_law_take" s__law_take (He.ga K "_law_take")
  g__law_take : mg "_law_take" = some (.ref (He.ga K "_law_take"))
  d__law_alike : DefOf K "_law_alike" "_law_alike" s__law_alike (He.ga K "_law_alike")
  g__law_alike : mg "_law_alike" = some (.ref (He.ga K "_law_alike"))
  d__law_council : DefOf K "_law_council" "_law_council" s__law_council (He.ga K "_law_council")
  g__law_council : mg "_law_council" = some (.ref (He.ga K "_law_council"))
  d__law_made : DefOf K "_law_made" "_law_made" s__law_made (He.ga K "_law_made")
  g__law_made : mg "_law_made" = some (.ref (He.ga K "_law_made"))
  d__law_settle : DefOf K "_law_settle" "_law_settle" s__law_settle (He.ga K "_law_settle")
  g__law_settle : mg "_law_settle" = some (.ref (He.ga K "_law_settle"))
  d__law_row : DefOf K "_law_row" "_law_row" s__law_row (He.ga K "_law_row")
  g__law_row : mg "_law_row" = some (.ref (He.ga K "_law_row"))
  d__law_every : DefOf K "_law_every" "_law_every" s__law_every (He.ga K "_law_every")
  g__law_every : mg "_law_every" = some (.ref (He.ga K "_law_every"))
  d__law_due : DefOf K "_law_due" "_law_due" s__law_due (He.ga K "_law_due")
  g__law_due : mg "_law_due" = some (.ref (He.ga K "_law_due"))
  d__law_other : DefOf K "_law_other" "_law_other" s__law_other (He.ga K "_law_other")
  g__law_other : mg "_law_other" = some (.ref (He.ga K "_law_other"))
  d_law : DefOf K "law" "law" s_law (He.ga K "law")
  g_law : mg "law" = some (.ref (He.ga K "law"))
  m_Council : Mk K (He.ga K "Council") (He.ma K (He.ga K "Council") "__init__")
  g_Council : mg "Council" = some (.ref (He.ga K "Council"))
  m_Packer : Mk K (He.ga K "Packer") (He.ma K (He.ga K "Packer") "__init__")
  g_Packer : mg "Packer" = some (.ref (He.ga K "Packer"))
  m_Shelf : Mk K (He.ga K "Shelf") (He.ma K (He.ga K "Shelf") "__init__")
  g_Shelf : mg "Shelf" = some (.ref (He.ga K "Shelf"))
  b_abs : mg "abs" = none
  b_all : mg "all" = none
  b_any : mg "any" = none
  b_bool : mg "bool" = none
  b_enumerate : mg "enumerate" = none
  b_int : mg "int" = none
  b_isinstance : mg "isinstance" = none
  b_len : mg "len" = none
  b_list : mg "list" = none
  b_max : mg "max" = none
  b_range : mg "range" = none
  b_repr : mg "repr" = none
  b_set : mg "set" = none
  b_sorted : mg "sorted" = none
  b_sum : mg "sum" = none
  b_tuple : mg "tuple" = none
  b_zip : mg "zip" = none
  c_LEAST_SEATS : ∃ t, mg "LEAST_SEATS" = some (.int (2) t)
  c_MOST_COLUMNS : ∃ t, mg "MOST_COLUMNS" = some (.int (6) t)
  c_MOST_SEATS : ∃ t, mg "MOST_SEATS" = some (.int (7) t)
  c_MOST_WEIGHT : ∃ t, mg "MOST_WEIGHT" = some (.int (1000000) t)
  l_Council : Cls K (He.ga K "Council")
  l_Packer : Cls K (He.ga K "Packer")
  l_Shelf : Cls K (He.ga K "Shelf")
  n_Council_column_quotas : NoAttr K (He.ga K "Council") "column_quotas"
  n_Council_seat_weights : NoAttr K (He.ga K "Council") "seat_weights"
  n_Packer_its_answers : NoAttr K (He.ga K "Packer") "its_answers"
  n_Packer_its_rooms : NoAttr K (He.ga K "Packer") "its_rooms"
  n_Packer_its_weights : NoAttr K (He.ga K "Packer") "its_weights"
  n_Shelf_its_parts : NoAttr K (He.ga K "Shelf") "its_parts"
  n_Shelf_its_rows : NoAttr K (He.ga K "Shelf") "its_rows"
theorem Tx.kn_ {K : PySem.W.Frag} {mg : Str → Option Value} (T : Tx K mg) : Kn0 K := ⟨⟩
theorem Tx.kn_Council {K : PySem.W.Frag} {mg : Str → Option Value} (T : Tx K mg) : Kn_Council K := ⟨T.l_Council, T.n_Council_seat_weights, T.n_Council_column_quotas⟩
theorem Tx.kn_Packer {K : PySem.W.Frag} {mg : Str → Option Value} (T : Tx K mg) : Kn_Packer K := ⟨T.l_Packer, T.n_Packer_its_weights, T.n_Packer_its_rooms, T.n_Packer_its_answers⟩
theorem Tx.kn_Shelf {K : PySem.W.Frag} {mg : Str → Option Value} (T : Tx K mg) : Kn_Shelf K := ⟨T.l_Shelf, T.n_Shelf_its_rows, T.n_Shelf_its_parts⟩
section
variable {P : Program} {w : World} {K : PySem.W.Frag} {mg : Str → Option Value} {base : Heap}
theorem ok_meets_bound (T : Tx K mg) : FnX P w K mg base 1 (He.ga K "meets_bound") ["row", "bound"] (sp_meets_bound K) :=
  FnX.of (tr := t_meets_bound K) T.d_meets_bound sc_meets_bound (len_meets_bound K) (fun _ _ _ _ _ _ us hl => match us, hl with | [_, _], _ => rfl) (pure_meets_bound T.kn_) fun fd cdv A outer s H E hr =>
  (pss_cons (ps_asg (pv 1) (pg_tup rfl (pgs_cons (pg_name (i := 2) sc_meets_bound.nd rfl (Or.inl rfl)) (pgs_cons (pg_name (i := 3) sc_meets_bound.nd rfl (Or.inl rfl)) (pgs_cons (pg_name (i := 4) sc_meets_bound.nd rfl (Or.inl rfl)) pgs_nil)))))
  (pss_cons (ps_if (pt_cmpR (op_eqD (u64 hr)) (pv 3) pe_str (nomark _)) (pss_one (ps_ret (pe_cmpR op_geI (pe_ix ix_tup (pv 0) (pv 2) (fun _ _ => rfl)) (pv 4) (nomark _)))) pss_nil)
  (pss_one (ps_ret (pe_cmpR op_leI (pe_ix ix_tup (pv 0) (pv 2) (fun _ _ => rfl)) (pv 4) (nomark _))))))
theorem ok_meets (T : Tx K mg) : FnX P w K mg base 2 (He.ga K "meets") ["row", "wish"] (sp_meets K) :=
  FnX.of (tr := t_meets K) T.d_meets sc_meets (len_meets K) (fun _ _ _ _ _ _ us hl => match us, hl with | [_, _], _ => rfl) (pure_meets T.kn_) fun fd cdv A outer s H E hr =>
  (pss_one (ps_ret (pe_callB (cr_all rfl) (by rfl) T.b_all (by decide +kernel) (pa_cons (pe_lc (own := [("bound", 2)]) (g := (gName 2)) (tt := tYes) rfl sc_meets.nd (pi_list (pv 1)) (blkOk_by rfl) (fun _ _ _ _ _ => (pg_name (i := 2) sc_meets.nd rfl (Or.inl rfl))) (fun _ _ _ _ _ => pts_nil) (fun _ _ _ _ _ => (pe_cal (ok_meets_bound T) T.g_meets_bound hr (by decide) rfl (pa_cons (pv 0) (pa_cons (pv 2) pa_nil))))) pa_nil))))
theorem ok_exactly (T : Tx K mg) : FnX P w K mg base 1 (He.ga K "exactly") ["row"] (sp_exactly K) :=
  FnX.of (tr := t_exactly K) T.d_exactly sc_exactly (len_exactly K) (fun _ _ _ _ _ _ us hl => match us, hl with | [_], _ => rfl) (pure_exactly T.kn_) fun fd cdv A outer s H E hr =>
  (pss_cons (ps_set (i := 1) sc_exactly.nd rfl (Or.inl rfl) (pe_lst pa_nil))
  (pss_cons (ps_for PassesOwn.never rfl (pi_enumM false rfl T.b_enumerate (pa_cons (pv 0) pa_nil)) (pg_tup rfl (pgs_cons (pg_name (i := 2) sc_exactly.nd rfl (Or.inl rfl)) (pgs_cons (pg_name (i := 3) sc_exactly.nd rfl (Or.inl rfl)) pgs_nil))) (pss_one (ps_expr (pe_bm PySem.F.plainAttrs_list PySem.F.slot_list_extend PySem.F.type_list_extend mt_extend (pv 1) (pa_cons (pe_lst (pa_cons (pe_tup (pa_cons (pv 2) (pa_cons pe_str (pa_cons (pv 3) pa_nil)))) (pa_cons (pe_tup (pa_cons (pv 2) (pa_cons pe_str (pa_cons (pv 3) pa_nil)))) pa_nil))) pa_nil)))))
  (pss_one (ps_ret (pv 1)))))
theorem ok_is_integer (T : Tx K mg) : FnX P w K mg base 1 (He.ga K "is_integer") ["thing"] (sp_is_integer K) :=
  FnX.of (tr := t_is_integer K) T.d_is_integer sc_is_integer (len_is_integer K) (fun _ _ _ _ _ _ us hl => match us, hl with | [_], _ => rfl) (pure_is_integer T.kn_) fun fd cdv A outer s H E hr =>
  (pss_one (ps_ret (pe_and (pe_callB call_isi (by rfl) T.b_isinstance (by decide +kernel) (pa_cons (pv 0) (pa_cons (pe_bltn (v := .ty "int") rfl T.b_int (by decide +kernel) rfl) pa_nil))) (pe_one (pe_not (pe_callB call_isi (by rfl) T.b_isinstance (by decide +kernel) (pa_cons (pv 0) (pa_cons (pe_bltn (v := .ty "bool") rfl T.b_bool (by decide +kernel) rfl) pa_nil))))))))
theorem ok_is_between (T : Tx K mg) : FnX P w K mg base 2 (He.ga K "is_between") ["thing", "least", "greatest"] (sp_is_between K) :=
  FnX.of (tr := t_is_between K) T.d_is_between sc_is_between (len_is_between K) (fun _ _ _ _ _ _ us hl => match us, hl with | [_, _, _], _ => rfl) (pure_is_between T.kn_) fun fd cdv A outer s H E hr =>
  (pss_one (ps_ret (pe_and (pe_cal (ok_is_integer T) T.g_is_integer hr (by decide) rfl (pa_cons (pv 0) pa_nil)) (pe_one (pe_chain op_leI op_leI (pv 1) (pv 0) (pv 2))))))
theorem ok_Council_total (T : Tx K mg) : FnX P w K mg base 1 (He.ma K (He.ga K "Council") "total") ["self"] (sp_Council_total K) :=
  FnX.of (tr := t_Council_total K) T.d_Council_total sc_Council_total (len_Council_total K) (fun _ _ _ _ _ _ us hl => match us, hl with | [_], _ => rfl) (pure_Council_total T.kn_Council) fun fd cdv A outer s H E hr =>
  (pss_one (ps_ret (pe_callB (cr_sum rfl) (by rfl) T.b_sum (by decide +kernel) (pa_cons (pe_fld (pv 0) rfl) pa_nil))))
theorem ok_Council_allowance (T : Tx K mg) : FnX P w K mg base 2 (He.ma K (He.ga K "Council") "allowance") ["self", "side"] (sp_Council_allowance K) :=
  FnX.of (tr := t_Council_allowance K) T.d_Council_allowance sc_Council_allowance (len_Council_allowance K) (fun _ _ _ _ _ _ us hl => match us, hl with | [_, _], _ => rfl) (pure_Council_allowance T.kn_Council) fun fd cdv A outer s H E hr =>
  (pss_cons (ps_asg (pv 1) (pg_tup rfl (pgs_cons (pg_name (i := 2) sc_Council_allowance.nd rfl (Or.inl rfl)) (pgs_cons (pg_name (i := 3) sc_Council_allowance.nd rfl (Or.inl rfl)) pgs_nil))))
  (pss_cons (ps_if (pt_cmpR (op_eqD (u64 hr)) (pv 3) pe_str (nomark _)) (pss_one (ps_ret (pe_op op_subI (pe_ix ix_list (pe_fld (pv 0) rfl) (pv 2) (fun _ _ => rfl)) pe_int))) pss_nil)
  (pss_one (ps_ret (pe_op op_subI (pe_met0 (ok_Council_total T) T.l_Council T.m_Council_total hr (by decide) (pv 0)) (pe_ix ix_list (pe_fld (pv 0) rfl) (pv 2) (fun _ _ => rfl)))))))
theorem ok_rooms_of (T : Tx K mg) : FnX P w K mg base 3 (He.ga K "rooms_of") ["council", "sides"] (sp_rooms_of K) :=
  FnX.of (tr := t_rooms_of K) T.d_rooms_of sc_rooms_of (len_rooms_of K) (fun _ _ _ _ _ _ us hl => match us, hl with | [_, _], _ => rfl) (pure_rooms_of T.kn_Council) fun fd cdv A outer s H E hr =>
  (pss_one (ps_ret (pe_lc (own := [("side", 2)]) (g := (gName 2)) (tt := tYes) rfl sc_rooms_of.nd (pi_list (pv 1)) (blkOk_by rfl) (fun _ _ _ _ _ => (pg_name (i := 2) sc_rooms_of.nd rfl (Or.inl rfl))) (fun _ _ _ _ _ => pts_nil) (fun _ _ _ _ _ => (pe_met (ok_Council_allowance T) T.l_Council T.m_Council_allowance hr (by decide) (pv 0) (pa_cons (pv 2) pa_nil))))))
theorem ok_fits (T : Tx K mg) : FnX P w K mg base 1 (He.ga K "fits") ["load", "tops"] (sp_fits K) :=
  FnX.of (tr := t_fits K) T.d_fits sc_fits (len_fits K) (fun _ _ _ _ _ _ us hl => match us, hl with | [_, _], _ => rfl) (pure_fits T.kn_) fun fd cdv A outer s H E hr =>
  (pss_one (ps_ret (pe_and (pe_cmpR op_leI (pe_callB cr_len (by rfl) T.b_len (by decide +kernel) (pa_cons (pv 0) pa_nil)) (pe_callB cr_len (by rfl) T.b_len (by decide +kernel) (pa_cons (pv 1) pa_nil)) (nomark _)) (pe_one (pe_callB (cr_all rfl) (by rfl) T.b_all (by decide +kernel) (pa_cons (pe_lc (own := [("one", 2), ("top", 3)]) (g := (gTup K 2 (gCons (gName 2) (gCons (gName 3) gNil)))) (tt := tYes) rfl sc_fits.nd (pi_zipM false true rfl T.b_zip (pa_cons (pv 0) (pa_cons (pv 1) pa_nil))) (blkOk_by rfl) (fun _ _ _ _ _ => (pg_tup rfl (pgs_cons (pg_name (i := 2) sc_fits.nd rfl (Or.inl rfl)) (pgs_cons (pg_name (i := 3) sc_fits.nd rfl (Or.inl rfl)) pgs_nil)))) (fun _ _ _ _ _ => pts_nil) (fun _ _ _ _ _ => (pe_cmpR op_leI (pv 2) (pv 3) (nomark _)))) pa_nil))))))
theorem ok_next_loads (T : Tx K mg) : FnX P w K mg base 1 (He.ga K "next_loads") ["load", "weight"] (sp_next_loads K) :=
  FnX.of (tr := t_next_loads K) T.d_next_loads sc_next_loads (len_next_loads K) (fun _ _ _ _ _ _ us hl => match us, hl with | [_, _], _ => rfl) (pure_next_loads T.kn_) fun fd cdv A outer s H E hr =>
  (pss_cons (ps_set (i := 2) sc_next_loads.nd rfl (Or.inl rfl) (pe_lst (pa_cons (pe_op op_catA (pv 0) (pe_tup (pa_cons (pv 1) pa_nil))) pa_nil)))
  (pss_cons (ps_for PassesOwn.never rfl (pi_range1 rfl T.b_range (pa_cons (pe_callB cr_len (by rfl) T.b_len (by decide +kernel) (pa_cons (pv 0) pa_nil)) pa_nil)) (pg_name (i := 3) sc_next_loads.nd rfl (Or.inl rfl)) (pss_one (ps_expr (pe_bm PySem.F.plainAttrs_list PySem.F.slot_list_append PySem.F.type_list_append mt_append (pv 2) (pa_cons (pe_op op_catA (pe_op op_catA (pe_slice sl_tupA (pv 0) po_none (po_some (pv 3))) (pe_tup (pa_cons (pe_op op_addI (pe_ix ix_tup (pv 0) (pv 3) (fun _ _ => rfl)) (pv 1)) pa_nil))) (pe_slice sl_tupA (pv 0) (po_some (pe_op op_addI (pv 3) pe_int)) po_none)) pa_nil)))))
  (pss_one (ps_ret (pe_lc (own := [("one", 4)]) (g := (gName 4)) (tt := tYes) rfl sc_next_loads.nd (pi_list (pv 2)) (blkOk_by rfl) (fun _ _ _ _ _ => (pg_name (i := 4) sc_next_loads.nd rfl (Or.inl rfl))) (fun _ _ _ _ _ => pts_nil) (fun _ _ _ _ _ => (pe_tupleOf rfl T.b_tuple (pe_callBK (cr_sortB (u64 hr)) (by rfl) T.b_sorted (by decide +kernel) (pa_cons (pv 4) pa_nil) (pk_cons pe_bl pk_nil)))))))))
theorem ok_load_levels (T : Tx K mg) : FnX P w K mg base 2 (He.ga K "load_levels") ["weights", "rooms"] (sp_load_levels K) :=
  FnX.of (tr := t_load_levels K) T.d_load_levels sc_load_levels (len_load_levels K) (fun _ _ _ _ _ _ us hl => match us, hl with | [_, _], _ => rfl) (pure_load_levels T.kn_) fun fd cdv A outer s H E hr =>
  (pss_cons (ps_set (i := 2) sc_load_levels.nd rfl (Or.inl rfl) (pe_callBK (cr_sortB (u64 hr)) (by rfl) T.b_sorted (by decide +kernel) (pa_cons (pv 1) pa_nil) (pk_cons pe_bl pk_nil)))
  (pss_cons (ps_set (i := 3) sc_load_levels.nd rfl (Or.inl rfl) (pe_lst (pa_cons (pe_lst (pa_cons (pe_tup pa_nil) pa_nil)) pa_nil)))
  (pss_cons (ps_for PassesOwn.never rfl (pi_list (pv 0)) (pg_name (i := 4) sc_load_levels.nd rfl (Or.inl rfl)) (pss_cons (ps_set (i := 5) sc_load_levels.nd rfl (Or.inl rfl) pe_dnewT)
  (pss_cons (ps_for PassesOwn.never rfl (pi_list (pe_ix ix_list (pv 3) (pe_un un_negR pe_int) (fun _ _ => rfl))) (pg_name (i := 6) sc_load_levels.nd rfl (Or.inl rfl)) (pss_one (ps_for PassesOwn.never rfl (pi_list (pe_cal (ok_next_loads T) T.g_next_loads hr (by decide) rfl (pa_cons (pv 6) (pa_cons (pv 4) pa_nil)))) (pg_name (i := 7) sc_load_levels.nd rfl (Or.inl rfl)) (pss_one (ps_if (PW.pt (pw_and (pt_cmp (pc_dnotin (hu_of hr) (pv 7) (pv 5))) (pw_and1 (pt_val (pe_cal (ok_fits T) T.g_fits hr (by decide) rfl (pa_cons (pv 7) (pa_cons (pv 2) pa_nil))))))) (pss_one (ps_dput (hu_of hr) (pv 5) (pv 7) pe_bl rfl)) pss_nil)))))
  (pss_one (ps_expr (pe_bm PySem.F.plainAttrs_list PySem.F.slot_list_append PySem.F.type_list_append mt_append (pv 3) (pa_cons (pe_callB (cr_sortD (u64 hr)) (by rfl) T.b_sorted (by decide +kernel) (pa_cons (pe_callTy (cr_listT rfl) (by rfl) T.b_list (by decide +kernel) (pa_cons (pv 5) pa_nil)) pa_nil)) pa_nil)))))))
  (pss_one (ps_ret (pv 3))))))
theorem ok_first_fit (T : Tx K mg) : FnX P w K mg base 1 (He.ga K "first_fit") ["weights", "rooms"] (sp_first_fit K) :=
  FnX.of (tr := t_first_fit K) T.d_first_fit sc_first_fit (len_first_fit K) (fun _ _ _ _ _ _ us hl => match us, hl with | [_, _], _ => rfl) (pure_first_fit T.kn_) fun fd cdv A outer s H E hr =>
  (pss_cons (ps_set (i := 2) sc_first_fit.nd rfl (Or.inl rfl) (pe_callTy cr_listOf (by rfl) T.b_list (by decide +kernel) (pa_cons (pv 1) pa_nil)))
  (pss_cons (ps_for PassesOwn.never rfl (pi_list (pv 0)) (pg_name (i := 3) sc_first_fit.nd rfl (Or.inr rfl)) (pss_cons (ps_setLc (i := 4) (own := [("index", 5), ("room", 6)]) (g := (gTup K 2 (gCons (gName 5) (gCons (gName 6) gNil)))) (tt := (tTest (tOp rGeI (tVar 6) (tVar 3)))) rfl sc_first_fit.nd rfl rfl (sw_true rfl rfl rfl (by decide +kernel)) (pi_enum rfl T.b_enumerate (pa_cons (pv 2) pa_nil)) (blkOk_by rfl) (fun _ _ _ _ _ => (pg_tup rfl (pgs_cons (pg_name (i := 5) sc_first_fit.nd rfl (Or.inl rfl)) (pgs_cons (pg_name (i := 6) sc_first_fit.nd rfl (Or.inl rfl)) pgs_nil)))) (fun _ _ _ _ _ => pts_one (pt_cmpR op_geI (pv 6) (pv 3) (nomark _))) (fun _ _ _ _ _ => (pv 5)))
  (pss_cons (ps_if (pt_cmpR (op_eqD (u64 hr)) (pv 4) (pe_lst pa_nil) (nomark _)) (pss_one (ps_ret pe_bl)) pss_nil)
  (pss_one (ps_augS (pv 2) (pe_ix ix_list (pv 4) pe_int (fun _ _ => rfl)) get_list (pv 3) ip_sub set_list)))))
  (pss_one (ps_ret pe_bl))))
theorem ok_can_pack (T : Tx K mg) : FnX P w K mg base 3 (He.ga K "can_pack") ["weights", "rooms"] (sp_can_pack K) :=
  FnX.of (tr := t_can_pack K) T.d_can_pack sc_can_pack (len_can_pack K) (fun _ _ _ _ _ _ us hl => match us, hl with | [_, _], _ => rfl) (pure_can_pack T.kn_) fun fd cdv A outer s H E hr =>
  (pss_cons (ps_par rfl sc_can_pack.nd rfl rfl (by decide) rfl rfl (pa_cons (pe_callBK (cr_sortB (u64 hr)) (by rfl) T.b_sorted (by decide +kernel) (pa_cons (pv 0) pa_nil) (pk_cons pe_bl pk_nil)) (pa_cons (pe_callBK (cr_sortB (u64 hr)) (by rfl) T.b_sorted (by decide +kernel) (pa_cons (pv 1) pa_nil) (pk_cons pe_bl pk_nil)) pa_nil)) rfl)
  (pss_cons (ps_if (PW.pt (pw_or (pt_cmpR (op_eqD (u64 hr)) (pv 3) (pe_lst pa_nil) (nomark _)) (pw_or (pt_cmpR op_gtI (pe_ix ix_list (pv 2) pe_int (fun _ _ => rfl)) (pe_ix ix_list (pv 3) pe_int (fun _ _ => rfl)) (nomark _)) (pw_or1 (pt_cmpR op_gtI (pe_callB (cr_sum rfl) (by rfl) T.b_sum (by decide +kernel) (pa_cons (pv 2) pa_nil)) (pe_callB (cr_sum rfl) (by rfl) T.b_sum (by decide +kernel) (pa_cons (pv 3) pa_nil)) (nomark _)))))) (pss_one (ps_ret pe_bl)) pss_nil)
  (pss_one (ps_ret (pe_or (pe_cal (ok_first_fit T) T.g_first_fit hr (by decide) rfl (pa_cons (pv 2) (pa_cons (pv 3) pa_nil))) (pe_one (pe_cmpR (op_neD (u64 hr)) (pe_ix ix_list (pe_cal (ok_load_levels T) T.g_load_levels hr (by decide) rfl (pa_cons (pv 2) (pa_cons (pv 3) pa_nil))) (pe_un un_negR pe_int) (fun _ _ => rfl)) (pe_lst pa_nil) (nomark _))))))))
theorem ok_bits_of (T : Tx K mg) : FnX P w K mg base 1 (He.ga K "bits_of") ["many"] (sp_bits_of K) :=
  FnX.of (tr := t_bits_of K) T.d_bits_of sc_bits_of (len_bits_of K) (fun _ _ _ _ _ _ us hl => match us, hl with | [_], _ => rfl) (pure_bits_of T.kn_) fun fd cdv A outer s H E hr =>
  (pss_cons (ps_set (i := 1) sc_bits_of.nd rfl (Or.inl rfl) (pe_lst pa_nil))
  (pss_cons (ps_for PassesOwn.never rfl (pi_range1 rfl T.b_range (pa_cons (pv 0) pa_nil)) (pg_name (i := 2) sc_bits_of.nd rfl (Or.inl rfl)) (pss_one (ps_expr (pe_bm PySem.F.plainAttrs_list PySem.F.slot_list_append PySem.F.type_list_append mt_append (pv 1) (pa_cons (pe_ifExp (pt_cmpR (op_eqD (u64 hr)) (pv 1) (pe_lst pa_nil) (nomark _)) pe_int (pe_op op_mulI pe_int (pe_ix ix_list (pv 1) (pe_un un_negR pe_int) (fun _ _ => rfl)))) pa_nil)))))
  (pss_one (ps_ret (pv 1)))))
theorem ok_members (T : Tx K mg) : FnX P w K mg base 2 (He.ga K "members") ["items", "mask"] (sp_members K) :=
  FnX.of (tr := t_members K) T.d_members sc_members (len_members K) (fun _ _ _ _ _ _ us hl => match us, hl with | [_, _], _ => rfl) (pure_members T.kn_) fun fd cdv A outer s H E hr =>
  (pss_one (ps_ret (pe_lc (own := [("item", 2), ("bit", 3)]) (g := (gTup K 2 (gCons (gName 2) (gCons (gName 3) gNil)))) (tt := (tTest (tOp (rNeD K) (tOp rAndI (tVar 1) (tVar 3)) (tC (.int 0))))) rfl sc_members.nd (pi_zipM true true rfl T.b_zip (pa_cons (pv 0) (pa_cons (pe_cal (ok_bits_of T) T.g_bits_of hr (by decide) rfl (pa_cons (pe_callB cr_len (by rfl) T.b_len (by decide +kernel) (pa_cons (pv 0) pa_nil)) pa_nil)) pa_nil))) (blkOk_by rfl) (fun _ _ _ _ _ => (pg_tup rfl (pgs_cons (pg_name (i := 2) sc_members.nd rfl (Or.inl rfl)) (pgs_cons (pg_name (i := 3) sc_members.nd rfl (Or.inl rfl)) pgs_nil)))) (fun _ _ _ _ _ => pts_one (pt_cmpR (op_neD (u64 hr)) (pe_op op_andI (pv 1) (pv 3)) pe_int (nomark _))) (fun _ _ _ _ _ => (pv 2)))))
theorem ok_Packer___init__ (T : Tx K mg) : FnX P w K mg base 1 (He.ma K (He.ga K "Packer") "__init__") ["self", "weights", "rooms"] (sp_Packer___init__ K) :=
  FnX.of (tr := t_Packer___init__ K) T.d_Packer___init__ sc_Packer___init__ (len_Packer___init__ K) (fun _ _ _ _ _ _ us hl => match us, hl with | [_, _, _], _ => rfl) (pure_Packer___init__ T.kn_Packer) fun fd cdv A outer s H E hr =>
  (pss_cons (ps_fld (pv 0) (pv 1) rfl)
  (pss_cons (ps_fld (pv 0) (pv 2) rfl)
  (pss_one (ps_fld (pv 0) pe_dnewT rfl))))
theorem ok_Packer_is_heavy (T : Tx K mg) : FnX P w K mg base 4 (He.ma K (He.ga K "Packer") "is_heavy") ["self", "mask"] (sp_Packer_is_heavy K) :=
  FnX.of (tr := t_Packer_is_heavy K) T.d_Packer_is_heavy sc_Packer_is_heavy (len_Packer_is_heavy K) (fun _ _ _ _ _ _ us hl => match us, hl with | [_, _], _ => rfl) (pure_Packer_is_heavy T.kn_Packer) fun fd cdv A outer s H E hr =>
  (pss_cons (ps_set (i := 2) sc_Packer_is_heavy.nd rfl (Or.inl rfl) (pe_tupleOf rfl T.b_tuple (pe_slice sl_list (pe_callBK (cr_sortB (u64 hr)) (by rfl) T.b_sorted (by decide +kernel) (pa_cons (pe_cal (ok_members T) T.g_members hr (by decide) rfl (pa_cons (pe_fld (pv 0) rfl) (pa_cons (pv 1) pa_nil))) pa_nil) (pk_cons pe_bl pk_nil)) po_none (po_some (pe_callB cr_len (by rfl) T.b_len (by decide +kernel) (pa_cons (pe_fld (pv 0) rfl) pa_nil))))))
  (pss_cons (ps_if (pt_cmp (pc_dnotin (hu_of hr) (pv 2) (pe_fld (pv 0) rfl))) (pss_one (ps_dput (hu_of hr) (pe_fld (pv 0) rfl) (pv 2) (pe_cal (ok_can_pack T) T.g_can_pack hr (by decide) rfl (pa_cons (pe_fld (pv 0) rfl) (pa_cons (pe_callTy cr_listOf (by rfl) T.b_list (by decide +kernel) (pa_cons (pv 2) pa_nil)) pa_nil))) rfl)) pss_nil)
  (pss_one (ps_ret (pe_dget (hu_of hr) (pe_fld (pv 0) rfl) (pv 2) (fun _ _ => rfl))))))
theorem ok_heavy_masks (T : Tx K mg) : FnX P w K mg base 5 (He.ga K "heavy_masks") ["cases", "many"] (sp_heavy_masks K) :=
  FnX.of (tr := t_heavy_masks K) T.d_heavy_masks sc_heavy_masks (len_heavy_masks K) (fun _ _ _ _ _ _ us hl => match us, hl with | [_, _], _ => rfl) (pure_heavy_masks T.kn_Packer) fun fd cdv A outer s H E hr =>
  (pss_cons (ps_setLc (i := 2) (own := [("weights", 7), ("rooms", 8)]) (g := (gTup K 2 (gCons (gName 7) (gCons (gName 8) gNil)))) (tt := tYes) rfl sc_heavy_masks.nd rfl rfl (sw_true rfl rfl rfl (by decide +kernel)) (pi_list (pv 0)) (blkOk_by rfl) (fun _ _ _ _ _ => (pg_tup rfl (pgs_cons (pg_name (i := 7) sc_heavy_masks.nd rfl (Or.inl rfl)) (pgs_cons (pg_name (i := 8) sc_heavy_masks.nd rfl (Or.inl rfl)) pgs_nil)))) (fun _ _ _ _ _ => pts_nil) (fun _ _ _ _ _ => (pe_mak (ok_Packer___init__ T) T.m_Packer T.g_Packer hr (by decide) rfl (pa_cons (pv 7) (pa_cons (pv 8) pa_nil)))))
  (pss_cons (ps_asg (pe_tup (pa_cons (pe_cal (ok_bits_of T) T.g_bits_of hr (by decide) rfl (pa_cons (pv 1) pa_nil)) (pa_cons (pe_lst (pa_cons pe_bl pa_nil)) pa_nil))) (pg_tup rfl (pgs_cons (pg_name (i := 3) sc_heavy_masks.nd rfl (Or.inl rfl)) (pgs_cons (pg_name (i := 4) sc_heavy_masks.nd rfl (Or.inr rfl)) pgs_nil))))
  (pss_cons (ps_for PassesOwn.never rfl (pi_range2 rfl T.b_range (pa_cons pe_int (pa_cons (pe_ifExp (pt_cmpR (op_neD (u64 hr)) (pv 3) (pe_lst pa_nil) (nomark _)) (pe_op op_mulI pe_int (pe_ix ix_list (pv 3) (pe_un un_negR pe_int) (fun _ _ => rfl))) pe_int) pa_nil))) (pg_name (i := 5) sc_heavy_masks.nd rfl (Or.inr rfl)) (pss_cons (ps_set (i := 6) sc_heavy_masks.nd rfl (Or.inl rfl) (pe_callB (cr_any rfl) (by rfl) T.b_any (by decide +kernel) (pa_cons (pe_lc (own := [("bit", 9)]) (g := (gName 9)) (tt := (tTest (tOp (rNeD K) (tOp rAndI (tVar 5) (tVar 9)) (tC (.int 0))))) rfl sc_heavy_masks.nd (pi_list (pv 3)) (blkOk_by rfl) (fun _ _ _ _ _ => (pg_name (i := 9) sc_heavy_masks.nd rfl (Or.inl rfl))) (fun _ _ _ _ _ => pts_one (pt_cmpR (op_neD (u64 hr)) (pe_op op_andI (pv 5) (pv 9)) pe_int (nomark _))) (fun _ _ _ _ _ => (pe_ix ix_list (pv 4) (pe_op op_subI (pv 5) (pv 9)) (fun _ _ => rfl)))) pa_nil)))
  (pss_one (ps_expr (pe_bm PySem.F.plainAttrs_list PySem.F.slot_list_append PySem.F.type_list_append mt_append (pv 4) (pa_cons (pe_or (pv 6) (pe_one (pe_callB (cr_any rfl) (by rfl) T.b_any (by decide +kernel) (pa_cons (pe_lc (own := [("packer", 10)]) (g := (gName 10)) (tt := tYes) rfl sc_heavy_masks.nd (pi_list (pv 2)) (blkOk_by rfl) (fun _ _ _ _ _ => (pg_name (i := 10) sc_heavy_masks.nd rfl (Or.inl rfl))) (fun _ _ _ _ _ => pts_nil) (fun _ _ _ _ _ => (pe_met (ok_Packer_is_heavy T) T.l_Packer T.m_Packer_is_heavy hr (by decide) (pv 10) (pa_cons (pv 5) pa_nil)))) pa_nil)))) pa_nil))))))
  (pss_one (ps_ret (pv 4))))))
theorem ok_Council_weights (T : Tx K mg) : FnX P w K mg base 1 (He.ma K (He.ga K "Council") "weights") ["self"] (sp_Council_weights K) :=
  FnX.of (tr := t_Council_weights K) T.d_Council_weights sc_Council_weights (len_Council_weights K) (fun _ _ _ _ _ _ us hl => match us, hl with | [_], _ => rfl) (pure_Council_weights T.kn_Council) fun fd cdv A outer s H E hr =>
  (pss_one (ps_ret (pe_callTy cr_listOf (by rfl) T.b_list (by decide +kernel) (pa_cons (pe_fld (pv 0) rfl) pa_nil))))
theorem ok_heavy_table (T : Tx K mg) : FnX P w K mg base 6 (He.ga K "heavy_table") ["councils", "sides"] (sp_heavy_table K) :=
  FnX.of (tr := t_heavy_table K) T.d_heavy_table sc_heavy_table (len_heavy_table K) (fun _ _ _ _ _ _ us hl => match us, hl with | [_, _], _ => rfl) (pure_heavy_table T.kn_Council) fun fd cdv A outer s H E hr =>
  (pss_one (ps_ret (pe_cal (ok_heavy_masks T) T.g_heavy_masks hr (by decide) rfl (pa_cons (pe_lc (own := [("council", 2)]) (g := (gName 2)) (tt := tYes) rfl sc_heavy_table.nd (pi_list (pv 0)) (blkOk_by rfl) (fun _ _ _ _ _ => (pg_name (i := 2) sc_heavy_table.nd rfl (Or.inl rfl))) (fun _ _ _ _ _ => pts_nil) (fun _ _ _ _ _ => (pe_tup (pa_cons (pe_met0 (ok_Council_weights T) T.l_Council T.m_Council_weights hr (by decide) (pv 2)) (pa_cons (pe_cal (ok_rooms_of T) T.g_rooms_of hr (by decide) rfl (pa_cons (pv 2) (pa_cons (pv 1) pa_nil))) pa_nil))))) (pa_cons (pe_callB cr_len (by rfl) T.b_len (by decide +kernel) (pa_cons (pv 1) pa_nil)) pa_nil)))))
theorem ok_light_sets (T : Tx K mg) : FnX P w K mg base 7 (He.ga K "light_sets") ["councils", "sides"] (sp_light_sets K) :=
  FnX.of (tr := t_light_sets K) T.d_light_sets sc_light_sets (len_light_sets K) (fun _ _ _ _ _ _ us hl => match us, hl with | [_, _], _ => rfl) (pure_light_sets T.kn_) fun fd cdv A outer s H E hr =>
  (pss_cons (ps_set (i := 2) sc_light_sets.nd rfl (Or.inl rfl) (pe_callB (cr_sortD (u64 hr)) (by rfl) T.b_sorted (by decide +kernel) (pa_cons (pv 1) pa_nil)))
  (pss_cons (ps_asg (pe_tup (pa_cons (pe_cal (ok_heavy_table T) T.g_heavy_table hr (by decide) rfl (pa_cons (pv 0) (pa_cons (pv 2) pa_nil))) (pa_cons (pe_cal (ok_bits_of T) T.g_bits_of hr (by decide) rfl (pa_cons (pe_callB cr_len (by rfl) T.b_len (by decide +kernel) (pa_cons (pv 2) pa_nil)) pa_nil)) (pa_cons (pe_lst pa_nil) pa_nil)))) (pg_tup rfl (pgs_cons (pg_name (i := 3) sc_light_sets.nd rfl (Or.inr rfl)) (pgs_cons (pg_name (i := 4) sc_light_sets.nd rfl (Or.inl rfl)) (pgs_cons (pg_name (i := 5) sc_light_sets.nd rfl (Or.inl rfl)) pgs_nil)))))
  (pss_cons (ps_for PassesOwn.never rfl (pi_range1 rfl T.b_range (pa_cons (pe_callB cr_len (by rfl) T.b_len (by decide +kernel) (pa_cons (pv 3) pa_nil)) pa_nil)) (pg_name (i := 6) sc_light_sets.nd rfl (Or.inr rfl)) (pss_one (ps_if (PW.pt (pw_and (pt_not (pt_val (pe_ix ix_list (pv 3) (pv 6) (fun _ _ => rfl)))) (pw_and1 (pt_val (pe_callB (cr_all rfl) (by rfl) T.b_all (by decide +kernel) (pa_cons (pe_lc (own := [("bit", 7)]) (g := (gName 7)) (tt := (tTest (tOp (rEqD K) (tOp rAndI (tVar 6) (tVar 7)) (tC (.int 0))))) rfl sc_light_sets.nd (pi_list (pv 4)) (blkOk_by rfl) (fun _ _ _ _ _ => (pg_name (i := 7) sc_light_sets.nd rfl (Or.inl rfl))) (fun _ _ _ _ _ => pts_one (pt_cmpR (op_eqD (u64 hr)) (pe_op op_andI (pv 6) (pv 7)) pe_int (nomark _))) (fun _ _ _ _ _ => (pe_ix ix_list (pv 3) (pe_op op_addI (pv 6) (pv 7)) (fun _ _ => rfl)))) pa_nil)))))) (pss_one (ps_expr (pe_bm PySem.F.plainAttrs_list PySem.F.slot_list_append PySem.F.type_list_append mt_append (pv 5) (pa_cons (pe_cal (ok_members T) T.g_members hr (by decide) rfl (pa_cons (pv 2) (pa_cons (pv 6) pa_nil))) pa_nil)))) pss_nil)))
  (pss_one (ps_ret (pe_callB (cr_sortD (u64 hr)) (by rfl) T.b_sorted (by decide +kernel) (pa_cons (pv 5) pa_nil)))))))
theorem ok_all_sides (T : Tx K mg) : FnX P w K mg base 1 (He.ga K "all_sides") ["width"] (sp_all_sides K) :=
  FnX.of (tr := t_all_sides K) T.d_all_sides sc_all_sides (len_all_sides K) (fun _ _ _ _ _ _ us hl => match us, hl with | [_], _ => rfl) (pure_all_sides T.kn_) fun fd cdv A outer s H E hr =>
  (pss_one (ps_ret (pe_lc2 (own := [("column", 1), ("way", 2)]) (vs1 := [2]) (g := (gName 1)) (g1 := (gName 2)) (tt := tYes) (tt1 := tYes) rfl sc_all_sides.nd (pi_range1 rfl T.b_range (pa_cons (pv 0) pa_nil)) (blkOk_by rfl) (by decide) (fun _ _ _ _ _ => (pg_name (i := 1) sc_all_sides.nd rfl (Or.inl rfl))) (fun _ _ _ _ _ => pts_nil) (fun _ _ _ _ _ => (pi_tup (pe_tup (pa_cons pe_str (pa_cons pe_str pa_nil))))) (fun _ _ _ _ _ => (pg_name (i := 2) sc_all_sides.nd rfl (Or.inl rfl))) (fun _ _ _ _ _ => pts_nil) (fun _ _ _ _ _ => (pe_tup (pa_cons (pv 1) (pa_cons (pv 2) pa_nil)))))))
theorem ok_Shelf___init__ (T : Tx K mg) : FnX P w K mg base 1 (He.ma K (He.ga K "Shelf") "__init__") ["self", "rows", "parts"] (sp_Shelf___init__ K) :=
  FnX.of (tr := t_Shelf___init__ K) T.d_Shelf___init__ sc_Shelf___init__ (len_Shelf___init__ K) (fun _ _ _ _ _ _ us hl => match us, hl with | [_, _, _], _ => rfl) (pure_Shelf___init__ T.kn_Shelf) fun fd cdv A outer s H E hr =>
  (pss_cons (ps_fld (pv 0) (pv 1) rfl)
  (pss_one (ps_fld (pv 0) (pv 2) rfl)))
theorem ok_Shelf_makes (T : Tx K mg) : FnX P w K mg base 3 (He.ma K (He.ga K "Shelf") "makes") ["self", "row"] (sp_Shelf_makes K) :=
  FnX.of (tr := t_Shelf_makes K) T.d_Shelf_makes sc_Shelf_makes (len_Shelf_makes K) (fun _ _ _ _ _ _ us hl => match us, hl with | [_, _], _ => rfl) (pure_Shelf_makes T.kn_Shelf) fun fd cdv A outer s H E hr =>
  (pss_cons (ps_set (i := 2) sc_Shelf_makes.nd rfl (Or.inl rfl) (pe_cal (ok_exactly T) T.g_exactly hr (by decide) rfl (pa_cons (pv 1) pa_nil)))
  (pss_cons (ps_for PassesOwn.never rfl (pi_list (pe_fld (pv 0) rfl)) (pg_name (i := 3) sc_Shelf_makes.nd rfl (Or.inr rfl)) (pss_cons (ps_set (i := 4) sc_Shelf_makes.nd rfl (Or.inr rfl) (pe_lc (own := [("bound", 5)]) (g := (gName 5)) (tt := (tTest (tOp (rInD K) (tSl (rSlA K) (tVar 5) tNoPart (tPart (tC (.int 2)))) (tVar 3)))) rfl sc_Shelf_makes.nd (pi_list (pv 2)) (blkOk_by rfl) (fun _ _ _ _ _ => (pg_name (i := 5) sc_Shelf_makes.nd rfl (Or.inl rfl))) (fun _ _ _ _ _ => pts_one (pt_cmpR (op_inD (u65 hr)) (pe_slice sl_tupA (pv 5) po_none (po_some pe_int)) (pv 3) (by with_unfolding_all rfl))) (fun _ _ _ _ _ => (pv 5))))
  (pss_one (ps_if (pt_not (pt_val (pe_callB (cr_any rfl) (by rfl) T.b_any (by decide +kernel) (pa_cons (pe_lc (own := [("other", 6)]) (g := (gName 6)) (tt := tYes) rfl sc_Shelf_makes.nd (pi_list (pe_fld (pv 0) rfl)) (blkOk_by rfl) (fun _ _ _ _ _ => (pg_name (i := 6) sc_Shelf_makes.nd rfl (Or.inl rfl))) (fun _ _ _ _ _ => pts_nil) (fun _ _ _ _ _ => (pe_cal (ok_meets T) T.g_meets hr (by decide) rfl (pa_cons (pv 6) (pa_cons (pv 4) pa_nil))))) pa_nil)))) (pss_one (ps_ret pe_bl)) pss_nil))))
  (pss_one (ps_ret pe_bl))))
theorem ok_parts_for (T : Tx K mg) : FnX P w K mg base 8 (He.ga K "parts_for") ["rows", "councils"] (sp_parts_for K) :=
  FnX.of (tr := t_parts_for K) T.d_parts_for sc_parts_for (len_parts_for K) (fun _ _ _ _ _ _ us hl => match us, hl with | [_, _], _ => rfl) (pure_parts_for T.kn_) fun fd cdv A outer s H E hr =>
  (pss_one (ps_ret (pe_ifExp (pt_cmpR (op_neD (u64 hr)) (pv 0) (pe_lst pa_nil) (nomark _)) (pe_cal (ok_light_sets T) T.g_light_sets hr (by decide) rfl (pa_cons (pv 1) (pa_cons (pe_cal (ok_all_sides T) T.g_all_sides hr (by decide) rfl (pa_cons (pe_callB cr_len (by rfl) T.b_len (by decide +kernel) (pa_cons (pe_ix ix_list (pv 0) pe_int (fun _ _ => rfl)) pa_nil)) pa_nil)) pa_nil))) (pe_lst pa_nil))))
theorem ok_parted (T : Tx K mg) : FnX P w K mg base 9 (He.ga K "parted") ["rows", "others", "councils"] (sp_parted K) :=
  FnX.of (tr := t_parted K) T.d_parted sc_parted (len_parted K) (fun _ _ _ _ _ _ us hl => match us, hl with | [_, _, _], _ => rfl) (pure_parted T.kn_Shelf) fun fd cdv A outer s H E hr =>
  (pss_cons (ps_set (i := 3) sc_parted.nd rfl (Or.inl rfl) (pe_cal (ok_parts_for T) T.g_parts_for hr (by decide) rfl (pa_cons (pe_op op_cat (pv 0) (pv 1)) (pa_cons (pv 2) pa_nil))))
  (pss_cons (ps_for PassesOwn.never rfl (pi_enum rfl T.b_enumerate (pa_cons (pe_lst (pa_cons (pe_tup (pa_cons (pv 0) (pa_cons (pv 1) pa_nil))) (pa_cons (pe_tup (pa_cons (pv 1) (pa_cons (pv 0) pa_nil))) pa_nil))) pa_nil)) (pg_tup rfl (pgs_cons (pg_name (i := 4) sc_parted.nd rfl (Or.inl rfl)) (pgs_cons (pg_name (i := 5) sc_parted.nd rfl (Or.inl rfl)) pgs_nil))) (pss_cons (ps_set (i := 6) sc_parted.nd rfl (Or.inl rfl) (pe_mak (ok_Shelf___init__ T) T.m_Shelf T.g_Shelf hr (by decide) rfl (pa_cons (pe_ix ix_tup (pv 5) pe_int (fun _ _ => rfl)) (pa_cons (pv 3) pa_nil))))
  (pss_one (ps_for PassesOwn.never rfl (pi_enum rfl T.b_enumerate (pa_cons (pe_ix ix_tup (pv 5) pe_int (fun _ _ => rfl)) pa_nil)) (pg_tup rfl (pgs_cons (pg_name (i := 7) sc_parted.nd rfl (Or.inl rfl)) (pgs_cons (pg_name (i := 8) sc_parted.nd rfl (Or.inl rfl)) pgs_nil))) (pss_one (ps_if (pt_not (pt_val (pe_met (ok_Shelf_makes T) T.l_Shelf T.m_Shelf_makes hr (by decide) (pv 6) (pa_cons (pv 8) pa_nil)))) (pss_one (ps_ret (pe_tup (pa_cons (pv 4) (pa_cons (pv 7) pa_nil))))) pss_nil))))))
  (pss_one (ps_ret pe_non))))
theorem ok_are_weights (T : Tx K mg) : FnX P w K mg base 3 (He.ga K "are_weights") ["thing"] (sp_are_weights K) :=
  FnX.of (tr := t_are_weights K) T.d_are_weights sc_are_weights (len_are_weights K) (fun _ _ _ _ _ _ us hl => match us, hl with | [_], _ => rfl) (pure_are_weights T.kn_) fun fd cdv A outer s H E hr =>
  (pss_cons (ps_if (PW.pt (pw_or (pt_not (pt_val (pe_callB call_isi (by rfl) T.b_isinstance (by decide +kernel) (pa_cons (pv 0) (pa_cons (pe_bltn (v := .ty "list") rfl T.b_list (by decide +kernel) rfl) pa_nil))))) (pw_or1 (pt_not (pt_chain op_leI op_leI (pe_glob rfl (T.c_LEAST_SEATS).choose_spec ⟨_, rfl⟩) (pe_callB cr_len (by rfl) T.b_len (by decide +kernel) (pa_cons (pv 0) pa_nil)) (pe_glob rfl (T.c_MOST_SEATS).choose_spec ⟨_, rfl⟩)))))) (pss_one (ps_ret pe_bl)) pss_nil)
  (pss_one (ps_ret (pe_callB (cr_all rfl) (by rfl) T.b_all (by decide +kernel) (pa_cons (pe_lc (own := [("weight", 1)]) (g := (gName 1)) (tt := tYes) rfl sc_are_weights.nd (pi_list (pv 0)) (blkOk_by rfl) (fun _ _ _ _ _ => (pg_name (i := 1) sc_are_weights.nd rfl (Or.inl rfl))) (fun _ _ _ _ _ => pts_nil) (fun _ _ _ _ _ => (pe_cal (ok_is_between T) T.g_is_between hr (by decide) rfl (pa_cons (pv 1) (pa_cons pe_int (pa_cons (pe_glob rfl (T.c_MOST_WEIGHT).choose_spec ⟨_, rfl⟩) pa_nil)))))) pa_nil)))))
theorem ok_are_quotas (T : Tx K mg) : FnX P w K mg base 3 (He.ga K "are_quotas") ["thing", "total"] (sp_are_quotas K) :=
  FnX.of (tr := t_are_quotas K) T.d_are_quotas sc_are_quotas (len_are_quotas K) (fun _ _ _ _ _ _ us hl => match us, hl with | [_, _], _ => rfl) (pure_are_quotas T.kn_) fun fd cdv A outer s H E hr =>
  (pss_cons (ps_if (PW.pt (pw_or (pt_not (pt_val (pe_callB call_isi (by rfl) T.b_isinstance (by decide +kernel) (pa_cons (pv 0) (pa_cons (pe_bltn (v := .ty "list") rfl T.b_list (by decide +kernel) rfl) pa_nil))))) (pw_or1 (pt_not (pt_chain op_leI op_leI pe_int (pe_callB cr_len (by rfl) T.b_len (by decide +kernel) (pa_cons (pv 0) pa_nil)) (pe_glob rfl (T.c_MOST_COLUMNS).choose_spec ⟨_, rfl⟩)))))) (pss_one (ps_ret pe_bl)) pss_nil)
  (pss_one (ps_ret (pe_callB (cr_all rfl) (by rfl) T.b_all (by decide +kernel) (pa_cons (pe_lc (own := [("quota", 2)]) (g := (gName 2)) (tt := tYes) rfl sc_are_quotas.nd (pi_list (pv 0)) (blkOk_by rfl) (fun _ _ _ _ _ => (pg_name (i := 2) sc_are_quotas.nd rfl (Or.inl rfl))) (fun _ _ _ _ _ => pts_nil) (fun _ _ _ _ _ => (pe_cal (ok_is_between T) T.g_is_between hr (by decide) rfl (pa_cons (pv 2) (pa_cons pe_int (pa_cons (pv 1) pa_nil)))))) pa_nil)))))
theorem ok_Council___init__ (T : Tx K mg) : FnX P w K mg base 4 (He.ma K (He.ga K "Council") "__init__") ["self", "weights", "quotas"] (sp_Council___init__ K) :=
  FnX.of (tr := t_Council___init__ K) T.d_Council___init__ sc_Council___init__ (len_Council___init__ K) (fun _ _ _ _ _ _ us hl => match us, hl with | [_, _, _], _ => rfl) (pure_Council___init__ T.kn_Council) fun fd cdv A outer s H E hr =>
  (pss_cons (ps_if (pt_not (pt_val (pe_cal (ok_are_weights T) T.g_are_weights hr (by decide) rfl (pa_cons (pv 1) pa_nil)))) (pss_one ps_never) pss_nil)
  (pss_cons (ps_if (pt_not (pt_val (pe_cal (ok_are_quotas T) T.g_are_quotas hr (by decide) rfl (pa_cons (pv 2) (pa_cons (pe_callB (cr_sum rfl) (by rfl) T.b_sum (by decide +kernel) (pa_cons (pv 1) pa_nil)) pa_nil))))) (pss_one ps_never) pss_nil)
  (pss_cons (ps_fld (pv 0) (pe_callTy cr_listOf (by rfl) T.b_list (by decide +kernel) (pa_cons (pv 1) pa_nil)) rfl)
  (pss_one (ps_fld (pv 0) (pe_callTy cr_listOf (by rfl) T.b_list (by decide +kernel) (pa_cons (pv 2) pa_nil)) rfl)))))
theorem ok__law_bag (T : Tx K mg) : FnX P w K mg base 1 (He.ga K "_law_bag") ["script"] (sp__law_bag K) :=
  FnX.of (tr := t__law_bag K) T.d__law_bag sc__law_bag (len__law_bag K) (fun _ _ _ _ _ _ us hl => match us, hl with | [_], _ => rfl) (pure__law_bag T.kn_) fun fd cdv A outer s H E hr =>
  (pss_one (ps_ret (pe_lst (pa_cons pe_int (pa_cons pe_int (pa_cons pe_int (pa_cons (pe_lc (own := [("cell", 1)]) (g := (gName 1)) (tt := tYes) rfl sc__law_bag.nd (pi_list (pe_slice sl_list (pv 0) po_none (po_some pe_int))) (blkOk_by rfl) (fun _ _ _ _ _ => (pg_name (i := 1) sc__law_bag.nd rfl (Or.inl rfl))) (fun _ _ _ _ _ => pts_nil) (fun _ _ _ _ _ => (pe_callB cr_abs (by rfl) T.b_abs (by decide +kernel) (pa_cons (pv 1) pa_nil)))) pa_nil)))))))
theorem ok__law_take (T : Tx K mg) : FnX P w K mg base 1 (He.ga K "_law_take") ["bag", "many"] (sp__law_take K) :=
  FnX.of (tr := t__law_take K) T.d__law_take sc__law_take (len__law_take K) (fun _ _ _ _ _ _ us hl => match us, hl with | [_, _], _ => rfl) (pure__law_take T.kn_) fun fd cdv A outer s H E hr =>
  (pss_cons (ps_if (pt_cmpR (op_eqD (u64 hr)) (pe_ix ix_list (pv 0) pe_int (fun _ _ => rfl)) pe_int (nomark _)) (pss_cons (ps_set (i := 4) sc__law_take.nd rfl (Or.inl rfl) pe_int)
  (pss_cons (ps_if (pt_cmpR op_ltI (pe_ix ix_list (pv 0) pe_int (fun _ _ => rfl)) (pe_callB cr_len (by rfl) T.b_len (by decide +kernel) (pa_cons (pe_ix ix_list (pv 0) pe_int (fun _ _ => rfl)) pa_nil)) (nomark _)) (pss_one (ps_set (i := 4) sc__law_take.nd rfl (Or.inl rfl) (pe_ix ix_list (pe_ix ix_list (pv 0) pe_int (fun _ _ => rfl)) (pe_ix ix_list (pv 0) pe_int (fun _ _ => rfl)) (fun _ _ => rfl)))) pss_nil)
  (pss_cons (ps_augS (pv 0) pe_int get_list pe_int ip_add set_list)
  (pss_cons (ps_if (pt_cmpR op_geI (pv 4) pe_int (nomark _)) (pss_one (ps_asg (pv 4) (pg_sub (pv 0) pe_int set_list))) pss_nil)
  (pss_one (ps_asg (pe_op op_modI (pe_op op_addI (pe_op op_addI (pe_op op_mulI (pe_ix ix_list (pv 0) pe_int (fun _ _ => rfl)) pe_int) (pe_op op_modI (pv 4) pe_int)) (pe_op op_mulI pe_int (pe_ix ix_list (pv 0) pe_int (fun _ _ => rfl)))) pe_int) (pg_sub (pv 0) pe_int set_list))))))) pss_nil)
  (pss_cons (ps_if (pt_cmpR op_gtI (pe_ix ix_list (pv 0) pe_int (fun _ _ => rfl)) pe_int (nomark _)) (pss_cons (ps_set (i := 5) sc__law_take.nd rfl (Or.inl rfl) (pe_op op_modI (pe_ix ix_list (pv 0) pe_int (fun _ _ => rfl)) (pv 1)))
  (pss_cons (ps_asg (pe_op op_divI (pe_ix ix_list (pv 0) pe_int (fun _ _ => rfl)) (pv 1)) (pg_sub (pv 0) pe_int set_list))
  (pss_one (ps_ret (pv 5))))) pss_nil)
  (pss_cons (ps_set (i := 2) sc__law_take.nd rfl (Or.inl rfl) (pe_op op_modI (pe_op op_mulI (pe_op op_addI (pe_ix ix_list (pv 0) pe_int (fun _ _ => rfl)) pe_int) pe_int) pe_int))
  (pss_cons (ps_set (i := 3) sc__law_take.nd rfl (Or.inl rfl) (pe_op op_modI (pe_op op_mulI (pe_op op_modI (pe_op op_mulI (pv 2) (pv 2)) pe_int) pe_int) pe_int))
  (pss_cons (ps_if (pt_cmpR op_gtI (pv 1) pe_int (nomark _)) (pss_one (ps_ret (pe_op op_modI (pe_op op_addI (pe_op op_mulI (pv 3) pe_int) (pv 2)) (pv 1)))) pss_nil)
  (pss_one (ps_ret (pe_op op_modI (pe_op op_divI (pv 3) pe_int) (pv 1)))))))))
theorem ok__law_alike (T : Tx K mg) : FnY P w K mg base 1 (He.ga K "_law_alike") ["found", "due"] (sp__law_alike K) :=
  FnY.of (tr := t__law_alike K) T.d__law_alike sc__law_alike (len__law_alike K) (fun _ _ _ _ _ _ us hl => match us, hl with | [_, _], _ => rfl) (pure__law_alike T.kn_) fun fd cdv A outer s H E hr gu =>
  (pss_one (ps_ret (pe_and (pe_cmpR (op_eqD (u64 hr)) (pv 0) (pv 1) (nomark _)) (pe_one (pe_cmpR op_eq (pe_callB (cr_reprD (u64 hr) gu) (by rfl) T.b_repr (by decide +kernel) (pa_cons (pv 0) pa_nil)) (pe_callB (cr_reprD (u64 hr) gu) (by rfl) T.b_repr (by decide +kernel) (pa_cons (pv 1) pa_nil)) (nomark _))))))
theorem ok__law_council (T : Tx K mg) : FnX P w K mg base 2 (He.ga K "_law_council") ["bag", "width", "most"] (sp__law_council K) :=
  FnX.of (tr := t__law_council K) T.d__law_council sc__law_council (len__law_council K) (fun _ _ _ _ _ _ us hl => match us, hl with | [_, _, _], _ => rfl) (pure__law_council T.kn_) fun fd cdv A outer s H E hr =>
  (pss_cons (ps_asg (pe_tup (pa_cons (pe_op op_addI pe_int (pe_cal (ok__law_take T) T.g__law_take hr (by decide) rfl (pa_cons (pv 0) (pa_cons (pe_op op_subI (pv 2) pe_int) pa_nil)))) (pa_cons (pe_cal (ok__law_take T) T.g__law_take hr (by decide) rfl (pa_cons (pv 0) (pa_cons pe_int pa_nil))) pa_nil))) (pg_tup rfl (pgs_cons (pg_name (i := 3) sc__law_council.nd rfl (Or.inl rfl)) (pgs_cons (pg_name (i := 4) sc__law_council.nd rfl (Or.inr rfl)) pgs_nil))))
  (pss_cons (ps_setLc (i := 5) (own := [("k", 10)]) (g := (gName 10)) (tt := tYes) rfl sc__law_council.nd rfl rfl (sw_true rfl rfl rfl (by decide +kernel)) (pi_range1 rfl T.b_range (pa_cons (pv 3) pa_nil)) (blkOk_by rfl) (fun _ _ _ _ _ => (pg_name (i := 10) sc__law_council.nd rfl (Or.inl rfl))) (fun _ _ _ _ _ => pts_nil) (fun _ _ _ _ _ => (pe_op op_addI pe_int (pe_cal (ok__law_take T) T.g__law_take hr (by decide) rfl (pa_cons (pv 0) (pa_cons (pe_ix ix_list (pe_lst (pa_cons pe_int (pa_cons pe_int (pa_cons pe_int (pa_cons pe_int (pa_cons pe_int pa_nil)))))) (pv 4) (fun _ _ => rfl)) pa_nil))))))
  (pss_cons (ps_set (i := 6) sc__law_council.nd rfl (Or.inl rfl) (pe_callB (cr_sum rfl) (by rfl) T.b_sum (by decide +kernel) (pa_cons (pv 5) pa_nil)))
  (pss_cons (ps_set (i := 7) sc__law_council.nd rfl (Or.inl rfl) (pe_lst pa_nil))
  (pss_cons (ps_for PassesOwn.never rfl (pi_range1 rfl T.b_range (pa_cons (pv 1) pa_nil)) (pg_name (i := 8) sc__law_council.nd rfl (Or.inl rfl)) (pss_cons (ps_set (i := 9) sc__law_council.nd rfl (Or.inl rfl) (pe_lst (pa_cons (pe_op op_addI (pe_op op_divI (pv 6) pe_int) pe_int) (pa_cons (pe_op op_addI pe_int (pe_cal (ok__law_take T) T.g__law_take hr (by decide) rfl (pa_cons (pv 0) (pa_cons (pv 6) pa_nil)))) (pa_cons pe_int (pa_cons (pv 6) pa_nil))))))
  (pss_one (ps_expr (pe_bm PySem.F.plainAttrs_list PySem.F.slot_list_append PySem.F.type_list_append mt_append (pv 7) (pa_cons (pe_ix ix_list (pv 9) (pe_op op_mulI (pe_callB (cr_max2 rfl) (by rfl) T.b_max (by decide +kernel) (pa_cons pe_int (pa_cons (pe_op op_subI (pe_cal (ok__law_take T) T.g__law_take hr (by decide) rfl (pa_cons (pv 0) (pa_cons pe_int pa_nil))) pe_int) pa_nil))) (pe_callTy cr_int (by rfl) T.b_int (by decide +kernel) (pa_cons (pe_cmpR op_gtI (pv 4) pe_int (nomark _)) pa_nil))) (fun _ _ => rfl)) pa_nil))))))
  (pss_one (ps_ret (pe_tup (pa_cons (pv 5) (pa_cons (pv 7) pa_nil))))))))))
theorem ok__law_made (T : Tx K mg) : FnX P w K mg base 6 (He.ga K "_law_made") ["parts"] (sp__law_made K) :=
  FnX.of (tr := t__law_made K) T.d__law_made sc__law_made (len__law_made K) (fun _ _ _ _ _ _ us hl => match us, hl with | [_], _ => rfl) (pure__law_made T.kn_Council) fun fd cdv A outer s H E hr =>
  (pss_one (ps_ret (pe_mak (ok_Council___init__ T) T.m_Council T.g_Council hr (by decide) rfl (pa_cons (pe_callTy cr_listOf (by rfl) T.b_list (by decide +kernel) (pa_cons (pe_ix ix_tup (pv 0) pe_int (fun _ _ => rfl)) pa_nil)) (pa_cons (pe_callTy cr_listOf (by rfl) T.b_list (by decide +kernel) (pa_cons (pe_ix ix_tup (pv 0) pe_int (fun _ _ => rfl)) pa_nil)) pa_nil)))))
theorem ok__law_settle (T : Tx K mg) : FnX P w K mg base 1 (He.ga K "_law_settle") ["parts", "rows"] (sp__law_settle K) :=
  FnX.of (tr := t__law_settle K) T.d__law_settle sc__law_settle (len__law_settle K) (fun _ _ _ _ _ _ us hl => match us, hl with | [_, _], _ => rfl) (pure__law_settle T.kn_) fun fd cdv A outer s H E hr =>
  (pss_cons (ps_asg (pv 0) (pg_tup rfl (pgs_cons (pg_name (i := 2) sc__law_settle.nd rfl (Or.inr rfl)) (pgs_cons (pg_name (i := 3) sc__law_settle.nd rfl (Or.inl rfl)) pgs_nil))))
  (pss_cons (ps_set (i := 4) sc__law_settle.nd rfl (Or.inl rfl) (pe_lst pa_nil))
  (pss_cons (ps_for PassesOwn.never rfl (pi_range1 rfl T.b_range (pa_cons (pe_callB cr_len (by rfl) T.b_len (by decide +kernel) (pa_cons (pv 3) pa_nil)) pa_nil)) (pg_name (i := 5) sc__law_settle.nd rfl (Or.inr rfl)) (pss_cons (ps_asg (pe_tup (pa_cons pe_int (pa_cons pe_non pa_nil))) (pg_tup rfl (pgs_cons (pg_name (i := 6) sc__law_settle.nd rfl (Or.inl rfl)) (pgs_cons (pg_name (i := 7) sc__law_settle.nd rfl (Or.inl rfl)) pgs_nil))))
  (pss_cons (ps_for PassesOwn.never rfl (pi_list (pe_callB (cr_sortD (u64 hr)) (by rfl) T.b_sorted (by decide +kernel) (pa_cons (pe_lc (own := [("k", 10)]) (g := (gName 10)) (tt := tYes) rfl sc__law_settle.nd (pi_range1 rfl T.b_range (pa_cons (pe_callB cr_len (by rfl) T.b_len (by decide +kernel) (pa_cons (pv 2) pa_nil)) pa_nil)) (blkOk_by rfl) (fun _ _ _ _ _ => (pg_name (i := 10) sc__law_settle.nd rfl (Or.inl rfl))) (fun _ _ _ _ _ => pts_nil) (fun _ _ _ _ _ => (pe_tup (pa_cons (pe_ix ix_tup (pe_ix ix_tup (pv 1) (pv 10) (fun _ _ => rfl)) (pv 5) (fun _ _ => rfl)) (pa_cons (pe_ix ix_list (pv 2) (pv 10) (fun _ _ => rfl)) pa_nil))))) pa_nil))) (pg_tup rfl (pgs_cons (pg_name (i := 8) sc__law_settle.nd rfl (Or.inl rfl)) (pgs_cons (pg_name (i := 9) sc__law_settle.nd rfl (Or.inl rfl)) pgs_nil))) (pss_cons (ps_if (pt_cmpR op_ltI (pv 6) (pe_ix ix_list (pv 3) (pv 5) (fun _ _ => rfl)) (nomark _)) (pss_one (ps_set (i := 7) sc__law_settle.nd rfl (Or.inl rfl) (pv 8))) pss_nil)
  (pss_one (ps_aug (i := 6) sc__law_settle.nd rfl (Or.inl rfl) (pv 9) ip_add))))
  (pss_one (ps_expr (pe_bm PySem.F.plainAttrs_list PySem.F.slot_list_append PySem.F.type_list_append mt_append (pv 4) (pa_cons (pv 7) pa_nil)))))))
  (pss_one (ps_ret (pe_tupleOf rfl T.b_tuple (pv 4)))))))
theorem ok__law_row (T : Tx K mg) : FnX P w K mg base 2 (He.ga K "_law_row") ["bag", "width", "top"] (sp__law_row K) :=
  FnX.of (tr := t__law_row K) T.d__law_row sc__law_row (len__law_row K) (fun _ _ _ _ _ _ us hl => match us, hl with | [_, _, _], _ => rfl) (pure__law_row T.kn_) fun fd cdv A outer s H E hr =>
  (pss_one (ps_ret (pe_tupleOf rfl T.b_tuple (pe_lc (own := [("column", 3)]) (g := (gName 3)) (tt := tYes) rfl sc__law_row.nd (pi_range1 rfl T.b_range (pa_cons (pv 1) pa_nil)) (blkOk_by rfl) (fun _ _ _ _ _ => (pg_name (i := 3) sc__law_row.nd rfl (Or.inl rfl))) (fun _ _ _ _ _ => pts_nil) (fun _ _ _ _ _ => (pe_cal (ok__law_take T) T.g__law_take hr (by decide) rfl (pa_cons (pv 0) (pa_cons (pe_op op_addI (pv 2) pe_int) pa_nil))))))))
theorem ok__law_every (T : Tx K mg) : FnX P w K mg base 2 (He.ga K "_law_every") ["councils", "rows"] (sp__law_every K) :=
  FnX.of (tr := t__law_every K) T.d__law_every sc__law_every (len__law_every K) (fun _ _ _ _ _ _ us hl => match us, hl with | [_, _], _ => rfl) (pure__law_every T.kn_) fun fd cdv A outer s H E hr =>
  (pss_cons (ps_par rfl sc__law_every.nd rfl rfl (by decide) rfl rfl (pa_cons (pe_ss (pe_callB (cr_sortS rfl (u64 hr)) (by rfl) T.b_sorted (by decide +kernel) (pa_cons (pe_callTy (cr_setM rfl (u64 hr)) (by rfl) T.b_set (by decide +kernel) (pa_cons (pe_up (pv 1)) pa_nil)) pa_nil))) (pa_cons (pe_un un_negR pe_int) pa_nil)) rfl)
  (pss_cons (ps_while PassesOwn.never (pt_cmpR (op_neD (u64 hr)) (pv 3) (pe_callB cr_len (by rfl) T.b_len (by decide +kernel) (pa_cons (pv 2) pa_nil)) (nomark _)) (pss_cons (ps_set (i := 3) sc__law_every.nd rfl (Or.inl rfl) (pe_callB cr_len (by rfl) T.b_len (by decide +kernel) (pa_cons (pv 2) pa_nil)))
  (pss_cons (ps_set (i := 4) sc__law_every.nd rfl (Or.inl rfl) (pe_callTy cr_listOf (by rfl) T.b_list (by decide +kernel) (pa_cons (pv 2) pa_nil)))
  (pss_cons (ps_for PassesOwn.never rfl (pi_list (pv 0)) (pg_name (i := 5) sc__law_every.nd rfl (Or.inr rfl)) (pss_cons (ps_set (i := 6) sc__law_every.nd rfl (Or.inl rfl) (pe_lst (pa_cons (pe_tup pa_nil) pa_nil)))
  (pss_cons (ps_for PassesOwn.never rfl (pi_list (pe_ix ix_tup (pv 5) pe_int (fun _ _ => rfl))) (pg_name (i := 7) sc__law_every.nd rfl (Or.inl rfl)) (pss_cons (ps_set (i := 8) sc__law_every.nd rfl (Or.inl rfl) (pe_lst pa_nil))
  (pss_cons (ps_for PassesOwn.never rfl (pi_list (pv 6)) (pg_name (i := 9) sc__law_every.nd rfl (Or.inr rfl)) (pss_one (ps_expr (pe_bm PySem.F.plainAttrs_list PySem.F.slot_list_extend PySem.F.type_list_extend mt_extend (pv 8) (pa_cons (pe_lc (own := [("row", 10)]) (g := (gName 10)) (tt := tYes) rfl sc__law_every.nd (pi_list (pv 2)) (blkOk_by rfl) (fun _ _ _ _ _ => (pg_name (i := 10) sc__law_every.nd rfl (Or.inl rfl))) (fun _ _ _ _ _ => pts_nil) (fun _ _ _ _ _ => (pe_op op_catA (pv 9) (pe_tup (pa_cons (pv 10) pa_nil))))) pa_nil)))))
  (pss_one (ps_set (i := 6) sc__law_every.nd rfl (Or.inl rfl) (pv 8))))))
  (pss_one (ps_expr (pe_bm PySem.F.plainAttrs_list PySem.F.slot_list_extend PySem.F.type_list_extend mt_extend (pv 4) (pa_cons (pe_lc (own := [("one", 9)]) (g := (gName 9)) (tt := tYes) rfl sc__law_every.nd (pi_list (pv 6)) (blkOk_by rfl) (fun _ _ _ _ _ => (pg_name (i := 9) sc__law_every.nd rfl (Or.inl rfl))) (fun _ _ _ _ _ => pts_nil) (fun _ _ _ _ _ => (pe_cal (ok__law_settle T) T.g__law_settle hr (by decide) rfl (pa_cons (pv 5) (pa_cons (pv 9) pa_nil))))) pa_nil)))))))
  (pss_one (ps_set (i := 2) sc__law_every.nd rfl (Or.inl rfl) (pe_ss (pe_callB (cr_sortS rfl (u64 hr)) (by rfl) T.b_sorted (by decide +kernel) (pa_cons (pe_callTy (cr_setM rfl (u64 hr)) (by rfl) T.b_set (by decide +kernel) (pa_cons (pe_up (pv 4)) pa_nil)) pa_nil)))))))))
  (pss_one (ps_ret (pv 2)))))
theorem ok__law_due (T : Tx K mg) : FnX P w K mg base 1 (He.ga K "_law_due") ["pair", "closures"] (sp__law_due K) :=
  FnX.of (tr := t__law_due K) T.d__law_due sc__law_due (len__law_due K) (fun _ _ _ _ _ _ us hl => match us, hl with | [_, _], _ => rfl) (pure__law_due T.kn_) fun fd cdv A outer s H E hr =>
  (pss_cons (ps_for PassesOwn.never rfl (pi_range1 rfl T.b_range (pa_cons pe_int pa_nil)) (pg_name (i := 2) sc__law_due.nd rfl (Or.inl rfl)) (pss_one (ps_for PassesOwn.never rfl (pi_enum rfl T.b_enumerate (pa_cons (pe_ix ix_tup (pv 0) (pv 2) (fun _ _ => rfl)) pa_nil)) (pg_tup rfl (pgs_cons (pg_name (i := 3) sc__law_due.nd rfl (Or.inl rfl)) (pgs_cons (pg_name (i := 4) sc__law_due.nd rfl (Or.inl rfl)) pgs_nil))) (pss_one (ps_if (pt_cmpR (op_notInD (u65 hr)) (pv 4) (pe_ix ix_list (pv 1) (pe_op op_subI pe_int (pv 2)) (fun _ _ => rfl)) (by with_unfolding_all rfl)) (pss_one (ps_ret (pe_tup (pa_cons (pv 2) (pa_cons (pv 3) pa_nil))))) pss_nil)))))
  (pss_one (ps_ret pe_non)))
theorem ok__law_other (T : Tx K mg) : FnX P w K mg base 3 (He.ga K "_law_other") ["bag", "plans", "rows", "width", "top"] (sp__law_other K) :=
  FnX.of (tr := t__law_other K) T.d__law_other sc__law_other (len__law_other K) (fun _ _ _ _ _ _ us hl => match us, hl with | [_, _, _, _, _], _ => rfl) (pure__law_other T.kn_) fun fd cdv A outer s H E hr =>
  (pss_cons (ps_set (i := 5) sc__law_other.nd rfl (Or.inr rfl) (pe_cal (ok__law_every T) T.g__law_every hr (by decide) rfl (pa_cons (pv 1) (pa_cons (pv 2) pa_nil))))
  (pss_cons (ps_setLc (i := 6) (own := [("one", 9)]) (g := (gName 9)) (tt := tYes) rfl sc__law_other.nd rfl rfl (sw_true rfl rfl rfl (by decide +kernel)) (pi_range1 rfl T.b_range (pa_cons (pe_cal (ok__law_take T) T.g__law_take hr (by decide) rfl (pa_cons (pv 0) (pa_cons pe_int pa_nil))) pa_nil)) (blkOk_by rfl) (fun _ _ _ _ _ => (pg_name (i := 9) sc__law_other.nd rfl (Or.inl rfl))) (fun _ _ _ _ _ => pts_nil) (fun _ _ _ _ _ => (pe_cal (ok__law_row T) T.g__law_row hr (by decide) rfl (pa_cons (pv 0) (pa_cons (pv 3) (pa_cons (pv 4) pa_nil))))))
  (pss_cons (ps_set (i := 7) sc__law_other.nd rfl (Or.inl rfl) (pe_cal (ok__law_take T) T.g__law_take hr (by decide) rfl (pa_cons (pv 0) (pa_cons pe_int pa_nil))))
  (pss_cons (ps_if (PW.pt (pw_or (pt_cmpR (op_eqD (u64 hr)) (pv 7) pe_int (nomark _)) (pw_or1 (pt_cmpR (op_eqD (u64 hr)) (pv 2) (pe_lst pa_nil) (nomark _))))) (pss_one (ps_ret (pv 6))) pss_nil)
  (pss_cons (ps_set (i := 8) sc__law_other.nd rfl (Or.inl rfl) (pe_op op_cat (pe_slice sl_list (pv 2) (po_some (pe_cal (ok__law_take T) T.g__law_take hr (by decide) rfl (pa_cons (pv 0) (pa_cons (pe_callB cr_len (by rfl) T.b_len (by decide +kernel) (pa_cons (pv 2) pa_nil)) pa_nil)))) po_none) (pe_slice sl_list (pv 2) po_none (po_some (pe_cal (ok__law_take T) T.g__law_take hr (by decide) rfl (pa_cons (pv 0) (pa_cons pe_int pa_nil)))))))
  (pss_one (ps_ret (pe_slice sl_list (pe_op op_cat (pe_op op_cat (pv 8) (pe_lc (own := [("one", 9)]) (g := (gName 9)) (tt := tYes) rfl sc__law_other.nd (pi_range1 rfl T.b_range (pa_cons (pe_op op_subI (pv 7) pe_int) pa_nil)) (blkOk_by rfl) (fun _ _ _ _ _ => (pg_name (i := 9) sc__law_other.nd rfl (Or.inl rfl))) (fun _ _ _ _ _ => pts_nil) (fun _ _ _ _ _ => (pe_ix ix_list (pv 5) (pe_cal (ok__law_take T) T.g__law_take hr (by decide) rfl (pa_cons (pv 0) (pa_cons (pe_callB cr_len (by rfl) T.b_len (by decide +kernel) (pa_cons (pv 5) pa_nil)) pa_nil))) (fun _ _ => rfl))))) (pe_slice sl_list (pv 6) po_none (po_some (pe_cal (ok__law_take T) T.g__law_take hr (by decide) rfl (pa_cons (pv 0) (pa_cons pe_int pa_nil)))))) po_none (po_some pe_int)))))))))
theorem run_law (T : Tx K mg) {fd : FuncData} (F : FunD K "law" "law" (defArgs s_law) (defBody s_law) (defScope s_law) [] [] (He.ga K "law") fd) : FnG P w K mg base CX0 10 (He.ga K "law") fd ["script"] (sp_law K) :=
  fdG F sc_law (len_law K) fun cdv A outer s H vs Q E hr gu h0 => ⟨t_law K, PSs.nox
  (pss_cons (ps_set (i := 1) sc_law.nd rfl (Or.inr rfl) (pe_cal (ok__law_bag T) T.g__law_bag hr (by decide) rfl (pa_cons (pv 0) pa_nil)))
  (pss_cons (ps_for PassesOwn.never rfl (pi_range1 rfl T.b_range (pa_cons pe_int pa_nil)) (pg_name (i := 2) sc_law.nd rfl (Or.inl rfl)) (pss_cons (ps_asg (pe_ix ix_list (pe_lst (pa_cons (pe_tup (pa_cons pe_int (pa_cons pe_int (pa_cons pe_int pa_nil)))) (pa_cons (pe_tup (pa_cons pe_int (pa_cons pe_int (pa_cons pe_int pa_nil)))) (pa_cons (pe_tup (pa_cons pe_int (pa_cons pe_int (pa_cons pe_int pa_nil)))) (pa_cons (pe_tup (pa_cons pe_int (pa_cons pe_int (pa_cons pe_int pa_nil)))) (pa_cons (pe_tup (pa_cons pe_int (pa_cons pe_int (pa_cons pe_int pa_nil)))) pa_nil)))))) (pe_cal (ok__law_take T) T.g__law_take hr (by decide) rfl (pa_cons (pv 1) (pa_cons pe_int pa_nil))) (fun _ _ => rfl)) (pg_tup rfl (pgs_cons (pg_name (i := 3) sc_law.nd rfl (Or.inr rfl)) (pgs_cons (pg_name (i := 4) sc_law.nd rfl (Or.inr rfl)) (pgs_cons (pg_name (i := 5) sc_law.nd rfl (Or.inr rfl)) pgs_nil)))))
  (pss_cons (ps_set (i := 6) sc_law.nd rfl (Or.inr rfl) (pe_lc (own := [("one", 15)]) (g := (gName 15)) (tt := tYes) rfl sc_law.nd (pi_range1 rfl T.b_range (pa_cons (pe_ix ix_list (pe_lst (pa_cons pe_int (pa_cons pe_int (pa_cons pe_int (pa_cons pe_int pa_nil))))) (pe_cal (ok__law_take T) T.g__law_take hr (by decide) rfl (pa_cons (pv 1) (pa_cons pe_int pa_nil))) (fun _ _ => rfl)) pa_nil)) (blkOk_by rfl) (fun _ _ _ _ _ => (pg_name (i := 15) sc_law.nd rfl (Or.inl rfl))) (fun _ _ _ _ _ => pts_nil) (fun _ _ _ _ _ => (pe_cal (ok__law_council T) T.g__law_council hr (by decide) rfl (pa_cons (pv 1) (pa_cons (pv 3) (pa_cons (pv 5) pa_nil)))))))
  (pss_cons (ps_set (i := 6) sc_law.nd rfl (Or.inr rfl) (pe_op op_cat (pv 6) (pe_lc (own := [("one", 15)]) (g := (gName 15)) (tt := tYes) rfl sc_law.nd (pi_range1 rfl T.b_range (pa_cons (pe_op op_mulI (pe_callTy cr_int (by rfl) T.b_int (by decide +kernel) (pa_cons (pe_cmpR (op_eqD (u64 hr)) (pv 3) pe_int (nomark _)) pa_nil)) (pe_cal (ok__law_take T) T.g__law_take hr (by decide) rfl (pa_cons (pv 1) (pa_cons pe_int pa_nil)))) pa_nil)) (blkOk_by rfl) (fun _ _ _ _ _ => (pg_name (i := 15) sc_law.nd rfl (Or.inl rfl))) (fun _ _ _ _ _ => pts_nil) (fun _ _ _ _ _ => (pe_cal (ok__law_council T) T.g__law_council hr (by decide) rfl (pa_cons (pv 1) (pa_cons pe_int (pa_cons pe_int pa_nil))))))))
  (pss_cons (ps_asg (pe_tup (pa_cons (pe_lc (own := [("one", 15)]) (g := (gName 15)) (tt := tYes) rfl sc_law.nd (pi_range1 rfl T.b_range (pa_cons (pe_cal (ok__law_take T) T.g__law_take hr (by decide) rfl (pa_cons (pv 1) (pa_cons pe_int pa_nil))) pa_nil)) (blkOk_by rfl) (fun _ _ _ _ _ => (pg_name (i := 15) sc_law.nd rfl (Or.inl rfl))) (fun _ _ _ _ _ => pts_nil) (fun _ _ _ _ _ => (pe_cal (ok__law_row T) T.g__law_row hr (by decide) rfl (pa_cons (pv 1) (pa_cons (pv 3) (pa_cons (pv 4) pa_nil)))))) (pa_cons (pe_cal (ok__law_take T) T.g__law_take hr (by decide) rfl (pa_cons (pv 1) (pa_cons (pe_op op_addI (pe_op op_mulI pe_int (pv 4)) pe_int) pa_nil))) pa_nil))) (pg_tup rfl (pgs_cons (pg_name (i := 7) sc_law.nd rfl (Or.inl rfl)) (pgs_cons (pg_name (i := 8) sc_law.nd rfl (Or.inr rfl)) pgs_nil))))
  (pss_cons (ps_set (i := 9) sc_law.nd rfl (Or.inl rfl) (pe_tup (pa_cons (pv 7) (pa_cons (pe_cal (ok__law_other T) T.g__law_other hr (by decide) rfl (pa_cons (pv 1) (pa_cons (pv 6) (pa_cons (pv 7) (pa_cons (pv 3) (pa_cons (pv 4) pa_nil)))))) pa_nil))))
  (pss_cons (ps_set (i := 9) sc_law.nd rfl (Or.inl rfl) (pe_tupleOf rfl T.b_tuple (pe_lc (own := [("some", 16)]) (g := (gName 16)) (tt := tYes) rfl sc_law.nd (pi_tup (pv 9)) (blkOk_by rfl) (fun _ _ _ _ _ => (pg_name (i := 16) sc_law.nd rfl (Or.inl rfl))) (fun _ _ _ _ _ => pts_nil) (fun _ _ _ _ _ => (pe_lc (own := [("row", 18)]) (g := (gName 18)) (tt := tYes) rfl sc_law.nd (pi_list (pv 16)) (blkOk_by rfl) (fun _ _ _ _ _ => (pg_name (i := 18) sc_law.nd rfl (Or.inl rfl))) (fun _ _ _ _ _ => pts_nil) (fun _ _ _ _ _ => (pe_tupleOf rfl T.b_tuple (pe_lc (own := [("entry", 19)]) (g := (gName 19)) (tt := tYes) rfl sc_law.nd (pi_tup (pv 18)) (blkOk_by rfl) (fun _ _ _ _ _ => (pg_name (i := 19) sc_law.nd rfl (Or.inl rfl))) (fun _ _ _ _ _ => pts_nil) (fun _ _ _ _ _ => (pe_op op_subI (pv 19) (pv 8)))))))))))
  (pss_cons (ps_par rfl sc_law.nd rfl rfl (by decide) rfl rfl (pa_cons (pe_lc (own := [("some", 16)]) (g := (gName 16)) (tt := tYes) rfl sc_law.nd (pi_tup (pv 9)) (blkOk_by rfl) (fun _ _ _ _ _ => (pg_name (i := 16) sc_law.nd rfl (Or.inl rfl))) (fun _ _ _ _ _ => pts_nil) (fun _ _ _ _ _ => (pe_cal (ok__law_every T) T.g__law_every hr (by decide) rfl (pa_cons (pv 6) (pa_cons (pv 16) pa_nil))))) (pa_cons (pe_lc (own := [("parts", 17)]) (g := (gName 17)) (tt := tYes) rfl sc_law.nd (pi_list (pv 6)) (blkOk_by rfl) (fun _ _ _ _ _ => (pg_name (i := 17) sc_law.nd rfl (Or.inl rfl))) (fun _ _ _ _ _ => pts_nil) (fun _ _ _ _ _ => (pe_cal (ok__law_made T) T.g__law_made hr (by decide) rfl (pa_cons (pv 17) pa_nil)))) pa_nil)) rfl)
  (pss_cons (ps_par rfl sc_law.nd rfl rfl (by decide) rfl rfl (pa_cons (pe_lc (own := [("some", 16)]) (g := (gName 16)) (tt := tYes) rfl sc_law.nd (pi_tup (pv 9)) (blkOk_by rfl) (fun _ _ _ _ _ => (pg_name (i := 16) sc_law.nd rfl (Or.inl rfl))) (fun _ _ _ _ _ => pts_nil) (fun _ _ _ _ _ => (pe_callTy cr_listOf (by rfl) T.b_list (by decide +kernel) (pa_cons (pv 16) pa_nil)))) (pa_cons (pe_callTy cr_listOf (by rfl) T.b_list (by decide +kernel) (pa_cons (pv 11) pa_nil)) pa_nil)) rfl)
  (pss_one (ps_for PassesOwn.never rfl (pi_range1 rfl T.b_range (pa_cons pe_int pa_nil)) (pg_name (i := 14) sc_law.nd rfl (Or.inl rfl)) (pss_cons (ps_if (pt_not (pt_val (pe_calG (ok__law_alike T) T.g__law_alike hr (by decide) gu rfl (pa_cons (pe_cal (ok_parted T) T.g_parted hr (by decide) rfl (pa_cons (pe_ix ix_list (pv 12) pe_int (fun _ _ => rfl)) (pa_cons (pe_ix ix_list (pv 12) pe_int (fun _ _ => rfl)) (pa_cons (pv 11) pa_nil)))) (pa_cons (pe_cal (ok__law_due T) T.g__law_due hr (by decide) rfl (pa_cons (pv 9) (pa_cons (pv 10) pa_nil))) pa_nil))))) (pss_one (ps_ret pe_bl)) pss_nil)
  (pss_cons (ps_if (pt_not (pt_val (pe_calG (ok__law_alike T) T.g__law_alike hr (by decide) gu rfl (pa_cons (pe_cal (ok_parted T) T.g_parted hr (by decide) rfl (pa_cons (pe_ix ix_list (pv 12) pe_int (fun _ _ => rfl)) (pa_cons (pe_ix ix_list (pv 12) pe_int (fun _ _ => rfl)) (pa_cons (pv 11) pa_nil)))) (pa_cons (pe_cal (ok__law_due T) T.g__law_due hr (by decide) rfl (pa_cons (pe_revT (pv 9)) (pa_cons (pe_revL (pv 10)) pa_nil))) pa_nil))))) (pss_one (ps_ret pe_bl)) pss_nil)
  (pss_one (ps_if (PW.pt (pw_or (pt_cmpR (op_neD (u64 hr)) (pv 12) (pe_lc (own := [("some", 16)]) (g := (gName 16)) (tt := tYes) rfl sc_law.nd (pi_tup (pv 9)) (blkOk_by rfl) (fun _ _ _ _ _ => (pg_name (i := 16) sc_law.nd rfl (Or.inl rfl))) (fun _ _ _ _ _ => pts_nil) (fun _ _ _ _ _ => (pe_callTy cr_listOf (by rfl) T.b_list (by decide +kernel) (pa_cons (pv 16) pa_nil)))) (nomark _)) (pw_or1 (pt_cmpR (op_neI (u80 hr)) (pv 13) (pv 11) (nomark _))))) (pss_one (ps_ret pe_bl)) pss_nil)))))))))))))))
  (pss_one (ps_ret pe_bl)))), pure_law T.kn_ vs H Q E h0⟩
end
def dd_meets_bound : He.DefD := ⟨("meets_bound", none), "meets_bound", "meets_bound", defArgs s_meets_bound, defBody s_meets_bound, defScope s_meets_bound, [], []⟩
def dd_meets : He.DefD := ⟨("meets", none), "meets", "meets", defArgs s_meets, defBody s_meets, defScope s_meets, [], []⟩
def dd_exactly : He.DefD := ⟨("exactly", none), "exactly", "exactly", defArgs s_exactly, defBody s_exactly, defScope s_exactly, [], []⟩
def dd_is_integer : He.DefD := ⟨("is_integer", none), "is_integer", "is_integer", defArgs s_is_integer, defBody s_is_integer, defScope s_is_integer, [], []⟩
def dd_is_between : He.DefD := ⟨("is_between", none), "is_between", "is_between", defArgs s_is_between, defBody s_is_between, defScope s_is_between, [], []⟩
def dd_Council_total : He.DefD := ⟨("Council", some "total"), "total", "Council.total", defArgs s_Council_total, defBody s_Council_total, defScope s_Council_total, [], []⟩
def dd_Council_allowance : He.DefD := ⟨("Council", some "allowance"), "allowance", "Council.allowance", defArgs s_Council_allowance, defBody s_Council_allowance, defScope s_Council_allowance, [], []⟩
def dd_rooms_of : He.DefD := ⟨("rooms_of", none), "rooms_of", "rooms_of", defArgs s_rooms_of, defBody s_rooms_of, defScope s_rooms_of, [], []⟩
def dd_fits : He.DefD := ⟨("fits", none), "fits", "fits", defArgs s_fits, defBody s_fits, defScope s_fits, [], []⟩
def dd_next_loads : He.DefD := ⟨("next_loads", none), "next_loads", "next_loads", defArgs s_next_loads, defBody s_next_loads, defScope s_next_loads, [], []⟩
def dd_load_levels : He.DefD := ⟨("load_levels", none), "load_levels", "load_levels", defArgs s_load_levels, defBody s_load_levels, defScope s_load_levels, [], []⟩
def dd_first_fit : He.DefD := ⟨("first_fit", none), "first_fit", "first_fit", defArgs s_first_fit, defBody s_first_fit, defScope s_first_fit, [], []⟩
def dd_can_pack : He.DefD := ⟨("can_pack", none), "can_pack", "can_pack", defArgs s_can_pack, defBody s_can_pack, defScope s_can_pack, [], []⟩
def dd_bits_of : He.DefD := ⟨("bits_of", none), "bits_of", "bits_of", defArgs s_bits_of, defBody s_bits_of, defScope s_bits_of, [], []⟩
def dd_members : He.DefD := ⟨("members", none), "members", "members", defArgs s_members, defBody s_members, defScope s_members, [], []⟩
def dd_Packer___init__ : He.DefD := ⟨("Packer", some "__init__"), "__init__", "Packer.__init__", defArgs s_Packer___init__, defBody s_Packer___init__, defScope s_Packer___init__, [], []⟩
def dd_Packer_is_heavy : He.DefD := ⟨("Packer", some "is_heavy"), "is_heavy", "Packer.is_heavy", defArgs s_Packer_is_heavy, defBody s_Packer_is_heavy, defScope s_Packer_is_heavy, [], []⟩
def dd_heavy_masks : He.DefD := ⟨("heavy_masks", none), "heavy_masks", "heavy_masks", defArgs s_heavy_masks, defBody s_heavy_masks, defScope s_heavy_masks, [], []⟩
def dd_Council_weights : He.DefD := ⟨("Council", some "weights"), "weights", "Council.weights", defArgs s_Council_weights, defBody s_Council_weights, defScope s_Council_weights, [], []⟩
def dd_heavy_table : He.DefD := ⟨("heavy_table", none), "heavy_table", "heavy_table", defArgs s_heavy_table, defBody s_heavy_table, defScope s_heavy_table, [], []⟩
def dd_light_sets : He.DefD := ⟨("light_sets", none), "light_sets", "light_sets", defArgs s_light_sets, defBody s_light_sets, defScope s_light_sets, [], []⟩
def dd_all_sides : He.DefD := ⟨("all_sides", none), "all_sides", "all_sides", defArgs s_all_sides, defBody s_all_sides, defScope s_all_sides, [], []⟩
def dd_Shelf___init__ : He.DefD := ⟨("Shelf", some "__init__"), "__init__", "Shelf.__init__", defArgs s_Shelf___init__, defBody s_Shelf___init__, defScope s_Shelf___init__, [], []⟩
def dd_Shelf_makes : He.DefD := ⟨("Shelf", some "makes"), "makes", "Shelf.makes", defArgs s_Shelf_makes, defBody s_Shelf_makes, defScope s_Shelf_makes, [], []⟩
def dd_parts_for : He.DefD := ⟨("parts_for", none), "parts_for", "parts_for", defArgs s_parts_for, defBody s_parts_for, defScope s_parts_for, [], []⟩
def dd_parted : He.DefD := ⟨("parted", none), "parted", "parted", defArgs s_parted, defBody s_parted, defScope s_parted, [], []⟩
def dd_are_weights : He.DefD := ⟨("are_weights", none), "are_weights", "are_weights", defArgs s_are_weights, defBody s_are_weights, defScope s_are_weights, [], []⟩
def dd_are_quotas : He.DefD := ⟨("are_quotas", none), "are_quotas", "are_quotas", defArgs s_are_quotas, defBody s_are_quotas, defScope s_are_quotas, [], []⟩
def dd_Council___init__ : He.DefD := ⟨("Council", some "__init__"), "__init__", "Council.__init__", defArgs s_Council___init__, defBody s_Council___init__, defScope s_Council___init__, [], []⟩
def dd__law_bag : He.DefD := ⟨("_law_bag", none), "_law_bag", "_law_bag", defArgs s__law_bag, defBody s__law_bag, defScope s__law_bag, [], []⟩
def dd__law_take : He.DefD := ⟨("_law_take", none), "_law_take", "_law_take", defArgs s__law_take, defBody s__law_take, defScope s__law_take, [], []⟩
def dd__law_alike : He.DefD := ⟨("_law_alike", none), "_law_alike", "_law_alike", defArgs s__law_alike, defBody s__law_alike, defScope s__law_alike, [], []⟩
def dd__law_council : He.DefD := ⟨("_law_council", none), "_law_council", "_law_council", defArgs s__law_council, defBody s__law_council, defScope s__law_council, [], []⟩
def dd__law_made : He.DefD := ⟨("_law_made", none), "_law_made", "_law_made", defArgs s__law_made, defBody s__law_made, defScope s__law_made, [], []⟩
def dd__law_settle : He.DefD := ⟨("_law_settle", none), "_law_settle", "_law_settle", defArgs s__law_settle, defBody s__law_settle, defScope s__law_settle, [], []⟩
def dd__law_row : He.DefD := ⟨("_law_row", none), "_law_row", "_law_row", defArgs s__law_row, defBody s__law_row, defScope s__law_row, [], []⟩
def dd__law_every : He.DefD := ⟨("_law_every", none), "_law_every", "_law_every", defArgs s__law_every, defBody s__law_every, defScope s__law_every, [], []⟩
def dd__law_due : He.DefD := ⟨("_law_due", none), "_law_due", "_law_due", defArgs s__law_due, defBody s__law_due, defScope s__law_due, [], []⟩
def dd__law_other : He.DefD := ⟨("_law_other", none), "_law_other", "_law_other", defArgs s__law_other, defBody s__law_other, defScope s__law_other, [], []⟩
def dd_law : He.DefD := ⟨("law", none), "law", "law", defArgs s_law, defBody s_law, defScope s_law, [], []⟩
def fn : List He.DefD := [dd_meets_bound, dd_meets, dd_exactly, dd_is_integer, dd_is_between, dd_Council_total, dd_Council_allowance, dd_rooms_of, dd_fits, dd_next_loads, dd_load_levels, dd_first_fit, dd_can_pack, dd_bits_of, dd_members, dd_Packer___init__, dd_Packer_is_heavy, dd_heavy_masks, dd_Council_weights, dd_heavy_table, dd_light_sets, dd_all_sides, dd_Shelf___init__, dd_Shelf_makes, dd_parts_for, dd_parted, dd_are_weights, dd_are_quotas, dd_Council___init__, dd__law_bag, dd__law_take, dd__law_alike, dd__law_council, dd__law_made, dd__law_settle, dd__law_row, dd__law_every, dd__law_due, dd__law_other, dd_law]
def fa : List He.Fa := [.glo "meets_bound", .glo "meets", .glo "exactly", .glo "is_integer", .glo "is_between", .meth "Council" "total", .meth "Council" "allowance", .glo "rooms_of", .glo "fits", .glo "next_loads", .glo "load_levels", .glo "first_fit", .glo "can_pack", .glo "bits_of", .glo "members", .meth "Packer" "is_heavy", .glo "heavy_masks", .meth "Council" "weights", .glo "heavy_table", .glo "light_sets", .glo "all_sides", .meth "Shelf" "makes", .glo "parts_for", .glo "parted", .glo "are_weights", .glo "are_quotas", .glo "_law_bag", .glo "_law_take", .glo "_law_alike", .glo "_law_council", .glo "_law_made", .glo "_law_settle", .glo "_law_row", .glo "_law_every", .glo "_law_due", .glo "_law_other", .glo "law", .mkr "Council", .glo "Council", .mkr "Packer", .glo "Packer", .mkr "Shelf", .glo "Shelf", .free "abs", .free "all", .free "any", .free "bool", .free "enumerate", .free "int", .free "isinstance", .free "len", .free "list", .free "max", .free "range", .free "repr", .free "set", .free "sorted", .free "sum", .free "tuple", .free "zip", .int "LEAST_SEATS" (2), .int "MOST_COLUMNS" (6), .int "MOST_SEATS" (7), .int "MOST_WEIGHT" (1000000), .cls "Council", .cls "Packer", .cls "Shelf", .noat "Council" "column_quotas", .noat "Council" "seat_weights", .noat "Packer" "its_answers", .noat "Packer" "its_rooms", .noat "Packer" "its_weights", .noat "Shelf" "its_parts", .noat "Shelf" "its_rows"]
def loose0 : List PySem.Str := ["_wall", "__name__", "meets_bound", "meets", "exactly", "is_integer", "is_between", "rooms_of", "fits", "next_loads", "load_levels", "first_fit", "can_pack", "bits_of", "members", "Packer", "heavy_masks", "heavy_table", "light_sets", "all_sides"]
def loose1 : List PySem.Str := ["Shelf", "parts_for", "parted", "CouncilError", "Wrong", "LEAST_SEATS", "MOST_SEATS", "MOST_WEIGHT", "MOST_COLUMNS", "are_weights", "are_quotas", "Council", "_law_bag", "_law_take", "_law_alike", "_law_council", "_law_made", "_law_settle", "_law_row", "_law_every"]
def loose2 : List PySem.Str := ["_law_due", "_law_other"]
def loose : List PySem.Str := loose0 ++ loose1 ++ loose2
abbrev RR : PySem.W.OpenRow := PySem.W.OpenLaw.row PySem.Challenge.rw_packedseats_k84_shelves_parted
abbrev hk : PySem.W.Hook := He.hookD 6 fa fn
def ob (s : PySem.W.SharedT) : He.AlD := He.obsDG 6 fa fn (HandSHeadRun.getT s)
theorem ob_eq (s : PySem.W.SharedT) : ob s = hk.obs s.abs := He.obsDG_eq (HandSHeadRun.getT_eq s)
theorem run_head (w : World) : HandSHeadRun.RunEq RR (PySem.W.view RR.prog [50]) hk ob 3000 loose w := by
  intro os
  kernel_rfl
theorem tx_of {K : PySem.W.Frag} {h : Heap} {mg : Str → Option Value} (X : K.In h) (G : h.Ns mainGlobals mg) (c : He.SaysD fa fn K) : Tx K mg where
  d_meets_bound := c.def_ 0 (d := dd_meets_bound) rfl
  g_meets_bound := He.glo_ok X G (c.fact 0 (f := .glo "meets_bound") rfl)
  d_meets := c.def_ 1 (d := dd_meets) rfl
  g_meets := He.glo_ok X G (c.fact 1 (f := .glo "meets") rfl)
  d_exactly := c.def_ 2 (d := dd_exactly) rfl
  g_exactly := He.glo_ok X G (c.fact 2 (f := .glo "exactly") rfl)
  d_is_integer := c.def_ 3 (d := dd_is_integer) rfl
  g_is_integer := He.glo_ok X G (c.fact 3 (f := .glo "is_integer") rfl)
  d_is_between := c.def_ 4 (d := dd_is_between) rfl
  g_is_between := He.glo_ok X G (c.fact 4 (f := .glo "is_between") rfl)
  d_Council_total := c.def_ 5 (d := dd_Council_total) rfl
  m_Council_total := He.meth_ok (c.fact 5 (f := .meth "Council" "total") rfl)
  d_Council_allowance := c.def_ 6 (d := dd_Council_allowance) rfl
  m_Council_allowance := He.meth_ok (c.fact 6 (f := .meth "Council" "allowance") rfl)
  d_rooms_of := c.def_ 7 (d := dd_rooms_of) rfl
  g_rooms_of := He.glo_ok X G (c.fact 7 (f := .glo "rooms_of") rfl)
  d_fits := c.def_ 8 (d := dd_fits) rfl
  g_fits := He.glo_ok X G (c.fact 8 (f := .glo "fits") rfl)
  d_next_loads := c.def_ 9 (d := dd_next_loads) rfl
  g_next_loads := He.glo_ok X G (c.fact 9 (f := .glo "next_loads") rfl)
  d_load_levels := c.def_ 10 (d := dd_load_levels) rfl
  g_load_levels := He.glo_ok X G (c.fact 10 (f := .glo "load_levels") rfl)
  d_first_fit := c.def_ 11 (d := dd_first_fit) rfl
  g_first_fit := He.glo_ok X G (c.fact 11 (f := .glo "first_fit") rfl)
  d_can_pack := c.def_ 12 (d := dd_can_pack) rfl
  g_can_pack := He.glo_ok X G (c.fact 12 (f := .glo "can_pack") rfl)
  d_bits_of := c.def_ 13 (d := dd_bits_of) rfl
  g_bits_of := He.glo_ok X G (c.fact 13 (f := .glo "bits_of") rfl)
  d_members := c.def_ 14 (d := dd_members) rfl
  g_members := He.glo_ok X G (c.fact 14 (f := .glo "members") rfl)
  d_Packer___init__ := c.def_ 15 (d := dd_Packer___init__) rfl
  d_Packer_is_heavy := c.def_ 16 (d := dd_Packer_is_heavy) rfl
  m_Packer_is_heavy := He.meth_ok (c.fact 15 (f := .meth "Packer" "is_heavy") rfl)
  d_heavy_masks := c.def_ 17 (d := dd_heavy_masks) rfl
  g_heavy_masks := He.glo_ok X G (c.fact 16 (f := .glo "heavy_masks") rfl)
  d_Council_weights := c.def_ 18 (d := dd_Council_weights) rfl
  m_Council_weights := He.meth_ok (c.fact 17 (f := .meth "Council" "weights") rfl)
  d_heavy_table := c.def_ 19 (d := dd_heavy_table) rfl
  g_heavy_table := He.glo_ok X G (c.fact 18 (f := .glo "heavy_table") rfl)
  d_light_sets := c.def_ 20 (d := dd_light_sets) rfl
  g_light_sets := He.glo_ok X G (c.fact 19 (f := .glo "light_sets") rfl)
  d_all_sides := c.def_ 21 (d := dd_all_sides) rfl
  g_all_sides := He.glo_ok X G (c.fact 20 (f := .glo "all_sides") rfl)
  d_Shelf___init__ := c.def_ 22 (d := dd_Shelf___init__) rfl
  d_Shelf_makes := c.def_ 23 (d := dd_Shelf_makes) rfl
  m_Shelf_makes := He.meth_ok (c.fact 21 (f := .meth "Shelf" "makes") rfl)
  d_parts_for := c.def_ 24 (d := dd_parts_for) rfl
  g_parts_for := He.glo_ok X G (c.fact 22 (f := .glo "parts_for") rfl)
  d_parted := c.def_ 25 (d := dd_parted) rfl
  g_parted := He.glo_ok X G (c.fact 23 (f := .glo "parted") rfl)
  d_are_weights := c.def_ 26 (d := dd_are_weights) rfl
  g_are_weights := He.glo_ok X G (c.fact 24 (f := .glo "are_weights") rfl)
  d_are_quotas := c.def_ 27 (d := dd_are_quotas) rfl
  g_are_quotas := He.glo_ok X G (c.fact 25 (f := .glo "are_quotas") rfl)
  d_Council___init__ := c.def_ 28 (d := dd_Council___init__) rfl
  d__law_bag := c.def_ 29 (d := dd__law_bag) rfl
  g__law_bag := He.glo_ok X G (c.fact 26 (f := .glo "_law_bag") rfl)
  d__law_take := c.def_ 30 (d := dd__law_take) rfl
  g__law_take := He.glo_ok X G (c.fact 27 (f := .glo "_law_take") rfl)
  d__law_alike := c.def_ 31 (d := dd__law_alike) rfl
  g__law_alike := He.glo_ok X G (c.fact 28 (f := .glo "_law_alike") rfl)
  d__law_council := c.def_ 32 (d := dd__law_council) rfl
  g__law_council := He.glo_ok X G (c.fact 29 (f := .glo "_law_council") rfl)
  d__law_made := c.def_ 33 (d := dd__law_made) rfl
  g__law_made := He.glo_ok X G (c.fact 30 (f := .glo "_law_made") rfl)
  d__law_settle := c.def_ 34 (d := dd__law_settle) rfl
  g__law_settle := He.glo_ok X G (c.fact 31 (f := .glo "_law_settle") rfl)
  d__law_row := c.def_ 35 (d := dd__law_row) rfl
  g__law_row := He.glo_ok X G (c.fact 32 (f := .glo "_law_row") rfl)
  d__law_every := c.def_ 36 (d := dd__law_every) rfl
  g__law_every := He.glo_ok X G (c.fact 33 (f := .glo "_law_every") rfl)
  d__law_due := c.def_ 37 (d := dd__law_due) rfl
  g__law_due := He.glo_ok X G (c.fact 34 (f := .glo "_law_due") rfl)
  d__law_other := c.def_ 38 (d := dd__law_other) rfl
  g__law_other := He.glo_ok X G (c.fact 35 (f := .glo "_law_other") rfl)
  d_law := c.def_ 39 (d := dd_law) rfl
  g_law := He.glo_ok X G (c.fact 36 (f := .glo "law") rfl)
  m_Council := He.mkr_ok (c.fact 37 (f := .mkr "Council") rfl)
  g_Council := He.glo_ok X G (c.fact 38 (f := .glo "Council") rfl)
  m_Packer := He.mkr_ok (c.fact 39 (f := .mkr "Packer") rfl)
  g_Packer := He.glo_ok X G (c.fact 40 (f := .glo "Packer") rfl)
  m_Shelf := He.mkr_ok (c.fact 41 (f := .mkr "Shelf") rfl)
  g_Shelf := He.glo_ok X G (c.fact 42 (f := .glo "Shelf") rfl)
  b_abs := He.free_ok X G (c.fact 43 (f := .free "abs") rfl)
  b_all := He.free_ok X G (c.fact 44 (f := .free "all") rfl)
  b_any := He.free_ok X G (c.fact 45 (f := .free "any") rfl)
  b_bool := He.free_ok X G (c.fact 46 (f := .free "bool") rfl)
  b_enumerate := He.free_ok X G (c.fact 47 (f := .free "enumerate") rfl)
  b_int := He.free_ok X G (c.fact 48 (f := .free "int") rfl)
  b_isinstance := He.free_ok X G (c.fact 49 (f := .free "isinstance") rfl)
  b_len := He.free_ok X G (c.fact 50 (f := .free "len") rfl)
  b_list := He.free_ok X G (c.fact 51 (f := .free "list") rfl)
  b_max := He.free_ok X G (c.fact 52 (f := .free "max") rfl)
  b_range := He.free_ok X G (c.fact 53 (f := .free "range") rfl)
  b_repr := He.free_ok X G (c.fact 54 (f := .free "repr") rfl)
  b_set := He.free_ok X G (c.fact 55 (f := .free "set") rfl)
  b_sorted := He.free_ok X G (c.fact 56 (f := .free "sorted") rfl)
  b_sum := He.free_ok X G (c.fact 57 (f := .free "sum") rfl)
  b_tuple := He.free_ok X G (c.fact 58 (f := .free "tuple") rfl)
  b_zip := He.free_ok X G (c.fact 59 (f := .free "zip") rfl)
  c_LEAST_SEATS := He.int_ok X G (c.fact 60 (f := .int "LEAST_SEATS" (2)) rfl)
  c_MOST_COLUMNS := He.int_ok X G (c.fact 61 (f := .int "MOST_COLUMNS" (6)) rfl)
  c_MOST_SEATS := He.int_ok X G (c.fact 62 (f := .int "MOST_SEATS" (7)) rfl)
  c_MOST_WEIGHT := He.int_ok X G (c.fact 63 (f := .int "MOST_WEIGHT" (1000000)) rfl)
  l_Council := He.cls_ok (c.fact 64 (f := .cls "Council") rfl)
  l_Packer := He.cls_ok (c.fact 65 (f := .cls "Packer") rfl)
  l_Shelf := He.cls_ok (c.fact 66 (f := .cls "Shelf") rfl)
  n_Council_column_quotas := He.noat_ok (c.fact 67 (f := .noat "Council" "column_quotas") rfl)
  n_Council_seat_weights := He.noat_ok (c.fact 68 (f := .noat "Council" "seat_weights") rfl)
  n_Packer_its_answers := He.noat_ok (c.fact 69 (f := .noat "Packer" "its_answers") rfl)
  n_Packer_its_rooms := He.noat_ok (c.fact 70 (f := .noat "Packer" "its_rooms") rfl)
  n_Packer_its_weights := He.noat_ok (c.fact 71 (f := .noat "Packer" "its_weights") rfl)
  n_Shelf_its_parts := He.noat_ok (c.fact 72 (f := .noat "Shelf" "its_parts") rfl)
  n_Shelf_its_rows := He.noat_ok (c.fact 73 (f := .noat "Shelf" "its_rows") rfl)
end Pk
open PySem PySem.W PySem.Calls PyProof.Rows
theorem PySem.Challenge.cw_packedseats_k84_shelves_parted_holds : PySem.Challenge.rw_packedseats_k84_shelves_parted.Holds := by
  w_on; o_law
  refine HandSHeadRun.head_any (r := OpenLaw.row PySem.Challenge.rw_packedseats_k84_shelves_parted) (q := view (OpenLaw.row PySem.Challenge.rw_packedseats_k84_shelves_parted).prog [50]) (H := Pk.hk) (ob := Pk.ob) (M := 3000) (loose := Pk.loose) (d := HandSHeadRun.topDef (OpenLaw.row PySem.Challenge.rw_packedseats_k84_shelves_parted).prog 50) (kwd := []) Pk.ob_eq
    (by kernel_rfl) (fun s => by kernel_rfl) Pk.run_head (by kernel_rfl) (by kernel_rfl) (by kernel_rfl) (by rfl) (by first | assumption | decide +kernel) (by decide +kernel) ⟨rfl, rfl, rfl, rfl, rfl, by decide +kernel⟩ ?hw ?hc
  case hw => w_witness2
  case hc =>
    refine Pk.walkG (l := PySem.Challenge.rw_packedseats_k84_shelves_parted) (n := 63) (lvl := 10) (x := "script") (CX := L2.CX0) rfl (by decide) (by kernel_rfl) ⟨rfl, by decide, by decide⟩ ?F (fun _ _ _ _ z => z)
    intro w mg fa h Y G hmg0
    obtain ⟨K, KX, c⟩ := Y
    have hmg : mg ("law" : PySem.Str) = some (.ref fa) := by
      have e : (HandSHeadRun.topDef (OpenLaw.row PySem.Challenge.rw_packedseats_k84_shelves_parted).prog 50).name = ("law" : PySem.Str) := by kernel_rfl
      rw [← e]
      exact hmg0
    have T := Pk.tx_of KX G c
    have ea := hmg.symm.trans (He.glo_ok KX G (c.fact 36 (f := .glo "law") rfl))
    cases ea
    obtain ⟨fd, F⟩ := T.d_law
    have b := L2.FunD.bindsA (ps := ["script"]) F fun _ _ _ _ _ _ us hl => match us, hl with | [_], _ => rfl
    exact ⟨K, fd, Pk.sp_law K, KX, fun s v => b s [v] rfl, fun H a ns hl _ hS => ⟨a, ns, rfl, hS, fun _ => rfl⟩, fun base _ _ => Pk.run_law T F⟩

