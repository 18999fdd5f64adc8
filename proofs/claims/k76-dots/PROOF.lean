import PyProof.Rows.All
import HandS.ForMost
import HandS.EndBits
import Wide.All
import OpenK.AllK
import Wide.FinOn
import HandS.TupAny
import HandS.IsInst
import HandS.Style
import HandS.Small
import HandS.DictComp
import HandS.Conv
import HandS.Zip
import HandS.TupLen
import HandS.Deep
import KE.SortData
import KE.DataMinMax
import KE.DataCmp
import PyProof.StrOps2
import HandS.DeepEq
import HandS.DictEq
import HandS.More
import PyProof.ReprLen
import PyProof.ReprRoads
import PyProof.FitsInt
import PyProof.CollectStr
import PyProof.TupleOfSeq
import KE.KDictSum
import PyProof.Transfer
import PyProof.ReprText
import PyProof.StrLawsRepr
import KE.GoesNew
import HandS.Codes
import PyProof.Rows.RegReprOcc
import HandS.ListItems
import PySem.Challenge.RW_twotexts_k76_whole_dots_of_two_texts
set_option Elab.async false
set_option linter.all false
set_option maxRecDepth 100000
/-! Pd0: promises of defs where nothing is being shown (so that repr may be asked). -/
namespace Pd
open PySem PySem.Spec PyProof.Rows L2

/-- no repr is under way -/
def Calm0 (A : Around) : Prop := A.guards = some []
structure FnG (P : Program) (w : World) (K : PySem.W.Frag) (mg : Str → Option Value) (base : Heap) (C : CXT) (k : Nat) (f : Addr) (fd : FuncData) (ps : List Str) (sp : Sp) : Prop where
  len : ∀ vs H Q E, sp vs H Q E → vs.length = ps.length
  run : ∀ (A : Around) (outer : List Env) (s : Shared) (H : Hp) (args : Args) (us : List Value) (vs : List V) (Q : VK) (E : XK), Room k A ∧ Calm0 A → Env0 P w K mg base A outer s H → BindsTo s fd args (ps.zip us) → Vals vs us → sp vs H Q E →
    codeAny (model P w) A (.call (.ref f) args) (CR C outer P w H s Q E) s
section
variable {X : Cx} {C : CXT} {k : Nat} {f : Addr} {fd : FuncData} {ps : List Str} {sp : Sp} {ds : List Value} {dvs : List V} {E : XK} {x : Str} {p pos : Pos} {e : Expr} {es : List Expr} {t : TA}
theorem FnG.go {pins : List (Addr × Obj)} {σ : L2.St} {H : Hp} {s : Shared} {Q : VK} {us : List Value} {vs : List V} (F : FnG X.prog X.w X.K X.mg X.base C k f fd ps sp) (h0 : Room k X.A ∧ Calm0 X.A) (b0 : Binds X.K fd ps ds) (d0 : Vals dvs ds)
    (x0 : Passes C X E) (I : Inv X pins σ H s) (r0 : Vals vs us) (q0 : sp (vs ++ dvs) H Q E) : wpAny (model X.prog X.w) X.A (call (.ref f) us) (EP X pins σ Q) X.xe s := by
  have both := r0.append d0
  have many : (us ++ ds).length = ps.length := both.length.symm.trans (F.len _ _ _ _ q0)
  have main := F.run X.A X.stack s H ⟨us, []⟩ (us ++ ds) (vs ++ dvs) Q E h0 I.env0 (b0 s us I.kIn many) both q0
  refine wpAny_call (codeAny_mono main fun r s' z => ?_)
  match r, z with
  | .error er, z => exact x0 pins σ H s er s' I z
  | .ok (.ret u), z => exact I.after z
  | .ok .next, z => exact False.elim z
  | .ok .brk, z => exact False.elim z
  | .ok .cont, z => exact False.elim z
theorem peG (F : FnG X.prog X.w X.K X.mg X.base C k f fd ps sp) (h0 : Room k X.A ∧ Calm0 X.A) (hg : Gl X x) (hm : X.mg x = some (.ref f)) (hk : PySem.W.keepIn X.K (.ref f) = true) (b0 : Binds X.K fd ps ds) (d0 : Vals dvs ds) (x0 : Passes C X E)
    (ha : PA X (e :: es) t) (hdb : (x == ("__debug__" : Str)) = false) (he : starEach (e :: es) X.env = (false, eval e X.env) :: starEach es X.env) (hpl : (backTo pos (starEach es X.env)).any (·.1) = false) :
    PE X (.Call (.Name x p) (e :: es) [] pos) (tCall sp dvs E t) where
  run pins s σ H Q I q := wpAny_Call_Name_kw (ld_glob I hg hm (PySem.W.callWith_K (h₀ := X.base) I.ok.mod.kin hk (thn (ha.run pos pins s σ H _ I q) fun us s1 ⟨vs, H1, I1, r, q1⟩ => ⟨I1.kIn, F.go h0 b0 d0 x0 I1 r q1⟩) he hpl) hdb)
theorem peG0 (F : FnG X.prog X.w X.K X.mg X.base C k f fd ps sp) (h0 : Room k X.A ∧ Calm0 X.A) (hg : Gl X x) (hm : X.mg x = some (.ref f)) (hk : PySem.W.keepIn X.K (.ref f) = true) (b0 : Binds X.K fd ps ds) (d0 : Vals dvs ds) (x0 : Passes C X E)
    (hdb : (x == ("__debug__" : Str)) = false) : PE X (.Call (.Name x p) [] [] pos) (tCall sp dvs E tNil) where
  run pins s σ H Q I q := wpAny_Call_Name_kw (ld_glob I hg hm (PySem.W.callWith_K0 I.kIn hk (F.go (us := []) h0 b0 d0 x0 I .nil q)) hdb)
end
/-- a def by its body -/
theorem fnG_of {C : CXT} {P : Program} {w : World} {K : PySem.W.Frag} {mg : Str → Option Value} {base : Heap} {k : Nat} {f : Addr} {qual name : Str} {st : Stmt} {fd : FuncData} {N ps : List Str} {sp : Sp} (F : L2.Fun K name qual st f fd) (S : FnScope N ps (defScope st))
    (len : ∀ vs H Q E, sp vs H Q E → vs.length = ps.length)
    (body : ∀ (cdv : Value) (A : Around) (outer : List Env) (s : Shared) (H : Hp) (vs : List V) (Q : VK) (E : XK), Room k (A.deeper (envOfC qual (defScope st) s.heap.objs.size f cdv)) → Calm0 A → sp vs H Q E →
      ∃ t, PSs (cxOf C P w K mg base N qual (defScope st) f cdv A outer s H E) (defBody st) t ∧ t { nx := fun _ H' => Q .non H', rt := Q } (start N vs) H) : FnG P w K mg base C (k + 1) f fd ps sp := by
  obtain ⟨oc, od, kV, doc, pm, an, cdv, ct, osl, rfl, lk, hcd⟩ := F.ex
  refine ⟨len, fun A outer s H args us vs Q E ⟨hr, hc⟩ e0 hb r hsp => ?_⟩
  have kin : K.In s.heap := e0.mod.kin.keeps fun b o e => (e0.bs b o e).1
  have lim := e0.mod.nolimit.keeps fun b o e => (e0.bs b o e).1
  refine codeAny_call_function hr.depth (kin _ _ lk) rfl S.co S.gen rfl (PySem.W.codeRec_of kin hcd) (hb _ _ _ _ (wpAny_newFunctionEnv_cells S.kind ?_ ?_))
  · intro y hy
    rcases S.par y.1 (List.of_mem_zip hy).1 with q | q
    · exact .inl q
    · exact .inr ⟨q, PySem.W.cellsFrom_some _ _ _ (.inl q)⟩
  · intro env he s1 x
    subst he
    obtain ⟨t, ht, hq⟩ := body cdv A outer s H vs Q E (hr.deeper _) hc hsp
    have I : Inv (cxOf C P w K mg base N qual (defScope st) f cdv A outer s H E) [] (start N vs) H s1 := inv_start S hr.hd e0 (len _ _ _ _ hsp) r x
    refine ⟨lim.keeps x.toInCall.keep, codeAny_func (wpAny_mono (ht.run [] s1 (start N vs) H _ I hq) (fun fl s' z => ?_) fun _ _ z => z)⟩
    have done : ∀ {σ' : L2.St} {H' : Hp} {v : V} {u : Value}, Inv (cxOf C P w K mg base N qual (defScope st) f cdv A outer s H E) [] σ' H' s' → RelV v u → Q v H' → CE outer P w H s Q u s' := fun J rv q => ⟨_, _, J.os, J.bare, J.base, J.hok, rv, q⟩
    cases fl with
    | ret u => obtain ⟨v, σ', H', J, rv, q⟩ := z; exact done J rv q
    | next => obtain ⟨σ', H', J, q⟩ := z; exact done (v := V.non) (u := Value.none) J rfl q
    | brk => exact z.choose_spec.choose_spec.2.elim
    | cont => exact z.choose_spec.choose_spec.2.elim
/-- the law's call -/
theorem lawG {P : Program} {w : World} {K : PySem.W.Frag} {mg mb : Str → Option Value} {C : CXT} {k : Nat} {f a : Addr} {fd : FuncData} {x : Str} {sp : Sp} {s : Shared} {vs : List Value} {ns : List Int} (kin : K.In s.heap) (g1 : s.heap.Ns mainGlobals mg) (g2 : s.heap.Ns builtinsNs mb)
    (g3 : ∀ x : Str, x ≠ "__name__" → mb x = bootBuiltins x) (lim : s.heap.NoLimit) (gens : s.gens = #[]) (ha : s.heap.get? a = some { cls := .type "list", data := .seq vs.toArray }) (hi : IntsAre vs ns) (hl : ns.length ≤ sizeLine) (hr : Room k callerA)
    (F : ∀ base : Heap, K.In base → base.Ns mainGlobals mg → FnG P w K mg base C k f fd [x] sp) (hb : ∀ (s : Shared) (u : Value), BindsTo s fd ⟨[u], []⟩ [(x, u)]) (hsp : ∀ H : Hp, Only H → SqL K H a (ns.map V.int) → sp [.ref a] H (fun v _ => v = .bl true) fun _ _ _ => False)
    (hC : ∀ H e s', C [] H s (fun _ _ _ => False) e s' → False) :
    codeAny (model P w) callerA (.call (.ref f) ⟨[.ref a], []⟩) (fun r s' => r = .ok (.ret (.bool true)) ∧ OldK s.heap s'.heap ∧ s'.os = s.os ∧ AllBare s'.gens) s := by
  have lv := hi.length
  have rv := vals_ints hi
  suffices main : ∀ H : Hp, Only H → SqL K H a (ns.map V.int) → HOk P w H s.heap → (∀ b, H b ≠ none → b = a) → (H a ≠ none → K.lookup a = none) →
      codeAny (model P w) callerA (.call (.ref f) ⟨[.ref a], []⟩) (fun r s' => r = .ok (.ret (.bool true)) ∧ OldK s.heap s'.heap ∧ s'.os = s.os ∧ AllBare s'.gens) s by
    cases hk : K.lookup a with
    | some o =>
      have e := kin a o hk
      rw [ha] at e
      cases e
      exact main (fun _ => none) (fun _ => .inl rfl) (.inr ⟨_, vs.toArray, _, hk, rfl, rfl, rfl, by rw [List.size_toArray, lv]; exact hl, by simpa using rv⟩) (fun b u z => nomatch z) (fun b z => absurd rfl z) fun z => absurd rfl z
    | none =>
      let H0 : Hp := fun b => if b = a then some (.frz { cls := .type "list", data := .seq vs.toArray } (.lst (ns.map V.int))) else none
      have at0 : H0 a = some (.frz { cls := .type "list", data := .seq vs.toArray } (.lst (ns.map V.int))) := if_pos rfl
      have off : ∀ b, b ≠ a → H0 b = none := fun b z => if_neg z
      refine main H0 (fun b => ?_) (.inl (.inr ⟨_, at0⟩)) (fun b u z => ?_) (fun b z => ?_) fun _ => hk
      · by_cases q : b = a
        · exact .inr ⟨_, _, if_pos q⟩
        · exact .inl (off b q)
      · by_cases q : b = a
        · subst q
          rw [at0] at z
          cases z
          exact ⟨ha, by rw [List.length_map]; exact hl, vs, _, rv, ha⟩
        · rw [off b q] at z
          cases z
      · by_cases q : b = a
        · exact q
        · exact absurd (off b q) z
  intro H hO hS hok hA hK
  have here : ∀ {b : Addr} {o : Obj}, s.heap.get? b = some o → H b = none → (hidT s.heap H).get? b = some o := fun e n => hidT_get e n
  have one : ∀ {b : Addr}, H b ≠ none → b = a := fun z => hA _ z
  have free : ∀ {b : Addr} {o : Obj}, s.heap.get? b = some o → (b = a → False) → H b = none := fun {b o} e z => Classical.byContradiction fun n => z (one n)
  have dct : ∀ {b : Addr} {o : Obj} {es : Array DictEntry} {ep : Nat}, s.heap.get? b = some o → o.data = .dict es ep → H b = none := fun {b o es ep} e d => free e fun z => by
    subst z
    rw [ha] at e
    cases e
    cases (show Data.seq vs.toArray _ = Data.dict es ep from d)
  have nsp : ∀ {b : Addr} {m : Str → Option Value}, s.heap.Ns b m → (hidT s.heap H).Ns b m := fun ⟨o, es, ep, e, d, r⟩ => ⟨o, es, ep, here e (dct e d), d, r⟩
  have kin' : K.In (hidT s.heap H) := fun b o e => here (kin b o e) (Classical.byContradiction fun n => by
    have z := one n
    subst z
    rw [hK n] at e
    cases e)
  have M0 : Mod K mg (hidT s.heap H) := ⟨kin', nsp g1, ⟨mb, nsp g2, g3⟩, let ⟨mc, h1, h2⟩ := lim; ⟨mc, nsp h1, h2⟩⟩
  have E0 : Env0 P w K mg (hidT s.heap H) callerA [] s H := ⟨rfl, M0, fun b o e => of_hidT e, Nat.le_of_eq (hidT_size _ _), trivial, fun b hb => (List.not_mem_nil hb).elim, hok, .of_eq gens⟩
  refine codeAny_mono ((F _ kin' (nsp g1)).run callerA [] s H ⟨[.ref a], []⟩ [.ref a] [.ref a] _ _ ⟨hr, rfl⟩ E0 (hb s (.ref a)) (.cons rfl .nil) (hsp H hO hS)) fun r s' z => ?_
  match r, z with
  | .error er, z => exact (hC H er s' z).elim
  | .ok .next, z => exact False.elim z
  | .ok .brk, z => exact False.elim z
  | .ok .cont, z => exact False.elim z
  | .ok (.ret u), z =>
    obtain ⟨v, H', os, bare, un, hok', r', q⟩ := z
    cases (show v = .bl true from q)
    cases (show u = Value.bool true from r')
    refine ⟨rfl, OldK.of_keep fun b o e => ?_, os, bare⟩
    cases q : H b with
    | none => exact un.keep b o e q (fun z => (List.not_mem_nil z).elim) (by simp)
    | some u =>
      rcases hO b with z | ⟨ob, xs, z⟩
      · rw [q] at z; cases z
      · have e1 := (hok b _ z).1
        have e2 := (hok' b _ (un.frzs b ob _ z)).1
        rw [e] at e1
        cases e1
        exact e2
theorem walkG {l : PySem.W.OpenLaw} {n k : Nat} {q : Program} {loose : List Str} {XP : (Str → Option Value) → Heap → Prop} {YP : World → Heap → Prop} {d : DefRec} {K : Params → PySem.W.Frag} {C : World → CXT} {sp : World → Sp} {x : Str} (hn : l.most = some n) (hn2 : n ≤ sizeLine)
    (hdf : d.params.defaults = []) (hr : Room k callerA) (hY : ∀ (w : World) (h : Heap), YP w h → (K w.params).In h)
    (F : ∀ (w : World) (mg : Str → Option Value) (fa : Addr) (h : Heap), (K w.params).In h → h.Ns mainGlobals mg → mg d.name = some (.ref fa) → ∃ fd : FuncData, (∀ (s : Shared) (u : Value), BindsTo s fd ⟨[u], []⟩ [(x, u)]) ∧ ∀ base : Heap, (K w.params).In base → base.Ns mainGlobals mg → FnG l.prog w (K w.params) mg base (C w) k fa fd [x] (sp w))
    (hsp : ∀ (w : World) (H : Hp) (a : Addr) (ns : List Int), ns.length ≤ n → (∀ z ∈ ns, Builtin.Int.intBits z ≤ 1048576) → Only H → SqL (K w.params) H a (ns.map V.int) → sp w [.ref a] H (fun v _ => v = .bl true) fun _ _ _ => False)
    (hC : ∀ (w : World) (H : Hp) (s : Shared) (e : Value) (s' : Shared), C w [] H s (fun _ _ _ => False) e s' → False) : PySem.W.WalkO q loose XP YP l.row.toRowW d [] (fun f vs => PySem.call f vs) :=
  Att.attach_callB hn hdf fun w s₀ s₁ mg mb fa o pm cd doc a vs ns G Y _ _ _ hmg hobj hints hlen hbits hg => by
    obtain ⟨fd, hb, hF⟩ := F w mg fa _ (hY w _ Y) G.T.g hmg
    exact lawG (hY w _ Y) G.T.g G.T.b G.T.builtins G.T.nolimit hg hobj hints (Nat.le_trans hlen hn2) hr hF hb (fun H hO hS => hsp w H a ns hlen hbits hO hS) fun H e s' => hC w H s₁ e s'
end Pd

/-! Pd1: data without addresses, the small language, its evaluator. -/
namespace Pd
open PySem PySem.Spec PyProof.Rows L2

/-- a key of a dict -/
inductive DK where
  | i (n : Int)
  | s (c : List Nat)
  | t (ks : List (Int ⊕ List Nat))
  deriving DecidableEq
/-- data: tuples, unchanging lists and dicts by value; a changeable object by its place in the store -/
inductive D where
  | non
  | bl (b : Bool)
  | int (i : Int)
  | str (c : List Nat)
  | tup (xs : List D)
  | lv (xs : List D)
  | dv (t : Bool) (ks : List DK) (vs : List D)
  | ref (l : Nat)
  | ty (n : String)
  | scr (ns : List Int)
  | lk (d : D)
mutual
def D.eqb : D → D → Bool
  | .non, .non => true
  | .bl a, .bl b => a == b
  | .int a, .int b => decide (a = b)
  | .str a, .str b => decide (a = b)
  | .tup xs, .tup ys => D.eqbs xs ys
  | .lv xs, .lv ys => D.eqbs xs ys
  | .dv t ks vs, .dv u js ws => decide (t = u) && decide (ks = js) && D.eqbs vs ws
  | .ref l, .ref m => decide (l = m)
  | .ty n, .ty m => decide (n = m)
  | .scr ns, .scr ms => decide (ns = ms)
  | .lk c, .lk d => D.eqb c d
  | _, _ => false
def D.eqbs : List D → List D → Bool
  | [], [] => true
  | x :: xs, y :: ys => D.eqb x y && D.eqbs xs ys
  | _, _ => false
end
abbrev Store := List D
abbrev Env := List (Option D)
abbrev Calls := Str → List D → Store → Option (D × Store)

inductive Op2 where
  | add | sub | mul | fdiv | mod | pow
  deriving DecidableEq
inductive Cmp where
  | eq | ne | lt | le | gt | ge | isN | notN | mem | nmem
  deriving DecidableEq
inductive Blt where
  | len | abs | int | list | tuple | dict | sum | sum2 | min | max | all | any | sorted | range | isinst | repr | str
  deriving DecidableEq
inductive Mth where
  | join | count | index | append | extend | pop | popi | get | get1 | endswith | update | items | lindex
  deriving DecidableEq

/-- a target: a slot, or slots of a tuple -/
inductive Tg where
  | nm (i : Nat)
  | tp (is : List Nat)

mutual
inductive E where
  | var (i : Nat)
  | non
  | bl (b : Bool)
  | int (i : Int)
  | str (c : List Nat)
  | gv (x : Str) (d : D)
  | op (o : Op2) (a b : E)
  | neg (a : E)
  | cmp (o : Cmp) (a b : E)
  | chain (o p : Cmp) (a b c : E)
  | and (a b : E)
  | or (a b : E)
  | not (a : E)
  | ite (c a b : E)
  | ty (n : String)
  | tup (es : Es)
  | lrg1 (k : Bool) (a : E)
  | lrg2 (k : Bool) (a b : E)
  | lst (k : Bool) (es : Es)
  | dct (k t : Bool) (ks vs : Es)
  | sub (a i : E)
  | slc (a : E) (lo hi : Es)
  | rev (a : E)
  | call (f : Str) (es : Es)
  | blt (b : Blt) (k : Bool) (es : Es)
  | mth (m : Mth) (a : E) (es : Es)
  | lc (k : Bool) (elt : E) (g : Tg) (vs : List Nat) (it : It) (c : Es)
  | lcD (elt : E) (g : Tg) (vs : List Nat) (i : Nat) (c : Es)
  | dc (k : Bool) (key val : E) (g : Tg) (vs : List Nat) (it : It) (c : Es)
  | dsp (k : Bool) (ps : Es)
  | sit (a : E)
  | lc2 (elt : E) (g : Tg) (vs : List Nat) (it : It) (c : Es) (g1 : Tg) (vs1 : List Nat) (it1 : It) (c1 : Es)
inductive Es where
  | nil
  | cons (e : E) (es : Es)
inductive It where
  | of (e : E)
  | range (es : Es)
  | enum (e : E)
  | zip (a b : E)
end
inductive T where
  | skip
  | seq (a b : T)
  | ex (e : E)
  | set (i : Nat) (e : E)
  | tset (is : List Nat) (e : E)
  | par (is : List Nat) (es : Es)
  | setI (o i e : E)
  | aug (i : Nat) (o : Op2) (e : E)
  | ret (e : E)
  | retn
  | ite (c : E) (a b : T)
  | whl (c : E) (b : T)
  | loop (g : Tg) (it : It) (b : T)
  | loopD (g : Tg) (i : Nat) (b : T)
  | brk
  | cont
  | never

/-! ### data as the library's data -/
mutual
def py : D → PyData
  | .bl b => .bool b
  | .int i => .int i
  | .str c => .str ⟨c.toArray⟩
  | .tup xs => .tuple (pys xs)
  | .lv xs => .list (pys xs)
  | .non => .none
  | .dv _ _ _ => .none
  | .ref _ => .none
  | .ty _ => .none
  | .scr _ => .none
  | .lk _ => .none
def pys : List D → List PyData
  | [] => []
  | x :: xs => py x :: pys xs
end
/-- plain data, nested at most so deep -/
def okd : Nat → D → Bool
  | 0, d => match d with
    | .non | .bl _ | .int _ | .str _ => true
    | _ => false
  | n + 1, d => match d with
    | .non | .bl _ | .int _ | .str _ => true
    | .tup xs => xs.all (okd n)
    | .lv xs => xs.all (okd n)
    | _ => false
/-- what stands behind a place -/
def top (S : Store) : D → D
  | .ref l => (S[l]?).getD .non
  | d => d
def asL (S : Store) : D → Option (List D)
  | .lv xs => some xs
  | .ref l => match S[l]? with
    | some (.lv xs) => some xs
    | _ => none
  | _ => none
def asDk (S : Store) : D → Option (Bool × List DK × List D)
  | .dv t ks vs => some (t, ks, vs)
  | .ref l => match S[l]? with
    | some (.dv t ks vs) => some (t, ks, vs)
    | some (.lk (.dv t ks vs)) => some (t, ks, vs)
    | _ => none
  | _ => none
/-- a list or a tuple -/
def asSq (S : Store) : D → Option (List D)
  | .tup xs => some xs
  | d => asL S d

def dkItem : Int ⊕ List Nat → D
  | .inl n => .int n
  | .inr c => .str c
def dkD : DK → D
  | .i n => .int n
  | .s c => .str c
  | .t ks => .tup (ks.map dkItem)
def keyItems : List D → Option (List (Int ⊕ List Nat))
  | [] => some []
  | .int n :: r => (keyItems r).map (.inl n :: ·)
  | .str c :: r => (keyItems r).map (.inr c :: ·)
  | _ :: _ => none
def asKey : D → Option DK
  | .int n => some (.i n)
  | .str c => some (.s c)
  | .tup xs => (keyItems xs).map .t
  | _ => none
def asFlat : D → Option DK
  | .int n => some (.i n)
  | .str c => some (.s c)
  | _ => none
def DK.flat : DK → Bool
  | .t _ => false
  | _ => true
/-- a key of the dict's kind -/
def DK.fits (k : DK) (t : Bool) : Bool := k.flat == !t
def dLook (k : DK) : List DK → List D → Option D
  | j :: js, v :: vs => if j = k then some v else dLook k js vs
  | _, _ => none
def dPutV (k : DK) (v : D) : List DK → List D → List D
  | j :: js, u :: us => (if j = k then v else u) :: dPutV k v js us
  | _, us => us
def dPut (k : DK) (v : D) (ks : List DK) (vs : List D) : List DK × List D :=
  if ks.any (fun j => decide (j = k)) then (ks, dPutV k v ks vs) else (ks ++ [k], vs ++ [v])

/-! ### primitives -/
def line : Nat := 16777216
inductive PR where
  | val (d : D)
  | new (c : D)
def fin (k : Bool) : PR → Store → D × Store
  | .val d, S => (d, S)
  | .new c, S => if k then (.ref S.length, S ++ [c]) else (c, S)

def opS : Op2 → D → D → Store → Option PR
  | .add, .int i, .int j, _ => some (.val (.int (i + j)))
  | .add, .str a, .str b, _ => if a.length + b.length ≤ line then some (.val (.str (a ++ b))) else none
  | .add, .tup xs, .tup ys, _ => if xs.length + ys.length ≤ line then some (.val (.tup (xs ++ ys))) else none
  | .add, x, y, S => match asL S x, asL S y with
    | some xs, some ys => if xs.length + ys.length ≤ line then some (.new (.lv (xs ++ ys))) else none
    | _, _ => none
  | .sub, .int i, .int j, _ => some (.val (.int (i - j)))
  | .mul, .int i, .int j, _ => if i.natAbs < 18446744073709551616 ∨ j.natAbs < 18446744073709551616 then some (.val (.int (i * j))) else none
  | .mul, .str z, .int k, _ => if k.natAbs < 9223372036854775808 ∧ z.length * k.toNat ≤ line then some (.val (.str (List.replicate k.toNat z).flatten)) else none
  | .mul, x, .int k, S => match asL S x with
    | some xs => if k.natAbs < 9223372036854775808 ∧ xs.length * k.toNat ≤ line then some (.new (.lv (List.replicate k.toNat xs).flatten)) else none
    | none => none
  | .fdiv, .int i, .int j, _ => if 0 < j ∧ j.natAbs < 1073741824 then some (.val (.int (i / j))) else none
  | .mod, .int i, .int j, _ => if 0 < j then some (.val (.int (i % j))) else none
  | .pow, .int i, .int j, _ => if 0 ≤ j ∧ j.natAbs < 1000001 ∧ i.natAbs < 18446744073709551616 then some (.val (.int (i ^ j.toNat))) else none
  | _, _, _, _ => none

/-- each key of the one in the other, with the same thing; what is told is told where it is so -/
def sameAll (ks : List DK) (vs : List D) : List DK → List D → Bool
  | j :: js, u :: us => (match dLook j ks vs with
    | some w => okd 11 u && okd 11 w && PyData.eqv (py u) (py w)
    | none => false) && sameAll ks vs js us
  | _, _ => true
def eqDk (S : Store) (x y : D) : Option Bool := match asDk S x, asDk S y with
  | some (false, ks, us), some (false, js, vs) => if ks.length == js.length && sameAll js vs ks us then some true else none
  | _, _ => none
def eqS (S : Store) (x y : D) : Option Bool :=
  if okd 12 (top S x) && okd 12 (top S y) then some (PyData.eqv (py (top S x)) (py (top S y))) else eqDk S x y
def notNone : PyData → Bool
  | .none => false
  | _ => true
def ltS (S : Store) (x y : D) : Option Bool :=
  if okd 12 (top S x) && okd 12 (top S y) && PySem.W.alike (py (top S x)) (py (top S y)) && notNone (py (top S x)) then some (PySem.W.dataLt (py (top S x)) (py (top S y))) else none
def isNon : D → Bool
  | .non => true
  | _ => false
def memS (S : Store) (x y : D) : Option Bool :=
  match x, y with
  | .str [c], .str z => some (decide (c ∈ z))
  | x, y => match asDk S y with
    | some (t, ks, vs) => match asKey x with
      | some k => if k.fits t then some (dLook k ks vs).isSome else none
      | none => none
    | none => match asSq S y with
      | some ys => if okd 12 (top S x) && ys.all (okd 12) then some (ys.any fun z => PyData.eqv (py z) (py (top S x))) else none
      | none => none
def cmpS : Cmp → D → D → Store → Option Bool
  | .eq, x, y, S => eqS S x y
  | .ne, x, y, S => (eqS S x y).map (!·)
  | .lt, x, y, S => ltS S x y
  | .gt, x, y, S => ltS S y x
  | .le, x, y, S => (ltS S y x).map (!·)
  | .ge, x, y, S => (ltS S x y).map (!·)
  | .isN, x, .non, _ => some (isNon x)
  | .notN, x, .non, _ => some (!isNon x)
  | .isN, .bl a, .bl b, _ => some (decide (a = b))
  | .notN, .bl a, .bl b, _ => some (!decide (a = b))
  | .mem, x, y, S => memS S x y
  | .nmem, x, y, S => (memS S x y).map (!·)
  | _, _, _, _ => none

def itemS (x i : D) (S : Store) : Option D :=
  match x, i with
  | .str z, .int j => if z.length ≤ line then (atI z j).map fun c => .str [c] else none
  | .tup xs, .int j => atI xs j
  | x, i => match asL S x, i with
    | some xs, .int j => atI xs j
    | _, i => match asDk S x, asKey i with
      | some (t, ks, vs), some k => if k.fits t then dLook k ks vs else none
      | _, _ => none
def bound? : Option D → Option (Option Int)
  | none => some none
  | some (.int i) => some (some i)
  | _ => none
def cutL {α : Type} (xs : List α) (lo hi : Option Int) : List α := (xs.drop (HT.sIx xs.length 0 lo)).take (HT.sIx xs.length xs.length hi - HT.sIx xs.length 0 lo)
def slcS (x : D) (l h : Option Int) (S : Store) : Option PR :=
  match x with
  | .str z => if z.length ≤ line then some (.val (.str (cutL z l h))) else none
  | .tup xs => some (.val (.tup (cutL xs l h)))
  | .scr ns => some (.new (.lv ((cutL ns l h).map .int)))
  | x => (asL S x).map fun xs => .new (.lv (cutL xs l h))
def revS (x : D) (S : Store) : Option PR := (asL S x).map fun xs => .new (.lv xs.reverse)

def tyOf (S : Store) : D → Option String
  | .non => some "NoneType"
  | .bl _ => some "bool"
  | .int _ => some "int"
  | .str _ => some "str"
  | .tup _ => some "tuple"
  | .lv _ => some "list"
  | .dv false _ _ => some "dict"
  | .scr _ => some "list"
  | .ref l => match S[l]? with
    | some (.lv _) => some "list"
    | some (.dv _ _ _) => some "dict"
    | some (.lk (.dv false _ _)) => some "dict"
    | _ => none
  | _ => none
def isTy (t n : String) : Bool := t == n || (t == "bool" && n == "int")
def knownTy (n : String) : Bool := n == "int" || n == "str" || n == "tuple" || n == "list" || n == "dict" || n == "bool"
def isinstS (S : Store) (x : D) (n : String) : Option Bool :=
  match tyOf S x with
  | some t => if knownTy n then some (isTy t n) else none
  | none => none
def isAny (S : Store) (x : D) : List D → Option Bool
  | [] => if (tyOf S x).isSome then some false else none
  | .ty n :: r => match isinstS S x n, isAny S x r with
    | some b, some c => some (b || c)
    | _, _ => none
  | _ :: _ => none
def boolsOf : List D → Option (List Bool)
  | [] => some []
  | .bl b :: r => (boolsOf r).map (b :: ·)
  | _ :: _ => none
def intsOf : List D → Option (List Int)
  | [] => some []
  | .int b :: r => (intsOf r).map (b :: ·)
  | _ :: _ => none
def strsOf : List D → Option (List (List Nat))
  | [] => some []
  | .str b :: r => (strsOf r).map (b :: ·)
  | _ :: _ => none
/-- data that can be put in order -/
def alikeL (xs : List D) : Bool :=
  xs.all (okd 12) && xs.all fun x => !isNon x && xs.all fun y => PySem.W.alike (py x) (py y)
def isTup1 : D → Bool
  | .tup (_ :: _) => true
  | _ => false
def isNoTup : D → Bool
  | .tup _ => false
  | _ => true
def sortableL (xs : List D) : Bool := xs.all isTup1 || xs.all isNoTup
def leD (x y : D) : Bool := !PySem.W.dataLt (py y) (py x)
def minL (x : D) (xs : List D) : D := xs.foldl (fun a y => if PySem.W.dataLt (py y) (py a) then y else a) x
def maxL (x : D) (xs : List D) : D := xs.foldl (fun a y => if PySem.W.dataLt (py a) (py y) then y else a) x
def walkS : D → Option (List D)
  | .str z => some (z.map fun c => .str [c])
  | .scr ns => some (ns.map .int)
  | .tup xs => some xs
  | .lv xs => some xs
  | _ => none

def lenD (S : Store) : D → Option Nat
  | .dv false ks _ => some ks.length
  | .ref l => match S[l]? with
    | some (.dv _ ks _) => some ks.length
    | some (.lk (.dv _ ks _)) => some ks.length
    | _ => none
  | _ => none
/-- pairs of a key and a thing -/
def pairsOf : List D → Option (List (DK × D))
  | [] => some []
  | .tup [.int n, v] :: r => (pairsOf r).map ((.i n, v) :: ·)
  | .tup [.str c, v] :: r => (pairsOf r).map ((.s c, v) :: ·)
  | _ :: _ => none
def foldPut : List (DK × D) → List DK × List D → List DK × List D
  | [], acc => acc
  | (k, v) :: r, acc => foldPut r (dPut k v acc.1 acc.2)
/-- what list(..), sorted(..) draw -/
def drawS (S : Store) (x : D) : Option (List D) := match x with
  | .str z => if z.length ≤ line then some (z.map fun c => .str [c]) else none
  | .scr ns => some (ns.map .int)
  | x => match asSq S x with
    | some xs => some xs
    | none => match asDk S x with
      | some (_, ks, _) => some (ks.map dkD)
      | none => none
mutual
/-- how long a repr may be; 0 is none -/
def wt : D → Nat
  | .non => 4
  | .bl _ => 5
  | .int i => i.natAbs.log2 + 3
  | .str c => 10 * c.length + 2
  | .tup xs => wts xs + 3
  | .lv xs => wts xs + 3
  | _ => 0
def wts : List D → Nat
  | [] => 0
  | x :: xs => wt x + 2 + wts xs
end
/-- repr's text -/
def reprL (S : Store) (x : D) : List Nat := (py (top S x)).shown.cps.toList
def reprS (S : Store) (x : D) : Option PR :=
  if okd 12 (top S x) && PyData.showable (py (top S x)) && decide (wt (top S x) ≤ 1000000) then some (.val (.str (reprL S x))) else match asDk S x with
    | some (false, [], []) => some (.val (.str [123, 125]))
    | _ => none
def bltS : Blt → List D → Store → Option PR
  | .len, [x], S => match x with
    | .str z => if z.length ≤ line then some (.val (.int z.length)) else none
    | .scr ns => some (.val (.int ns.length))
    | x => match asSq S x with
      | some xs => some (.val (.int xs.length))
      | none => (lenD S x).map fun n => .val (.int (n : Nat))
  | .abs, [.int i], _ => some (.val (.int (if i < 0 then -i else i)))
  | .int, [.int i], _ => some (.val (.int i))
  | .int, [.bl b], _ => some (.val (.int (if b then 1 else 0)))
  | .list, [x], S => (drawS S x).map fun xs => .new (.lv xs)
  | .repr, [x], S => reprS S x
  | .tuple, [x], S => (asSq S x).map fun xs => .val (.tup xs)
  | .sum, [x], S => (asL S x).bind fun xs => (intsOf xs).map fun ns => .val (.int ns.sum)
  | .all, [x], S => (asL S x).bind fun xs => (boolsOf xs).map fun bs => .val (.bl (bs.all id))
  | .any, [x], S => (asL S x).bind fun xs => (boolsOf xs).map fun bs => .val (.bl (bs.any id))
  | .min, [x], S => match asL S x with
    | some (y :: ys) => if alikeL (y :: ys) then some (.val (minL y ys)) else none
    | _ => none
  | .max, [x], S => match asL S x with
    | some (y :: ys) => if alikeL (y :: ys) then some (.val (maxL y ys)) else none
    | _ => none
  | .max, [.int i, .int j], _ => some (.val (.int (if j > i then j else i)))
  | .min, [.int i, .int j], _ => some (.val (.int (if j < i then j else i)))
  | .sorted, [x], S => match drawS S x with
    | some xs => if alikeL xs && sortableL xs && decide (xs.length ≤ line) then some (.new (.lv (xs.mergeSort leD))) else none
    | none => none
  | .isinst, [x, .ty n], S => (isinstS S x n).map fun b => .val (.bl b)
  | .isinst, [x, .tup ts], S => (isAny S x ts).map fun b => .val (.bl b)
  | .dict, [x], S => match asL S x with
    | some xs => (pairsOf xs).map fun ps => .new (.dv false (foldPut ps ([], [])).1 (foldPut ps ([], [])).2)
    | none => match asDk S x with
      | some (false, ks, vs) => some (.new (.dv false ks vs))
      | _ => none
  | _, _, _ => none

def joinL (a : List Nat) : List (List Nat) → List Nat
  | [] => []
  | [x] => x
  | x :: r => x ++ a ++ joinL a r
/-- the pairs of a dict's keys and things -/
def itemsL : List DK → List D → List D
  | k :: ks, v :: vs => .tup [dkD k, v] :: itemsL ks vs
  | _, _ => []
def sitS (x : D) (S : Store) : Option D := match asDk S x with
  | some (false, ks, vs) => if alikeL (itemsL ks vs) && sortableL (itemsL ks vs) && decide (ks.length ≤ line) then some (.lv ((itemsL ks vs).mergeSort leD)) else none
  | _ => none
/-- a method; the store may change -/
def mthS : Mth → D → List D → Store → Option (D × Store)
  | .join, .str a, [x], S => (asSq S x).bind fun xs => (strsOf xs).bind fun ys =>
    if (ys.map (·.length)).sum + ys.length * a.length ≤ line then some (.str (joinL a ys), S) else none
  | .lindex, d, [y], S => (asL S d).bind fun xs => if okd 12 (top S y) && xs.all (okd 11) then (xs.findIdx? fun z => PyData.eqv (py z) (py (top S y))).map fun j => (.int (j : Nat), S) else none
  | .append, .ref l, [x], S => match S[l]? with
    | some (.lv xs) => if xs.length < line then some (.non, S.set l (.lv (xs ++ [x]))) else none
    | _ => none
  | .count, .str a, [.str [c]], S => some (.int (a.count c : Nat), S)
  | .get, d, [k, z], S => (asDk S d).bind fun q => (asKey k).bind fun kk => if kk.fits q.1 then some ((dLook kk q.2.1 q.2.2).getD z, S) else none
  | .endswith, .str a, [.str b], S => some (.bl (b.isSuffixOf a), S)
  | .extend, .ref l, [x], S => match S[l]?, asL S x with
    | some (.lv xs), some ys => if xs.length + ys.length ≤ line then some (.non, S.set l (.lv (xs ++ ys))) else none
    | _, _ => none
  | .pop, .ref l, [], S => match S[l]? with
    | some (.lv xs) => (xs[xs.length - 1]?).map fun y => (y, S.set l (.lv xs.dropLast))
    | _ => none
  | .popi, .ref l, [.int i], S => match S[l]? with
    | some (.lv xs) => if i.natAbs < 9223372036854775808 then (ixN xs.length i).bind fun k => (xs[k]?).map fun y => (y, S.set l (.lv (xs.eraseIdx k))) else none
    | _ => none
  | _, _, _, _ => none
def mthTy : Mth → String
  | .join | .count | .index | .endswith => "str"
  | .append | .extend | .pop | .popi | .lindex => "list"
  | .get | .get1 | .update | .items => "dict"
def setS (x i v : D) (S : Store) : Option Store :=
  match x with
  | .ref l => match S[l]? with
    | some (.lv xs) => match i with
      | .int j => (ixN xs.length j).map fun n => S.set l (.lv (xs.set n v))
      | _ => none
    | some (.dv t ks vs) => match asKey i with
      | some k => if k.fits t && decide (ks.length < line) then some (S.set l (.dv t (dPut k v ks vs).1 (dPut k v ks vs).2)) else none
      | none => none
    | _ => none
  | _ => none

/-! ### the evaluator -/
inductive W where
  | fix (xs : List D)
  | dyn (l : Nat)
inductive Fl where
  | nx (ρ : Env)
  | rt (d : D)
  | bk (ρ : Env)
  | ct (ρ : Env)
def setAll : Env → List Nat → List D → Option Env
  | ρ, [], [] => some ρ
  | ρ, i :: is, d :: ds => setAll (ρ.set i (some d)) is ds
  | _, _, _ => none
def bindTg : Tg → D → Env → Option Env
  | .nm i, d, ρ => some (ρ.set i (some d))
  | .tp is, .tup ds, ρ => setAll ρ is ds
  | .tp _, _, _ => none
def wipeE (ρ : Env) : List Nat → Env
  | [] => ρ
  | v :: vs => (wipeE ρ vs).set v none
def runFix {α : Type} (f : D → Store → Option (Option α × Store)) : List D → Store → Option (List α × Store)
  | [], S => some ([], S)
  | d :: ds, S => (f d S).bind fun r => (runFix f ds r.2).map fun q => (match r.1 with | some y => y :: q.1 | none => q.1, q.2)
def nxD (l : Nat) (i : Nat) (S : Store) : Option (Option D) := match S[l]? with
  | some (.lv xs) => some xs[i]?
  | _ => none
def runG {α : Type} (nx : Nat → Store → Option (Option D)) (f : D → Store → Option (Option α × Store)) : Nat → Nat → Store → Option (List α × Store)
  | 0, _, _ => none
  | n + 1, i, S => match nx i S with
    | none => none
    | some none => some ([], S)
    | some (some d) => (f d S).bind fun r => (runG nx f n (i + 1) r.2).map fun q => (match r.1 with | some y => y :: q.1 | none => q.1, q.2)
def runW {α : Type} (fu : Nat) (f : D → Store → Option (Option α × Store)) : W → Store → Option (List α × Store)
  | .fix xs, S => runFix f xs S
  | .dyn l, S => runG (nxD l) f fu 0 S
def forFix (g : Tg) (b : Env → Store → Option (Fl × Store)) : List D → Env → Store → Option (Fl × Store)
  | [], ρ, S => some (.nx ρ, S)
  | d :: ds, ρ, S => (bindTg g d ρ).bind fun ρ1 => (b ρ1 S).bind fun r => match r.1 with
    | .nx ρ2 => forFix g b ds ρ2 r.2
    | .ct ρ2 => forFix g b ds ρ2 r.2
    | .bk ρ2 => some (.nx ρ2, r.2)
    | .rt d => some (.rt d, r.2)
def forG (nx : Nat → Store → Option (Option D)) (g : Tg) (b : Env → Store → Option (Fl × Store)) : Nat → Nat → Env → Store → Option (Fl × Store)
  | 0, _, _, _ => none
  | n + 1, i, ρ, S => match nx i S with
    | none => none
    | some none => some (.nx ρ, S)
    | some (some d) => (bindTg g d ρ).bind fun ρ1 => (b ρ1 S).bind fun r => match r.1 with
      | .nx ρ2 => forG nx g b n (i + 1) ρ2 r.2
      | .ct ρ2 => forG nx g b n (i + 1) ρ2 r.2
      | .bk ρ2 => some (.nx ρ2, r.2)
      | .rt d => some (.rt d, r.2)
def whileN (c : Env → Store → Option (D × Store)) (b : Env → Store → Option (Fl × Store)) : Nat → Env → Store → Option (Fl × Store)
  | 0, _, _ => none
  | n + 1, ρ, S => (c ρ S).bind fun r => match r.1 with
    | .bl true => (b ρ r.2).bind fun q => match q.1 with
      | .nx ρ2 => whileN c b n ρ2 q.2
      | .ct ρ2 => whileN c b n ρ2 q.2
      | .bk ρ2 => some (.nx ρ2, q.2)
      | .rt d => some (.rt d, q.2)
    | .bl false => some (.nx ρ, r.2)
    | _ => none
def one? : List D → Option (Option D)
  | [] => some none
  | [d] => some (some d)
  | _ => none
def walkOf (S : Store) : D → Option W
  | .ref l => match S[l]? with
    | some (.lv _) => some (.dyn l)
    | some (.lk (.dv _ ks _)) => some (.fix (ks.map dkD))
    | _ => none
  | .dv _ ks _ => some (.fix (ks.map dkD))
  | d => (walkS d).map .fix
def intL (lo : Int) (n : Nat) : List D := (List.range n).map fun i : Nat => .int (lo + (i : Int))
def rangeS : List D → Option (List D)
  | [.int j] => if j.natAbs < 4611686018427387904 then some (intL 0 j.toNat) else none
  | [.int i, .int j] => if i.natAbs < 4611686018427387904 ∧ j.natAbs < 4611686018427387904 then some (intL i (j - i).toNat) else none
  | _ => none
def enumL : Nat → List D → List D
  | _, [] => []
  | n, x :: xs => .tup [.int n, x] :: enumL (n + 1) xs
def zipL : List D → List D → List D
  | x :: xs, y :: ys => .tup [x, y] :: zipL xs ys
  | _, _ => []

section
variable (fu : Nat) (Φ : Calls)
mutual
def ev : E → Env → Store → Option (D × Store)
  | .var i, ρ, S => match ρ[i]? with
    | some (some d) => some (d, S)
    | _ => none
  | .non, _, S => some (.non, S)
  | .bl b, _, S => some (.bl b, S)
  | .int i, _, S => some (.int i, S)
  | .str c, _, S => some (.str c, S)
  | .gv _ d, _, S => some (d, S)
  | .op o a b, ρ, S => (ev a ρ S).bind fun x => (ev b ρ x.2).bind fun y => (opS o x.1 y.1 y.2).map fun r => fin false r y.2
  | .neg a, ρ, S => (ev a ρ S).bind fun x => match x.1 with
    | .int i => some (.int (-i), x.2)
    | _ => none
  | .cmp o a b, ρ, S => (ev a ρ S).bind fun x => (ev b ρ x.2).bind fun y => (cmpS o x.1 y.1 y.2).map fun r => (.bl r, y.2)
  | .chain o p a b c, ρ, S => (ev a ρ S).bind fun x => (ev b ρ x.2).bind fun y => (cmpS o x.1 y.1 y.2).bind fun r =>
    if r then (ev c ρ y.2).bind fun z => (cmpS p y.1 z.1 z.2).map fun q => (.bl q, z.2) else some (.bl false, y.2)
  | .and a b, ρ, S => (ev a ρ S).bind fun x => match x.1 with
    | .bl k => if k = true then ev b ρ x.2 else some (.bl false, x.2)
    | _ => none
  | .or a b, ρ, S => (ev a ρ S).bind fun x => match x.1 with
    | .bl k => if k = true then some (.bl true, x.2) else ev b ρ x.2
    | _ => none
  | .not a, ρ, S => (ev a ρ S).bind fun x => match x.1 with
    | .bl b => some (.bl (!b), x.2)
    | _ => none
  | .ite c a b, ρ, S => (ev c ρ S).bind fun x => match x.1 with
    | .bl k => if k = true then ev a ρ x.2 else ev b ρ x.2
    | _ => none
  | .ty n, _, S => some (.ty n, S)
  | .lrg1 k a, ρ, S => (ev a ρ S).bind fun x => (rangeS [x.1]).bind fun xs => if xs.length ≤ line then some (fin k (.new (.lv xs)) x.2) else none
  | .lrg2 k a b, ρ, S => (ev a ρ S).bind fun x => (ev b ρ x.2).bind fun y => (rangeS [x.1, y.1]).bind fun xs => if xs.length ≤ line then some (fin k (.new (.lv xs)) y.2) else none
  | .tup es, ρ, S => (evs es ρ S).bind fun x => if x.1.length ≤ line then some (.tup x.1, x.2) else none
  | .lst k es, ρ, S => (evs es ρ S).bind fun x => if x.1.length ≤ line then some (fin k (.new (.lv x.1)) x.2) else none
  | .dct k t ks vs, ρ, S => match ks, vs with
    | .nil, .nil => some (fin k (.new (.dv t [] [])) S)
    | _, _ => none
  | .sub a i, ρ, S => (ev a ρ S).bind fun x => (ev i ρ x.2).bind fun y => (itemS x.1 y.1 y.2).map fun d => (d, y.2)
  | .slc a lo hi, ρ, S => (ev a ρ S).bind fun x => (evs lo ρ x.2).bind fun l => (evs hi ρ l.2).bind fun h =>
    (one? l.1).bind fun l1 => (one? h.1).bind fun h1 => (bound? l1).bind fun l2 => (bound? h1).bind fun h2 => (slcS x.1 l2 h2 h.2).map fun r => fin false r h.2
  | .rev a, ρ, S => (ev a ρ S).bind fun x => (revS x.1 x.2).map fun r => fin false r x.2
  | .call f es, ρ, S => (evs es ρ S).bind fun x => Φ f x.1 x.2
  | .blt b k es, ρ, S => (evs es ρ S).bind fun x => (bltS b x.1 x.2).map fun r => fin k r x.2
  | .mth m a es, ρ, S => (ev a ρ S).bind fun x => if tyOf x.2 x.1 = some (mthTy m) then (evs es ρ x.2).bind fun y => mthS m x.1 y.1 y.2 else none
  | .lc k elt g vs it c, ρ, S => (evI it ρ S).bind fun w =>
    (runW fu (fun d S1 => (bindTg g d (wipeE ρ vs)).bind fun ρ1 => (evT c ρ1 S1).bind fun t =>
      if t.1 then (ev elt ρ1 t.2).map fun y => (some y.1, y.2) else some (none, t.2)) w.1 w.2).bind fun r =>
    if r.1.length ≤ line then some (fin k (.new (.lv r.1)) r.2) else none
  | .lcD elt g vs i c, ρ, S => match ρ[i]? with
    | some (some (.ref l)) => match S[l]? with
      | some (.dv t ks ws) => (runFix (fun d S1 => (bindTg g d (wipeE ρ vs)).bind fun ρ1 => (evT c ρ1 S1).bind fun t =>
        if t.1 then (ev elt ρ1 t.2).map fun y => (some y.1, y.2) else some (none, t.2)) (ks.map dkD) (S.set l (.lk (.dv t ks ws)))).bind fun r =>
        if r.1.length ≤ line then some (.lv r.1, r.2.set l (.dv t ks ws)) else none
      | _ => none
    | _ => none
  | .dc k key val g vs it c, ρ, S => (evI it ρ S).bind fun w =>
    (runW fu (fun d S1 => (bindTg g d (wipeE ρ vs)).bind fun ρ1 => (evT c ρ1 S1).bind fun t =>
      if t.1 then (ev key ρ1 t.2).bind fun y => (ev val ρ1 y.2).bind fun z => (asFlat y.1).map fun q => (some (q, z.1), z.2) else some (none, t.2)) w.1 w.2).bind fun r =>
    if r.1.length ≤ line then some (fin k (.new (.dv false (foldPut r.1 ([], [])).1 (foldPut r.1 ([], [])).2)) r.2) else none
  | .dsp k ps, ρ, S => (evP ps ρ S).bind fun r => if decide (r.1.length ≤ 15) && !r.1.isEmpty then some (fin k (.new (.dv false (foldPut r.1 ([], [])).1 (foldPut r.1 ([], [])).2)) r.2) else none
  | .sit a, ρ, S => (ev a ρ S).bind fun x => (sitS x.1 x.2).map fun d => (d, x.2)
  | .lc2 elt g vs it c g1 vs1 it1 c1, ρ, S => (evI it ρ S).bind fun w =>
    (runW fu (fun d S1 => (bindTg g d (wipeE ρ vs)).bind fun ρ1 => (evT c ρ1 S1).bind fun t =>
      if t.1 then (evI it1 ρ1 t.2).bind fun w1 => (runW fu (fun d S2 => (bindTg g1 d (wipeE ρ1 vs1)).bind fun ρ2 => (evT c1 ρ2 S2).bind fun t =>
        if t.1 then (ev elt ρ2 t.2).map fun y => (some y.1, y.2) else some (none, t.2)) w1.1 w1.2).map fun r => (some r.1, r.2) else some (none, t.2)) w.1 w.2).bind fun r =>
    if r.1.flatten.length ≤ line then some (.lv r.1.flatten, r.2) else none
/-- pairs of a dict, written -/
def evP : Es → Env → Store → Option (List (DK × D) × Store)
  | .nil, _, S => some ([], S)
  | .cons k es, ρ, S => match es with
    | .cons v r => (ev k ρ S).bind fun x => (ev v ρ x.2).bind fun y => (asFlat x.1).bind fun q => (evP r ρ y.2).map fun z => ((q, y.1) :: z.1, z.2)
    | .nil => none
def evs : Es → Env → Store → Option (List D × Store)
  | .nil, _, S => some ([], S)
  | .cons e es, ρ, S => (ev e ρ S).bind fun x => (evs es ρ x.2).map fun y => (x.1 :: y.1, y.2)
/-- a comprehension's tests -/
def evT : Es → Env → Store → Option (Bool × Store)
  | .nil, _, S => some (true, S)
  | .cons e _, ρ, S => (ev e ρ S).bind fun x => match x.1 with
    | .bl b => some (b, x.2)
    | _ => none
def evI : It → Env → Store → Option (W × Store)
  | .of e, ρ, S => (ev e ρ S).bind fun x => (walkOf x.2 x.1).map fun w => (w, x.2)
  | .range es, ρ, S => (evs es ρ S).bind fun x => (rangeS x.1).map fun xs => (.fix xs, x.2)
  | .enum e, ρ, S => (ev e ρ S).bind fun x => (walkS x.1).map fun xs => (.fix (enumL 0 xs), x.2)
  | .zip a b, ρ, S => (ev a ρ S).bind fun x => (ev b ρ x.2).bind fun y => (walkS x.1).bind fun xs => (walkS y.1).map fun ys => (.fix (zipL xs ys), y.2)
end
def augOk : Op2 → D → Bool
  | .add, .int _ => true
  | .add, .str _ => true
  | .sub, .int _ => true
  | _, _ => false
def run : T → Env → Store → Option (Fl × Store)
  | .skip, ρ, S => some (.nx ρ, S)
  | .never, _, _ => none
  | .seq a b, ρ, S => (run a ρ S).bind fun r => match r.1 with
    | .nx ρ1 => run b ρ1 r.2
    | f => some (f, r.2)
  | .ex e, ρ, S => (ev fu Φ e ρ S).map fun x => (.nx ρ, x.2)
  | .set i e, ρ, S => (ev fu Φ e ρ S).map fun x => (.nx (ρ.set i (some x.1)), x.2)
  | .tset is e, ρ, S => (ev fu Φ e ρ S).bind fun x => (bindTg (.tp is) x.1 ρ).map fun ρ1 => (.nx ρ1, x.2)
  | .par is es, ρ, S => (evs fu Φ es ρ S).bind fun x => (setAll ρ is x.1).map fun ρ1 => (.nx ρ1, x.2)
  | .setI o i e, ρ, S => (ev fu Φ e ρ S).bind fun v => (ev fu Φ o ρ v.2).bind fun x => (ev fu Φ i ρ x.2).bind fun y => (setS x.1 y.1 v.1 y.2).map fun S1 => (.nx ρ, S1)
  | .aug i o e, ρ, S => match ρ[i]? with
    | some (some x) => if augOk o x then (ev fu Φ e ρ S).bind fun y => match opS o x y.1 y.2 with
      | some (.val d) => some (.nx (ρ.set i (some d)), y.2)
      | _ => none
      else none
    | _ => none
  | .ret e, ρ, S => (ev fu Φ e ρ S).map fun x => (.rt x.1, x.2)
  | .retn, _, S => some (.rt .non, S)
  | .ite c a b, ρ, S => (ev fu Φ c ρ S).bind fun x => match x.1 with
    | .bl k => if k = true then run a ρ x.2 else run b ρ x.2
    | _ => none
  | .whl c b, ρ, S => whileN (ev fu Φ c) (run b) fu ρ S
  | .loop g it b, ρ, S => (evI fu Φ it ρ S).bind fun w => match w.1 with
    | .fix xs => forFix g (run b) xs ρ w.2
    | .dyn l => forG (nxD l) g (run b) fu 0 ρ w.2
  | .loopD g i b, ρ, S => match ρ[i]? with
    | some (some (.ref l)) => match S[l]? with
      | some (.dv t ks ws) => (forFix g (run b) (ks.map dkD) ρ (S.set l (.lk (.dv t ks ws)))).map fun r => (r.1, r.2.set l (.dv t ks ws))
      | _ => none
    | _ => none
  | .brk, ρ, S => some (.bk ρ, S)
  | .cont, ρ, S => some (.ct ρ, S)
end

/-! ### defs -/
mutual
/-- all places are below b -/
def clo (b : Nat) : D → Bool
  | .tup xs => cloL b xs
  | .lv xs => cloL b xs
  | .dv _ _ vs => cloL b vs
  | .ref l => decide (l < b)
  | .lk d => clo b d
  | .non | .bl _ | .int _ | .str _ | .ty _ | .scr _ => true
def cloL (b : Nat) : List D → Bool
  | [] => true
  | x :: xs => clo b x && cloL b xs
end
mutual
/-- places from b on are read for good -/
def shutD (b : Nat) (k : Nat → Option D) : D → Option D
  | .tup xs => (shutL b k xs).map .tup
  | .lv xs => (shutL b k xs).map .lv
  | .dv t ks vs => (shutL b k vs).map (.dv t ks)
  | .ref l => if l < b then some (.ref l) else k l
  | .lk _ => none
  | .non => some .non
  | .bl x => some (.bl x)
  | .int x => some (.int x)
  | .str x => some (.str x)
  | .ty x => some (.ty x)
  | .scr x => some (.scr x)
def shutL (b : Nat) (k : Nat → Option D) : List D → Option (List D)
  | [] => some []
  | x :: xs => (shutD b k x).bind fun y => (shutL b k xs).map (y :: ·)
end
def kN (b : Nat) (S : Store) : Nat → Nat → Option D
  | 0, _ => none
  | n + 1, l => (S[l]?).bind (shutD b (kN b S n))
def shutN (b : Nat) (S : Store) (n : Nat) : D → Option D := shutD b (kN b S n)
/-- what stood before stands as it was, or holds nothing new -/
def kept (b : Nat) : Store → Store → Bool
  | [], _ => true
  | c :: S, c' :: S' => (D.eqb c' c || clo b c') && kept b S S'
  | _ :: _, [] => false
structure Fn where
  nm : Str
  ps : List Str
  N : List Str
  body : T
  own : Bool
def startE (n : Nat) (ds : List D) : Env := ds.map some ++ List.replicate (n - ds.length) none
def fin1 : Fl → Option D
  | .rt d => some d
  | .nx _ => some .non
  | _ => none
/-- a def's end: what it made is dropped, but for what it gives -/
def endC (own : Bool) (S : Store) (r : Fl × Store) : Option (D × Store) := (fin1 r.1).bind fun d =>
  if own then some (d, r.2) else if kept S.length S r.2 then (shutN S.length r.2 4 d).map fun e => (e, r.2.take S.length) else none
def callN (fu : Nat) (P : List Fn) : Nat → Calls
  | 0 => fun _ _ _ => none
  | n + 1 => fun f ds S => match P.find? (fun g => g.nm == f) with
    | none => none
    | some g => if ds.length = g.ps.length then (run fu (callN fu P n) g.body (startE g.N.length ds) S).bind (endC g.own S) else none
end Pd

/-! Pd2: how data lie in the heap. -/
namespace Pd
open PySem PySem.Spec PyProof.Rows L2

abbrev sOf (c : List Nat) : Str := ⟨c.toArray⟩
def keyS : Int ⊕ List Nat → Key
  | .inl n => .inl n
  | .inr c => .inr (sOf c)
def okS (c : List Nat) : Prop := ∀ x ∈ c, x < 0x110000
def okK : Int ⊕ List Nat → Prop
  | .inl _ => True
  | .inr c => okS c

inductive KK : List DK → List Key → Prop
  | nil : KK [] []
  | i {n : Int} {ks : List DK} {js : List Key} : KK ks js → KK (.i n :: ks) (.inl n :: js)
  | s {c : List Nat} {ks : List DK} {js : List Key} : okS c → KK ks js → KK (.s c :: ks) (.inr (sOf c) :: js)
inductive KT : List DK → List (List Key) → Prop
  | nil : KT [] []
  | t {l : List (Int ⊕ List Nat)} {ks : List DK} {js : List (List Key)} : (∀ x ∈ l, okK x) → KT ks js → KT (.t l :: ks) (l.map keyS :: js)

section
variable (M : Addr → Prop) (Λ : List Addr) (H : Hp)
mutual
inductive RV : D → V → Prop
  | non : RV .non .non
  | bl (b : Bool) : RV (.bl b) (.bl b)
  | int (i : Int) : RV (.int i) (.int i)
  | str {c : List Nat} : okS c → RV (.str c) (.str (sOf c))
  | ty (n : String) : RV (.ty n) (.ty n)
  | tup {a : Addr} {xs : List D} {vs : List V} : H a = some (.tup vs) → RVs xs vs → RV (.tup xs) (.ref a)
  | lst {a : Addr} {xs : List D} {vs : List V} : H a = some (.lst vs) → a ∉ Λ → ¬ M a → RVs xs vs → RV (.lv xs) (.ref a)
  | dct {a : Addr} {o : Obj} {t : Bool} {ks : List DK} {ds : List D} {ho : HO} : H a = some (.frz o ho) → a ∉ Λ → ¬ M a → RO (.dv t ks ds) ho → RV (.dv t ks ds) (.ref a)
  | ref {l : Nat} {a : Addr} : Λ[l]? = some a → RV (.ref l) (.ref a)
  | scr {a : Addr} {o : Obj} {ns : List Int} : H a = some (.frz o (.lst (ns.map V.int))) → a ∉ Λ → RV (.scr ns) (.ref a)
inductive RVs : List D → List V → Prop
  | nil : RVs [] []
  | cons {d : D} {v : V} {ds : List D} {vs : List V} : RV d v → RVs ds vs → RVs (d :: ds) (v :: vs)
inductive RO : D → HO → Prop
  | lst {xs : List D} {vs : List V} : RVs xs vs → RO (.lv xs) (.lst vs)
  | dK {ks : List DK} {ds : List D} {kvs : List (Key × V)} : KK ks (kvs.map (·.1)) → RVs ds (kvs.map (·.2)) → RO (.dv false ks ds) (.dK kvs)
  | dT {ks : List DK} {ds : List D} {kvs : List (List Key × V)} : KT ks (kvs.map (·.1)) → RVs ds (kvs.map (·.2)) → RO (.dv true ks ds) (.dT kvs)
  | lk {t : Bool} {ks : List DK} {ds : List D} {o : Obj} {ho : HO} : RO (.dv t ks ds) ho → RO (.lk (.dv t ks ds)) (.frz o ho)
end
end

def isMut : HO → Prop
  | .lst _ | .dK _ | .dT _ => True
  | _ => False
def isFrz : HO → Prop
  | .frz _ _ => True
  | _ => False
/-- the store lies in the heap -/
structure RelS (M : Addr → Prop) (Λ : List Addr) (S : Store) (H : Hp) : Prop where
  len : S.length = Λ.length
  nd : Λ.Nodup
  nm : ∀ a ∈ Λ, ¬ M a
  mt : ∀ a, M a → ∃ o, H a = some o
  st : ∀ (l : Nat) (c : D) (a : Addr), S[l]? = some c → Λ[l]? = some a → ∃ ho, H a = some ho ∧ RO M Λ H c ho
def RelE (M : Addr → Prop) (Λ : List Addr) (H : Hp) (ρ : Env) (σ : L2.St) : Prop :=
  ρ.length = σ.length ∧ ∀ (i : Nat) (d : D), ρ[i]? = some (some d) → ∃ v, σ[i]? = some (some v) ∧ RV M Λ H d v
/-- what changed: the changeable objects alone; new ones came -/
structure Step (Λ : List Addr) (H : Hp) (Λ' : List Addr) (H' : Hp) : Prop where
  ext : ∃ n, Λ' = Λ ++ n ∧ ∀ a ∈ n, H a = none
  keep : ∀ a o, H a = some o → a ∉ Λ → H' a = some o
  there : ∀ a o, H a = some o → ∃ o', H' a = some o'
  frz : ∀ a o u, H a = some (.frz o u) → H' a = some (.frz o u)

section
variable {K : PySem.W.Frag} {M : Addr → Prop} {Λ Λ' Λ1 Λ2 : List Addr} {H H' H1 H2 : Hp} {S : Store} {ρ : Env} {σ : L2.St} {d : D} {v : V}
theorem RO.dvMut {t : Bool} {ks : List DK} {ds : List D} {ho : HO} (h : RO M Λ H (.dv t ks ds) ho) : isMut ho := by cases h <;> trivial
theorem RO.isMut {ho : HO} (h : RO M Λ H d ho) : isMut ho ∨ ∃ o u, ho = .frz o u ∧ Pd.isMut u := by
  cases h with
  | lk r => exact .inr ⟨_, _, rfl, r.dvMut⟩
  | _ => exact .inl trivial
theorem Step.refl : Step Λ H Λ H := ⟨⟨[], by simp, fun _ h => by cases h⟩, fun _ _ h _ => h, fun _ o h => ⟨o, h⟩, fun _ _ _ h => h⟩
theorem Step.same (h : Same H H') : Step Λ H Λ H' := ⟨⟨[], by simp, fun _ h => by cases h⟩, fun a o e _ => h a o e, fun a o e => ⟨o, h a o e⟩, fun a o u e => h a _ e⟩
theorem Step.notin (s : Step Λ H Λ' H') {a : Addr} {o : HO} (e : H a = some o) (h : a ∉ Λ) : a ∉ Λ' := by
  obtain ⟨n, rfl, hn⟩ := s.ext
  intro hm
  rcases List.mem_append.mp hm with z | z
  · exact h z
  · have := hn a z; rw [e] at this; cases this
theorem Step.trans (s : Step Λ H Λ1 H1) (t : Step Λ1 H1 Λ2 H2) : Step Λ H Λ2 H2 := by
  refine ⟨?_, fun a o e h => t.keep a o (s.keep a o e h) (s.notin e h), fun a o e => ?_, fun a o u e => t.frz a o u (s.frz a o u e)⟩
  · obtain ⟨n, rfl, hn⟩ := s.ext
    obtain ⟨m, rfl, hm⟩ := t.ext
    refine ⟨n ++ m, by simp, fun a ha => ?_⟩
    rcases List.mem_append.mp ha with z | z
    · exact hn a z
    · cases q : H a with
      | none => rfl
      | some o =>
        have q1 := hm a z
        obtain ⟨o', e⟩ := s.there a o q
        rw [e] at q1; cases q1
  · obtain ⟨o', e'⟩ := s.there a o e
    exact t.there a o' e'
theorem RelS.addr (R : RelS M Λ S H) {a : Addr} (h : a ∈ Λ) : ∃ (l : Nat) (c : D) (ho : HO), S[l]? = some c ∧ Λ[l]? = some a ∧ H a = some ho ∧ RO M Λ H c ho := by
  obtain ⟨l, hl, e⟩ := List.getElem_of_mem h
  have h1 : Λ[l]? = some a := by rw [List.getElem?_eq_getElem hl, e]
  have h2 : l < S.length := by rw [R.len]; exact hl
  obtain ⟨ho, e1, e2⟩ := R.st l S[l] a (List.getElem?_eq_getElem h2) h1
  exact ⟨l, S[l], ho, List.getElem?_eq_getElem h2, h1, e1, e2⟩
theorem RelS.tup_out (R : RelS M Λ S H) {a : Addr} {u : HO} (h : Rd H a u) (hn : ¬ isMut u) (hf : ¬ isFrz u) : a ∉ Λ := by
  intro hm
  obtain ⟨l, c, ho, _, _, e, r⟩ := R.addr hm
  rcases h with h | ⟨o, h⟩
  · rw [h] at e; cases e
    rcases r.isMut with z | ⟨o, u, rfl, _⟩
    · exact hn z
    · exact hf trivial
  · rw [h] at e; cases e
    rcases r.isMut with z | ⟨o, u, e, z⟩
    · exact z
    · cases e; exact hn z
theorem Step.tup (R : RelS M Λ S H) (s : Step Λ H Λ' H') {a : Addr} {vs : List V} (h : H a = some (.tup vs)) : H' a = some (.tup vs) :=
  s.keep _ _ h (R.tup_out (.inl h) (by intro z; exact z) (by intro z; exact z))
theorem ext_get (s : Step Λ H Λ' H') {l : Nat} {a : Addr} (h : Λ[l]? = some a) : Λ'[l]? = some a := by
  obtain ⟨n, rfl, _⟩ := s.ext
  rw [List.getElem?_append_left (List.getElem?_eq_some_iff.mp h).1]
  exact h
mutual
theorem RV.step (R : RelS M Λ S H) (s : Step Λ H Λ' H') : ∀ {d : D} {v : V}, RV M Λ H d v → RV M Λ' H' d v
  | _, _, .non => .non
  | _, _, .bl b => .bl b
  | _, _, .int i => .int i
  | _, _, .str h => .str h
  | _, _, .ty n => .ty n
  | _, _, .tup h r => .tup (s.tup R h) (RVs.step R s r)
  | _, _, .lst e h m r => .lst (s.keep _ _ e h) (s.notin e h) m (RVs.step R s r)
  | _, _, .dct e h m r => .dct (s.keep _ _ e h) (s.notin e h) m (RO.step R s r)
  | _, _, .ref h => .ref (ext_get s h)
  | _, _, .scr e h => .scr (s.keep _ _ e h) (s.notin e h)
theorem RVs.step (R : RelS M Λ S H) (s : Step Λ H Λ' H') : ∀ {ds : List D} {vs : List V}, RVs M Λ H ds vs → RVs M Λ' H' ds vs
  | _, _, .nil => .nil
  | _, _, .cons h r => .cons (RV.step R s h) (RVs.step R s r)
theorem RO.step (R : RelS M Λ S H) (s : Step Λ H Λ' H') : ∀ {d : D} {ho : HO}, RO M Λ H d ho → RO M Λ' H' d ho
  | _, _, .lst r => .lst (RVs.step R s r)
  | _, _, .dK k r => .dK k (RVs.step R s r)
  | _, _, .dT k r => .dT k (RVs.step R s r)
  | _, _, .lk r => .lk (RO.step R s r)
end
theorem RelE.step (R : RelS M Λ S H) (s : Step Λ H Λ' H') (h : RelE M Λ H ρ σ) : RelE M Λ' H' ρ σ :=
  ⟨h.1, fun i d e => let ⟨v, e1, r⟩ := h.2 i d e; ⟨v, e1, r.step R s⟩⟩
theorem RelS.same (R : RelS M Λ S H) (s : Same H H') : RelS M Λ S H' :=
  ⟨R.len, R.nd, R.nm, fun a h => let ⟨o, e⟩ := R.mt a h; ⟨o, s a o e⟩, fun l c a e1 e2 => let ⟨ho, e3, r⟩ := R.st l c a e1 e2; ⟨ho, s a ho e3, r.step R (Step.same s)⟩⟩
theorem same_upd {H : Hp} {p : Addr} {o : HO} (h : H p = none) : Same H (upd H p o) := fun b x e => by
  rw [upd_ne (ne_of_none e h)]
  exact e
theorem RelS.fresh (R : RelS M Λ S H) {a : Addr} (hn : H a = none) : a ∉ Λ ∧ ¬ M a := by
  refine ⟨fun hm => ?_, fun hm => ?_⟩
  · obtain ⟨_, _, _, _, _, e, _⟩ := R.addr hm
    rw [hn] at e; cases e
  · obtain ⟨_, e⟩ := R.mt a hm
    rw [hn] at e; cases e
theorem upd_out {a b : Addr} {u o : HO} (hm : a ∈ Λ) (hb : b ∉ Λ) (e : H b = some o) : upd H a u b = some o := by
  have hz : b ≠ a := fun z => hb (by rw [z]; exact hm)
  rw [upd_ne hz]; exact e
mutual
theorem RV.oat {a : Addr} (R : RelS M Λ S H) (hm : a ∈ Λ) (u : HO) : ∀ {d : D} {v : V}, RV M Λ H d v → RV M Λ (upd H a u) d v
  | _, _, .non => .non
  | _, _, .bl b => .bl b
  | _, _, .int i => .int i
  | _, _, .str h => .str h
  | _, _, .ty n => .ty n
  | _, _, .tup h r => .tup (upd_out hm (R.tup_out (.inl h) (by intro z; exact z) (by intro z; exact z)) h) (RVs.oat R hm u r)
  | _, _, .lst e h m r => .lst (upd_out hm h e) h m (RVs.oat R hm u r)
  | _, _, .dct e h m r => .dct (upd_out hm h e) h m (RO.oat R hm u r)
  | _, _, .ref h => .ref h
  | _, _, .scr e h => .scr (upd_out hm h e) h
theorem RVs.oat {a : Addr} (R : RelS M Λ S H) (hm : a ∈ Λ) (u : HO) : ∀ {ds : List D} {vs : List V}, RVs M Λ H ds vs → RVs M Λ (upd H a u) ds vs
  | _, _, .nil => .nil
  | _, _, .cons h r => .cons (RV.oat R hm u h) (RVs.oat R hm u r)
theorem RO.oat {a : Addr} (R : RelS M Λ S H) (hm : a ∈ Λ) (u : HO) : ∀ {d : D} {ho : HO}, RO M Λ H d ho → RO M Λ (upd H a u) d ho
  | _, _, .lst r => .lst (RVs.oat R hm u r)
  | _, _, .dK k r => .dK k (RVs.oat R hm u r)
  | _, _, .dT k r => .dT k (RVs.oat R hm u r)
  | _, _, .lk r => .lk (RO.oat R hm u r)
end
theorem RelE.oat {a : Addr} {u : HO} (R : RelS M Λ S H) (hm : a ∈ Λ) (h : RelE M Λ H ρ σ) : RelE M Λ (upd H a u) ρ σ :=
  ⟨h.1, fun i d e => let ⟨v, e1, r⟩ := h.2 i d e; ⟨v, e1, r.oat R hm u⟩⟩
/-- a place is written whatever stood there -/
theorem RelS.put (R : RelS M Λ S H) {l : Nat} {a : Addr} {u : HO} {c : D} (e : Λ[l]? = some a) (r : RO M Λ H c u) : RelS M Λ (S.set l c) (upd H a u) := by
  have hm : a ∈ Λ := List.mem_of_getElem? e
  refine ⟨by simp [R.len], R.nd, R.nm, fun b h => ?_, fun j c' b e1 e2 => ?_⟩
  · obtain ⟨o, q⟩ := R.mt b h
    by_cases z : b = a
    · subst z; exact ⟨u, upd_same⟩
    · exact ⟨o, by rw [upd_ne z]; exact q⟩
  · by_cases hj : j = l
    · subst hj
      rw [e] at e2; cases e2
      have hlt : j < S.length := by rw [R.len]; exact (List.getElem?_eq_some_iff.mp e).1
      rw [List.getElem?_set_self hlt] at e1
      cases e1
      exact ⟨u, upd_same, r.oat R hm u⟩
    · rw [List.getElem?_set_ne (Ne.symm hj)] at e1
      obtain ⟨ho, e3, r'⟩ := R.st j c' b e1 e2
      have hba : b ≠ a := fun z => by
        subst z
        obtain ⟨h1, e1'⟩ := List.getElem?_eq_some_iff.mp e
        obtain ⟨h2, e2'⟩ := List.getElem?_eq_some_iff.mp e2
        exact hj ((List.getElem_inj R.nd).mp (e2'.trans e1'.symm))
      exact ⟨ho, by rw [upd_ne hba]; exact e3, r'.oat R hm u⟩
/-- locked, walked, unlocked -/
theorem unlock {S1 : Store} {Λ1 : List Addr} {H1 : Hp} {l : Nat} {a : Addr} {ho : HO} {od : Obj} {c : D} (R : RelS M Λ S H) (e : Λ[l]? = some a) (ea : H a = some ho) (r : RO M Λ H c ho) (hz : isMut ho)
    (s : Step Λ (upd H a (.frz od ho)) Λ1 H1) (R1 : RelS M Λ1 S1 H1) : RelS M Λ1 (S1.set l c) (upd H1 a ho) ∧ Step Λ H Λ1 (upd H1 a ho) ∧ a ∈ Λ1 := by
  have hm : a ∈ Λ := List.mem_of_getElem? e
  have nz : ∀ o u, H a ≠ some (.frz o u) := fun o u z => by rw [ea] at z; cases z; exact hz
  have st0 : Step Λ H Λ (upd H a (.frz od ho)) := by
    refine ⟨⟨[], by simp, fun _ h => by cases h⟩, fun b o q hb => ?_, fun b o q => ?_, fun b o u q => ?_⟩
    · exact upd_out hm hb q
    · by_cases hb : b = a
      · subst hb; exact ⟨_, upd_same⟩
      · rw [upd_ne hb]; exact ⟨o, q⟩
    · rw [upd_ne (fun z => by subst z; exact nz _ _ q)]; exact q
  have st := st0.trans s
  have e1 := ext_get s e
  have hm1 : a ∈ Λ1 := List.mem_of_getElem? e1
  have st1 : Step Λ H Λ1 (upd H1 a ho) := by
    refine ⟨st.ext, fun b o q hb => ?_, fun b o q => ?_, fun b o u q => ?_⟩
    · exact upd_out hm hb (st.keep b o q hb)
    · by_cases hb : b = a
      · subst hb; exact ⟨_, upd_same⟩
      · rw [upd_ne hb]; exact st.there b o q
    · rw [upd_ne (fun z => by subst z; exact nz _ _ q)]; exact st.frz b o u q
  exact ⟨R1.put e1 (r.step R st), st1, hm1⟩
/-- a new list that will not change -/
theorem freeze (R : RelS M Λ S H) {a : Addr} {xs : List D} {vs : List V} (hn : H a = none) (r : RVs M Λ H xs vs) : RelS M Λ S (upd H a (.lst vs)) ∧ RV M Λ (upd H a (.lst vs)) (.lv xs) (.ref a) ∧ Step Λ H Λ (upd H a (.lst vs)) := by
  have s := same_upd (o := .lst vs) hn
  exact ⟨R.same s, .lst upd_same (R.fresh hn).1 (R.fresh hn).2 (r.step R (Step.same s)), Step.same s⟩
/-- a new dict, locked for good -/
theorem freezeD (R : RelS M Λ S H) {a : Addr} {o : Obj} {ho : HO} {t : Bool} {ks : List DK} {ds : List D} (hn : H a = none) (r : RO M Λ H (.dv t ks ds) ho) :
    RelS M Λ S (upd H a (.frz o ho)) ∧ RV M Λ (upd H a (.frz o ho)) (.dv t ks ds) (.ref a) ∧ Step Λ H Λ (upd H a (.frz o ho)) := by
  have s := same_upd (o := .frz o ho) hn
  exact ⟨R.same s, .dct upd_same (R.fresh hn).1 (R.fresh hn).2 (r.step R (Step.same s)), Step.same s⟩
/-- a new object that may change -/
theorem adopt (R : RelS M Λ S H) {a : Addr} {ho : HO} {c : D} (hn : H a = none) (r : RO M Λ H c ho) : RelS M (Λ ++ [a]) (S ++ [c]) (upd H a ho) ∧ RV M (Λ ++ [a]) (upd H a ho) (.ref S.length) (.ref a) ∧ Step Λ H (Λ ++ [a]) (upd H a ho) := by
  have s := same_upd (o := ho) hn
  have st : Step Λ H (Λ ++ [a]) (upd H a ho) := ⟨⟨[a], rfl, fun b hb => by rw [List.mem_singleton.mp hb]; exact hn⟩, fun b o e _ => s b o e, fun b o e => ⟨o, s b o e⟩, fun b o u e => s b _ e⟩
  have hnL : a ∉ Λ := (R.fresh hn).1
  have hnM : ¬ M a := (R.fresh hn).2
  refine ⟨⟨by simp [R.len], ?_, fun b hb => ?_, fun b h => let ⟨o, e⟩ := R.mt b h; ⟨o, s b o e⟩, fun l c' b e1 e2 => ?_⟩, .ref ?_, st⟩
  · rw [List.nodup_append]
    refine ⟨R.nd, by simp, fun x hx y hy e => ?_⟩
    rw [List.mem_singleton.mp hy] at e
    exact hnL (e ▸ hx)
  · rcases List.mem_append.mp hb with z | z
    · exact R.nm b z
    · rw [List.mem_singleton.mp z]; exact hnM
  · by_cases hl : l < S.length
    · rw [List.getElem?_append_left hl] at e1
      rw [List.getElem?_append_left (by rw [← R.len]; exact hl)] at e2
      obtain ⟨ho', e3, r'⟩ := R.st l c' b e1 e2
      exact ⟨ho', s b ho' e3, r'.step R st⟩
    · have hl2 : l = S.length := by
        have := (List.getElem?_eq_some_iff.mp e1).1
        simp at this
        omega
      subst hl2
      rw [List.getElem?_append_right (Nat.le_refl _)] at e1
      rw [R.len, List.getElem?_append_right (Nat.le_refl _)] at e2
      simp at e1 e2
      subst e1; subst e2
      exact ⟨ho, upd_same, r.step R st⟩
  · rw [R.len, List.getElem?_append_right (Nat.le_refl _)]
    simp
/-- a changeable object is changed -/
theorem write (R : RelS M Λ S H) {l : Nat} {a : Addr} {ho' : HO} {c' : D} (e : Λ[l]? = some a) (r : RO M Λ H c' ho') (hz : ∀ o u, H a ≠ some (.frz o u)) : RelS M Λ (S.set l c') (upd H a ho') ∧ Step Λ H Λ (upd H a ho') := by
  have hm : a ∈ Λ := List.mem_of_getElem? e
  have st : Step Λ H Λ (upd H a ho') := by
    refine ⟨⟨[], by simp, fun _ h => by cases h⟩, fun b o q hb => ?_, fun b o q => ?_, fun b o u q => ?_⟩
    · have hz : b ≠ a := fun z => hb (by rw [z]; exact hm)
      rw [upd_ne hz]; exact q
    · by_cases hb : b = a
      · subst hb; exact ⟨_, upd_same⟩
      · rw [upd_ne hb]; exact ⟨o, q⟩
    · have hb : b ≠ a := fun z => by subst z; exact hz _ _ q
      rw [upd_ne hb]; exact q
  refine ⟨⟨by simp [R.len], R.nd, R.nm, fun b h => ?_, fun j c b e1 e2 => ?_⟩, st⟩
  · obtain ⟨o, q⟩ := R.mt b h
    exact st.there b o q
  · by_cases hj : j = l
    · subst hj
      rw [e] at e2; cases e2
      have hlt : j < S.length := by rw [R.len]; exact (List.getElem?_eq_some_iff.mp e).1
      rw [List.getElem?_set_self hlt] at e1
      cases e1
      exact ⟨ho', upd_same, r.step R st⟩
    · rw [List.getElem?_set_ne (Ne.symm hj)] at e1
      obtain ⟨ho, e3, r'⟩ := R.st j c b e1 e2
      have hba : b ≠ a := fun z => by
        subst z
        obtain ⟨h1, e1'⟩ := List.getElem?_eq_some_iff.mp e
        obtain ⟨h2, e2'⟩ := List.getElem?_eq_some_iff.mp e2
        exact hj ((List.getElem_inj R.nd).mp (e2'.trans e1'.symm))
      exact ⟨ho, by rw [upd_ne hba]; exact e3, r'.step R st⟩
theorem RVs.length : ∀ {ds : List D} {vs : List V}, RVs M Λ H ds vs → ds.length = vs.length
  | _, _, .nil => rfl
  | _, _, .cons _ r => by rw [List.length_cons, List.length_cons, RVs.length r]
theorem RVs.get : ∀ {ds : List D} {vs : List V} {i : Nat} {d : D}, RVs M Λ H ds vs → ds[i]? = some d → ∃ v, vs[i]? = some v ∧ RV M Λ H d v
  | _, _, _, _, .nil, e => by simp at e
  | _, _, 0, _, .cons h _, e => by simp at e; subst e; exact ⟨_, rfl, h⟩
  | _, _, i + 1, _, .cons _ r, e => by simpa using RVs.get (i := i) r (by simpa using e)
theorem RVs.append : ∀ {ds es : List D} {vs ws : List V}, RVs M Λ H ds vs → RVs M Λ H es ws → RVs M Λ H (ds ++ es) (vs ++ ws)
  | _, _, _, _, .nil, r => r
  | _, _, _, _, .cons h t, r => .cons h (RVs.append t r)
theorem RVs.take : ∀ (n : Nat) {ds : List D} {vs : List V}, RVs M Λ H ds vs → RVs M Λ H (ds.take n) (vs.take n)
  | 0, _, _, _ => .nil
  | _ + 1, _, _, .nil => .nil
  | n + 1, _, _, .cons h t => .cons h (RVs.take n t)
theorem RVs.drop : ∀ (n : Nat) {ds : List D} {vs : List V}, RVs M Λ H ds vs → RVs M Λ H (ds.drop n) (vs.drop n)
  | 0, _, _, h => h
  | _ + 1, _, _, .nil => .nil
  | n + 1, _, _, .cons _ t => RVs.drop n t
theorem RVs.set {d : D} {v : V} (h : RV M Λ H d v) : ∀ (n : Nat) {ds : List D} {vs : List V}, RVs M Λ H ds vs → RVs M Λ H (ds.set n d) (vs.set n v)
  | _, _, _, .nil => .nil
  | 0, _, _, .cons _ t => .cons h t
  | n + 1, _, _, .cons g t => .cons g (RVs.set h n t)
theorem RVs.reverse : ∀ {ds : List D} {vs : List V}, RVs M Λ H ds vs → RVs M Λ H ds.reverse vs.reverse
  | _, _, .nil => .nil
  | _, _, .cons h t => by
    rw [List.reverse_cons, List.reverse_cons]
    exact (RVs.reverse t).append (.cons h .nil)
theorem RVs.rep {ds : List D} {vs : List V} (r : RVs M Λ H ds vs) : ∀ n : Nat, RVs M Λ H (List.replicate n ds).flatten (List.replicate n vs).flatten
  | 0 => .nil
  | n + 1 => by
    rw [List.replicate_succ, List.replicate_succ, List.flatten_cons, List.flatten_cons]
    exact r.append (RVs.rep r n)
/-- what reads as a list -/
theorem asL_rv (R : RelS M Λ S H) (h : RV M Λ H d v) {xs : List D} (e : asL S d = some xs) : ∃ a vs, v = .ref a ∧ H a = some (.lst vs) ∧ RVs M Λ H xs vs := by
  cases h with
  | lst e1 _ _ r =>
    simp only [asL, Option.some.injEq] at e
    subst e
    exact ⟨_, _, rfl, e1, r⟩
  | @ref l a e1 =>
    simp only [asL] at e
    cases q : S[l]? with
    | none => rw [q] at e; cases e
    | some c =>
      rw [q] at e
      obtain ⟨ho, e2, r⟩ := R.st l c a q e1
      cases r with
      | lst r =>
        simp only [Option.some.injEq] at e
        subst e
        exact ⟨_, _, rfl, e2, r⟩
      | dK _ _ => simp at e
      | dT _ _ => simp at e
      | lk _ => simp at e
  | _ => simp [asL] at e
theorem asSq_rv (R : RelS M Λ S H) (h : RV M Λ H d v) {xs : List D} (e : asSq S d = some xs) : ∃ a vs, v = .ref a ∧ (H a = some (.lst vs) ∨ SqT K H a vs) ∧ RVs M Λ H xs vs := by
  cases h with
  | tup h r =>
    simp only [asSq, Option.some.injEq] at e
    subst e
    exact ⟨_, _, rfl, .inr (.of h), r⟩
  | lst e1 e2 e3 r =>
    simp only [asSq, asL, Option.some.injEq] at e
    subst e
    exact ⟨_, _, rfl, .inl e1, r⟩
  | @ref l a e1 =>
    obtain ⟨a, vs, q1, q2, q3⟩ := asL_rv R (RV.ref e1) (show asL S (.ref l) = some xs from e)
    exact ⟨a, vs, q1, .inl q2, q3⟩
  | _ => simp [asSq, asL] at e
/-- a dict as it lies -/
def DkAt (M : Addr → Prop) (Λ : List Addr) (H : Hp) (a : Addr) (t : Bool) (ks : List DK) (ds : List D) : Prop :=
  (t = false ∧ ∃ kvs, Rd H a (.dK kvs) ∧ KK ks (kvs.map (·.1)) ∧ RVs M Λ H ds (kvs.map (·.2))) ∨ (t = true ∧ ∃ kvs, Rd H a (.dT kvs) ∧ KT ks (kvs.map (·.1)) ∧ RVs M Λ H ds (kvs.map (·.2)))
theorem RO.dk {t : Bool} {ks : List DK} {ds : List D} {ho : HO} {a : Addr} (e : Rd H a ho) (r : RO M Λ H (.dv t ks ds) ho) : DkAt M Λ H a t ks ds := by
  cases r with
  | dK k r => exact .inl ⟨rfl, _, e, k, r⟩
  | dT k r => exact .inr ⟨rfl, _, e, k, r⟩
theorem asDk_rv (R : RelS M Λ S H) (h : RV M Λ H d v) {t : Bool} {ks : List DK} {ds : List D} (e : asDk S d = some (t, ks, ds)) : ∃ a, v = .ref a ∧ DkAt M Λ H a t ks ds := by
  cases h with
  | @dct a o _ _ _ ho e1 _ _ r =>
    simp only [asDk, Option.some.injEq, Prod.mk.injEq] at e
    obtain ⟨rfl, rfl, rfl⟩ := e
    exact ⟨a, rfl, RO.dk (.inr ⟨o, e1⟩) r⟩
  | @ref l a e1 =>
    simp only [asDk] at e
    cases q : S[l]? with
    | none => rw [q] at e; cases e
    | some c =>
      rw [q] at e
      obtain ⟨ho, e2, r⟩ := R.st l c a q e1
      refine ⟨a, rfl, ?_⟩
      cases r with
      | lst _ => simp at e
      | dK k r => simp only [Option.some.injEq, Prod.mk.injEq] at e; obtain ⟨rfl, rfl, rfl⟩ := e; exact RO.dk (.inl e2) (.dK k r)
      | dT k r => simp only [Option.some.injEq, Prod.mk.injEq] at e; obtain ⟨rfl, rfl, rfl⟩ := e; exact RO.dk (.inl e2) (.dT k r)
      | lk r => simp only [Option.some.injEq, Prod.mk.injEq] at e; obtain ⟨rfl, rfl, rfl⟩ := e; exact RO.dk (.inr ⟨_, e2⟩) r
  | _ => simp [asDk] at e

/-! ### as the library's data -/
theorem dps_of {n : Nat} (ih : ∀ {d : D} {v : V}, RV M Λ H d v → okd n d = true → Dp K H v (py d)) : ∀ {ds : List D} {vs : List V}, RVs M Λ H ds vs → (∀ x ∈ ds, okd n x = true) → DpAll K H vs (pys ds)
  | [], _, h, _ => by
    cases h
    rw [pys]; exact .nil
  | d :: ds, _, h, k => by
    cases h with
    | cons h r =>
      rw [pys]
      exact .cons (ih h (k _ List.mem_cons_self)) (dps_of ih r fun x hx => k x (List.mem_cons_of_mem _ hx))
theorem dp_of : ∀ (n : Nat) {d : D} {v : V}, RV M Λ H d v → okd n d = true → Dp K H v (py d)
  | 0, d, v, h, k => by
    cases h with
    | non => rw [py]; exact .non
    | bl b => rw [py]; exact .bl b
    | int i => rw [py]; exact .int i
    | str h => rw [py]; exact .str _
    | tup _ _ => simp [okd] at k
    | _ => simp [okd] at k
  | n + 1, d, v, h, k => by
    cases h with
    | non => rw [py]; exact .non
    | bl b => rw [py]; exact .bl b
    | int i => rw [py]; exact .int i
    | str h => rw [py]; exact .str _
    | tup h r => rw [py]; exact .tup (.of h) (dps_of (dp_of n) r (by simpa [okd] using k))
    | lst e _ _ r => rw [py]; exact .lst (.of e) (dps_of (dp_of n) r (by simpa [okd] using k))
    | _ => simp [okd] at k

theorem okds {n : Nat} (ih : ∀ {d : D} {v : V}, RV M Λ H d v → okd n d = true → (py d).canLay0 = true ∧ (py d).depth ≤ n) : ∀ {ds : List D} {vs : List V}, RVs M Λ H ds vs → (∀ x ∈ ds, okd n x = true) → PyData.canLayAll0 (pys ds) = true ∧ PyData.depthAll (pys ds) ≤ n
  | [], _, _, _ => by rw [pys]; exact ⟨rfl, Nat.zero_le _⟩
  | d :: ds, _, h, k => by
    cases h with
    | cons h r =>
      obtain ⟨a1, a2⟩ := ih h (k _ List.mem_cons_self)
      obtain ⟨b1, b2⟩ := okds ih r fun x hx => k x (List.mem_cons_of_mem _ hx)
      rw [pys, PyData.canLayAll0, PyData.depthAll, a1, b1]
      exact ⟨rfl, Nat.max_le.mpr ⟨a2, b2⟩⟩
theorem strOk_of {c : List Nat} (h : okS c) : PySem.PyData.strOk (sOf c) = true := by
  show Array.all c.toArray (fun x => decide (x < 0x110000)) = true
  rw [← Array.all_toList, List.all_eq_true]
  exact fun x hx => decide_eq_true (h x (by simpa using hx))
theorem okd_of : ∀ (n : Nat) {d : D} {v : V}, RV M Λ H d v → okd n d = true → (py d).canLay0 = true ∧ (py d).depth ≤ n
  | 0, d, v, h, k => by
    cases h with
    | non => rw [py]; exact ⟨rfl, Nat.le_refl _⟩
    | bl b => rw [py]; exact ⟨rfl, Nat.le_refl _⟩
    | int i => rw [py]; exact ⟨rfl, Nat.le_refl _⟩
    | str h => rw [py]; exact ⟨strOk_of h, Nat.le_refl _⟩
    | tup _ _ => simp [okd] at k
    | _ => simp [okd] at k
  | n + 1, d, v, h, k => by
    cases h with
    | non => rw [py]; exact ⟨rfl, Nat.zero_le _⟩
    | bl b => rw [py]; exact ⟨rfl, Nat.zero_le _⟩
    | int i => rw [py]; exact ⟨rfl, Nat.zero_le _⟩
    | str h => rw [py]; exact ⟨strOk_of h, Nat.zero_le _⟩
    | tup h r =>
      obtain ⟨a, b⟩ := okds (okd_of n) r (by simpa [okd] using k)
      rw [py, PyData.canLay0, PyData.depth]
      exact ⟨a, Nat.succ_le_succ b⟩
    | lst e _ _ r =>
      obtain ⟨a, b⟩ := okds (okd_of n) r (by simpa [okd] using k)
      rw [py, PyData.canLay0, PyData.depth]
      exact ⟨a, Nat.succ_le_succ b⟩
    | _ => simp [okd] at k
/-- what stands behind a place, read as data -/
theorem top_dp (R : RelS M Λ S H) (h : RV M Λ H d v) {n : Nat} (k : okd n (top S d) = true) : Dp K H v (py (top S d)) ∧ (py (top S d)).canLay0 = true ∧ (py (top S d)).depth ≤ n := by
  have go : ∀ {d : D} {v : V}, RV M Λ H d v → okd n d = true → Dp K H v (py d) ∧ (py d).canLay0 = true ∧ (py d).depth ≤ n := fun h k => ⟨dp_of n h k, okd_of n h k⟩
  cases h with
  | @ref l a e =>
    simp only [top] at k ⊢
    cases q : S[l]? with
    | none =>
      have h1 := (List.getElem?_eq_some_iff.mp e).1
      have h2 := List.getElem?_eq_none_iff.mp q
      rw [R.len] at h2
      omega
    | some c =>
      rw [q] at k
      simp only [Option.getD_some] at k ⊢
      obtain ⟨ho, e2, r⟩ := R.st l c a q e
      cases r with
      | lst r =>
        cases n with
        | zero => simp [okd] at k
        | succ n =>
          simp only [okd, List.all_eq_true] at k
          have k' := k
          obtain ⟨b1, b2⟩ := okds (okd_of n) r k'
          rw [py, PyData.canLay0, PyData.depth]
          exact ⟨.lst (.of e2) (dps_of (dp_of n) r k'), b1, Nat.succ_le_succ b2⟩
      | dK _ _ => cases n <;> simp [okd] at k
      | dT _ _ => cases n <;> simp [okd] at k
      | lk _ => cases n <;> simp [okd] at k
  | non => exact go .non k
  | bl b => exact go (.bl b) k
  | int i => exact go (.int i) k
  | str h => exact go (.str h) k
  | ty n' => exact go (.ty n') k
  | tup h r => exact go (.tup h r) k
  | lst e h m r => exact go (.lst e h m r) k
  | dct e h m r => exact go (.dct e h m r) k
  | scr e h => exact go (.scr e h) k
theorem RVs.mem : ∀ {ds : List D} {vs : List V} {d : D}, RVs M Λ H ds vs → d ∈ ds → ∃ v, v ∈ vs ∧ RV M Λ H d v
  | _, _, _, .nil, e => by cases e
  | _, _, _, .cons h t, e => by
    rcases List.mem_cons.mp e with rfl | e
    · exact ⟨_, List.mem_cons_self, h⟩
    · obtain ⟨v, a, b⟩ := RVs.mem t e
      exact ⟨v, List.mem_cons_of_mem _ a, b⟩
end
end Pd

/-! Pd3: the primitives, by the layer's rules. -/
namespace Pd
open PySem PySem.Spec PyProof.Rows L2

section
variable {K : PySem.W.Frag} {M : Addr → Prop} {Λ : List Addr} {H : Hp} {S : Store} {d : D} {v : V} {Q : VK}
def PRk (M : Addr → Prop) (Λ : List Addr) (r : PR) (H : Hp) (Q : VK) : Prop := match r with
  | .val d => ∀ v H1, Same H H1 → RV M Λ H1 d v → Q v H1
  | .new c => ∀ a H1 ho, Same H H1 → H1 a = none → RO M Λ H1 c ho → isMut ho → Q (.ref a) (upd H1 a ho)
def rP2 (f : D → D → Store → Option PR) : R2 := fun x y H Q => ∃ M Λ S d e r, RelS M Λ S H ∧ RV M Λ H d x ∧ RV M Λ H e y ∧ f d e S = some r ∧ PRk M Λ r H Q
def rPs (f : List D → Store → Option PR) : List V → Hp → VK → Prop := fun xs H Q => ∃ M Λ S ds r, RelS M Λ S H ∧ RVs M Λ H ds xs ∧ f ds S = some r ∧ PRk M Λ r H Q
theorem OpR.imp {X : Cx} {f : Value → Value → Sem Value} {r r' : R2} (h : OpR X f r) (i : ∀ x y H Q, r' x y H Q → r x y H Q) : OpR X f r' :=
  fun pins s σ H x y v u Q I r1 r2 q => h pins s σ H x y v u Q I r1 r2 (i x y H Q q)
theorem CallR.imp {X : Cx} {f : Value} {r r' : List V → Hp → VK → Prop} (h : CallR X f r) (i : ∀ xs H Q, r' xs H Q → r xs H Q) : CallR X f r' :=
  fun pins s σ H xs us Q I r1 q => h pins s σ H xs us Q I r1 (i xs H Q q)
theorem CallR.or {X : Cx} {f : Value} {r r' : List V → Hp → VK → Prop} (h : CallR X f r) (h' : CallR X f r') : CallR X f (fun xs H Q => r xs H Q ∨ r' xs H Q) :=
  fun pins s σ H xs us Q I r1 q => q.elim (h pins s σ H xs us Q I r1) (h' pins s σ H xs us Q I r1)
theorem PRk.val_same {d : D} (k : PRk M Λ (.val d) H Q) {v : V} (r : RV M Λ H d v) : Q v H := k v H (Same.refl H) r
theorem PRk.new_same {c : D} (k : PRk M Λ (.new c) H Q) {a : Addr} {ho : HO} (hn : H a = none) (r : RO M Λ H c ho) (hm : isMut ho := by trivial) : Q (.ref a) (upd H a ho) := k a H ho (Same.refl H) hn r hm
theorem PRk.tup (R : RelS M Λ S H) {ds : List D} (k : PRk M Λ (.val (.tup ds)) H Q) {vs : List V} (r : RVs M Λ H ds vs) {a : Addr} (hn : H a = none) : Q (.ref a) (upd H a (.tup vs)) :=
  k _ _ (same_upd hn) (.tup upd_same (r.step R (Step.same (same_upd hn))))
theorem len_sOf (c : List Nat) : (sOf c).length = c.length := by
  show (c.toArray).size = c.length
  simp
theorem app_sOf (a b : List Nat) : sOf a ++ sOf b = sOf (a ++ b) := by
  show (⟨a.toArray ++ b.toArray⟩ : Str) = ⟨(a ++ b).toArray⟩
  simp
theorem okS_app {a b : List Nat} (h : okS a) (k : okS b) : okS (a ++ b) := fun x hx => (List.mem_append.mp hx).elim (h x) (k x)

theorem okS_of {c : List Nat} {v : V} (h : RV M Λ H (.str c) v) : okS c ∧ v = .str (sOf c) := by
  cases h with
  | str h => exact ⟨h, rfl⟩
theorem int_of {i : Int} {v : V} (h : RV M Λ H (.int i) v) : v = .int i := by
  cases h with
  | int => rfl
theorem bl_of {i : Bool} {v : V} (h : RV M Λ H (.bl i) v) : v = .bl i := by
  cases h with
  | bl => rfl
theorem non_of {v : V} (h : RV M Λ H .non v) : v = .non := by
  cases h with
  | non => rfl
theorem ty_of {n : String} {v : V} (h : RV M Λ H (.ty n) v) : v = .ty n := by
  cases h with
  | ty => rfl
theorem tup_of {ds : List D} {v : V} (h : RV M Λ H (.tup ds) v) : ∃ a vs, v = .ref a ∧ H a = some (.tup vs) ∧ RVs M Λ H ds vs := by
  cases h with
  | tup h r => exact ⟨_, _, rfl, h, r⟩
theorem scr_of {ns : List Int} {v : V} (h : RV M Λ H (.scr ns) v) : ∃ a, v = .ref a ∧ SqL K H a (ns.map V.int) := by
  cases h with
  | scr e _ => exact ⟨_, rfl, .inl (.inr ⟨_, e⟩)⟩

/-! ### operators -/
variable {X : Cx}
theorem line_eq : line = sizeLine := by rw [sizeLine_eq]; rfl
theorem opr_add : OpR X (binaryOp .Add) (rP2 (opS .add)) := by
  refine OpR.imp (op_add.or (op_add_str.or ((op_catA (X := X)).or (op_cat (X := X))))) fun x y H Q h => ?_
  obtain ⟨M, Λ, S, d, e, r, R, rx, ry, h, k⟩ := h
  unfold opS at h
  split at h <;> first | contradiction | skip
  · cases int_of rx; cases int_of ry
    cases h
    exact .inl ⟨_, _, rfl, rfl, k.val_same (.int _)⟩
  · obtain ⟨k1, rfl⟩ := okS_of rx
    obtain ⟨k2, rfl⟩ := okS_of ry
    split at h
    · cases h
      refine .inr (.inl ⟨_, _, rfl, rfl, ?_, ?_⟩)
      · rw [len_sOf, len_sOf, ← line_eq]; assumption
      · rw [app_sOf]
        exact k.val_same (.str (okS_app k1 k2))
    · cases h
  · obtain ⟨a, vs, rfl, h1, r1⟩ := tup_of rx
    obtain ⟨b, ws, rfl, h2, r2⟩ := tup_of ry
    split at h
    · cases h
      refine .inr (.inr (.inl ⟨a, b, vs, ws, rfl, rfl, .of h1, .of h2, ?_, fun e => ?_, fun _ e => ?_, fun _ _ p hp => ?_⟩))
      · rw [← r1.length, ← r2.length, ← line_eq]; assumption
      · subst e
        cases r1
        exact k.val_same (.tup h2 r2)
      · subst e
        cases r2
        rw [List.append_nil] at k
        exact k.val_same (.tup h1 r1)
      · exact k.tup R (r1.append r2) hp
    · cases h
  · split at h
    · rename_i xs ys e1 e2
      obtain ⟨a, vs, rfl, h1, r1⟩ := asL_rv R rx e1
      obtain ⟨b, ws, rfl, h2, r2⟩ := asL_rv R ry e2
      split at h
      · cases h
        refine .inr (.inr (.inr ⟨a, b, vs, ws, rfl, rfl, h1, h2, ?_, fun p hp => k.new_same hp (.lst (r1.append r2))⟩))
        rw [← r1.length, ← r2.length, ← line_eq]; assumption
      · cases h
    · cases h
theorem opr_sub : OpR X (binaryOp .Sub) (rP2 (opS .sub)) := by
  refine OpR.imp op_sub fun x y H Q h => ?_
  obtain ⟨M, Λ, S, d, e, r, R, rx, ry, h, k⟩ := h
  unfold opS at h
  split at h <;> first | contradiction | skip
  cases int_of rx; cases int_of ry
  cases h
  exact ⟨_, _, rfl, rfl, k.val_same (.int _)⟩
theorem flat_foldl (z : List Nat) : ∀ (n : Nat) (acc : Array Nat), ((List.replicate n z.toArray).foldl (· ++ ·) acc).toList = acc.toList ++ (List.replicate n z).flatten
  | 0, acc => by simp
  | n + 1, acc => by
    rw [List.replicate_succ, List.foldl_cons, flat_foldl z n, List.replicate_succ, List.flatten_cons, Array.toList_append, List.append_assoc]
theorem okS_rep {z : List Nat} (h : okS z) (n : Nat) : okS (List.replicate n z).flatten := fun x hx => by
  obtain ⟨l, hl, hx⟩ := List.mem_flatten.mp hx
  rw [List.eq_of_mem_replicate hl] at hx
  exact h x hx
theorem op_mulS : OpR X (binaryOp .Mult) (fun x y H Q => ∃ (z : List Nat) (k : Int), x = .str (sOf z) ∧ y = .int k ∧ k.natAbs < 9223372036854775808 ∧ z.length * k.toNat ≤ line ∧ Q (.str (sOf (List.replicate k.toNat z).flatten)) H) := by
  intro pins s σ H x y v u Q I rx ry h
  obtain ⟨z, k, rfl, rfl, hk, hl, q⟩ := h
  obtain ⟨t, rfl⟩ := rx
  obtain ⟨t2, rfl⟩ := ry
  have fin : ∀ (c : List Nat) (t' tk : Nat), c = (List.replicate k.toNat z).flatten → EP X pins σ Q (.str (sOf c) t') { s with toks := tk } := fun c t' tk e => by
    subst e
    exact ⟨.str (sOf (List.replicate k.toNat z).flatten), H, I.tok tk, ⟨t', rfl⟩, q⟩
  have hlen : (sOf z).length = z.length := len_sOf z
  have big : ¬ k < 1 → z.length ≤ line := fun h1 => by
    have : 1 ≤ k.toNat := by omega
    exact Nat.le_trans (Nat.le_mul_of_pos_right _ this) hl
  refine PySem.P.mul_str (by
    have h1 : ¬ k < -(2 ^ 63 : Int) := by omega
    have h2 : ¬ k ≥ 2 ^ 63 := by omega
    rw [decide_eq_false h1, decide_eq_false h2]; rfl) (fun h1 _ => ?_) (fun h1 _ => ?_) ?_
  · rw [hlen]
    have e1 : (z.length : Int) * k ≤ 16777216 := by
      have : ((z.length * k.toNat : Nat) : Int) ≤ (line : Int) := Int.ofNat_le.mpr hl
      rw [Int.natCast_mul, Int.toNat_of_nonneg (by omega)] at this
      exact this
    have e2 : (z.length : Int) ≤ (2 ^ 63 - 1) / k := (Int.le_ediv_iff_mul_le (by omega)).mpr (by omega)
    omega
  · rw [hlen]
    have : z.length * k.toNat ≤ sizeLine := by rw [← line_eq]; exact hl
    unfold Builtin.Str.tooLong
    exact decide_eq_false (by omega)
  · split
    · rename_i h1
      refine ⟨by decide, fin [] s.toks _ ?_⟩
      rw [show k.toNat = 0 from by omega]
      rfl
    · rename_i h1
      split
      · rename_i h2
        have e : z = (List.replicate k.toNat z).flatten := by
          simp only [Bool.or_eq_true, beq_iff_eq] at h2
          rcases h2 with h2 | h2
          · rw [h2]; simp
          · rw [hlen] at h2
            have : z = [] := List.eq_nil_of_length_eq_zero h2
            subst this
            simp
        have := fin z t s.toks e
        exact this
      · refine ⟨?_, ?_⟩
        · have : z.length * k.toNat ≤ sizeLine := by rw [← line_eq]; exact hl
          show ((List.replicate k.toNat z.toArray).foldl (· ++ ·) #[]).size ≤ sizeLine
          have e := congrArg List.length (flat_foldl z k.toNat #[])
          simp only [Array.length_toList, List.nil_append] at e
          rw [e]
          simp only [List.length_flatten, List.map_replicate, List.sum_replicate_nat]
          rw [Nat.mul_comm]
          omega
        · have e : (⟨(List.replicate k.toNat (sOf z).cps).foldl (· ++ ·) #[]⟩ : Str) = sOf (List.replicate k.toNat z).flatten := by
            have e1 := flat_foldl z k.toNat #[]
            show Str.mk _ = Str.mk _
            congr 1
            apply Array.ext'
            simpa using e1
          have := fin _ s.toks (s.toks + 1) rfl
          rw [← e] at this
          exact this
theorem mul_side {i j : Int} (h : i.natAbs < 18446744073709551616 ∨ j.natAbs < 18446744073709551616) : (-(2 ^ 64) < i ∧ i < 2 ^ 64) ∨ (-(2 ^ 64) < j ∧ j < 2 ^ 64) := by omega
theorem fdiv_side {j : Int} (h : 0 < j ∧ j.natAbs < 1073741824) : 0 < j ∧ j < 1073741824 := by omega
theorem pow_side {i j : Int} (h : 0 ≤ j ∧ j.natAbs < 1000001 ∧ i.natAbs < 18446744073709551616) : 0 ≤ j ∧ j ≤ 1000000 ∧ i.natAbs < 2 ^ 64 := by omega
theorem opr_mul : OpR X (binaryOp .Mult) (rP2 (opS .mul)) := by
  refine OpR.imp (op_mul.or (op_rep.or op_mulS)) fun x y H Q h => ?_
  obtain ⟨M, Λ, S, d, e, r, R, rx, ry, h, k⟩ := h
  unfold opS at h
  split at h <;> first | contradiction | skip
  · cases int_of rx; cases int_of ry
    split at h
    · cases h
      exact .inl ⟨_, _, rfl, rfl, mul_side (by assumption), k.val_same (.int _)⟩
    · cases h
  · obtain ⟨k1, rfl⟩ := okS_of rx
    cases int_of ry
    split at h
    · rename_i hc
      cases h
      exact .inr (.inr ⟨_, _, rfl, rfl, hc.1, hc.2, k.val_same (.str (okS_rep k1 _))⟩)
    · cases h
  · cases int_of ry
    split at h
    · rename_i xs e1
      obtain ⟨a, vs, rfl, h1, r1⟩ := asL_rv R rx e1
      split at h
      · rename_i hc
        cases h
        refine .inr (.inl ⟨a, _, vs, rfl, rfl, h1, by omega, by omega, ?_, fun p hp => k.new_same hp (.lst (r1.rep _))⟩)
        rw [← r1.length, ← line_eq]; exact hc.2
      · cases h
    · cases h
theorem opr_fdiv : OpR X (binaryOp .FloorDiv) (rP2 (opS .fdiv)) := by
  refine OpR.imp op_fdiv fun x y H Q h => ?_
  obtain ⟨M, Λ, S, d, e, r, R, rx, ry, h, k⟩ := h
  unfold opS at h
  split at h <;> first | contradiction | skip
  cases int_of rx; cases int_of ry
  split at h
  · cases h
    exact ⟨_, _, rfl, rfl, fdiv_side (by assumption), k.val_same (.int _)⟩
  · cases h
theorem opr_mod : OpR X (binaryOp .Mod) (rP2 (opS .mod)) := by
  refine OpR.imp op_mod fun x y H Q h => ?_
  obtain ⟨M, Λ, S, d, e, r, R, rx, ry, h, k⟩ := h
  unfold opS at h
  split at h <;> first | contradiction | skip
  cases int_of rx; cases int_of ry
  split at h
  · cases h
    exact ⟨_, _, rfl, rfl, by assumption, k.val_same (.int _)⟩
  · cases h
theorem opr_pow : OpR X (binaryOp .Pow) (rP2 (opS .pow)) := by
  refine OpR.imp op_pow fun x y H Q h => ?_
  obtain ⟨M, Λ, S, d, e, r, R, rx, ry, h, k⟩ := h
  unfold opS at h
  split at h <;> first | contradiction | skip
  cases int_of rx; cases int_of ry
  split at h
  · cases h
    exact ⟨_, _, rfl, rfl, pow_side (by assumption), k.val_same (.int _)⟩
  · cases h
def astOp : Op2 → Operator
  | .add => .Add
  | .sub => .Sub
  | .mul => .Mult
  | .fdiv => .FloorDiv
  | .mod => .Mod
  | .pow => .Pow
theorem opr : ∀ o : Op2, OpR X (binaryOp (astOp o)) (rP2 (opS o))
  | .add => opr_add
  | .sub => opr_sub
  | .mul => opr_mul
  | .fdiv => opr_fdiv
  | .mod => opr_mod
  | .pow => opr_pow
/-- x op= e, by ints and texts -/
theorem iopr_add : OpR X (inplaceOp .Add) (fun x y H Q => ∃ M Λ S d e c, RelS M Λ S H ∧ RV M Λ H d x ∧ RV M Λ H e y ∧ augOk .add d = true ∧ opS .add d e S = some (.val c) ∧ PRk M Λ (.val c) H Q) := by
  refine OpR.imp (iop_add.or iop_add_str) fun x y H Q h => ?_
  obtain ⟨M, Λ, S, d, e, r, R, rx, ry, hd, h, k⟩ := h
  unfold opS at h
  split at h <;> first | contradiction | skip
  · cases int_of rx; cases int_of ry
    cases h
    exact .inl ⟨_, _, rfl, rfl, k.val_same (.int _)⟩
  · obtain ⟨k1, rfl⟩ := okS_of rx
    obtain ⟨k2, rfl⟩ := okS_of ry
    split at h
    · cases h
      refine .inr ⟨_, _, rfl, rfl, ?_, ?_⟩
      · rw [len_sOf, len_sOf, ← line_eq]; assumption
      · rw [app_sOf]
        exact k.val_same (.str (okS_app k1 k2))
    · cases h
  all_goals (split at h <;> first | (cases h; done) | (split at h <;> cases h))
theorem iopr_sub : OpR X (inplaceOp .Sub) (fun x y H Q => ∃ M Λ S d e c, RelS M Λ S H ∧ RV M Λ H d x ∧ RV M Λ H e y ∧ opS .sub d e S = some (.val c) ∧ PRk M Λ (.val c) H Q) := by
  refine OpR.imp iop_sub fun x y H Q h => ?_
  obtain ⟨M, Λ, S, d, e, r, R, rx, ry, h, k⟩ := h
  unfold opS at h
  split at h <;> first | contradiction | skip
  cases int_of rx; cases int_of ry
  cases h
  exact ⟨_, _, rfl, rfl, k.val_same (.int _)⟩
/-- - x -/
theorem unr_neg : UnR X (unaryOp .USub) (fun x H Q => ∃ M Λ i, RV M Λ H (.int i) x ∧ Q (.int (-i)) H) := fun pins s σ H x v Q I r ⟨M, Λ, i, rx, q⟩ => by
  cases int_of rx
  exact un_neg pins s σ H _ v Q I r ⟨_, rfl, q⟩
end
end Pd

/-! Pd4: comparisons, subscripts, slices. -/
namespace Pd
open PySem PySem.Spec PyProof.Rows L2

section
variable {M : Addr → Prop} {Λ : List Addr} {H : Hp} {S : Store} {d : D} {v : V} {Q : VK} {X : Cx}
def rB (f : D → D → Store → Option Bool) : R2 := fun x y H Q => ∃ M Λ S d e b, RelS M Λ S H ∧ RV M Λ H d x ∧ RV M Λ H e y ∧ f d e S = some b ∧ Q (.bl b) H
theorem shaped_of {p : PyData} {n : Nat} (h : p.canLay0 = true) (k : p.depth ≤ n) (hn : n ≤ 64) : SeqAt.shaped p = true := by
  unfold SeqAt.shaped
  rw [h, decide_eq_true (Nat.le_trans k hn)]
  rfl
theorem eqS_some {S : Store} {x y : D} {b : Bool} (h : eqS S x y = some b) : (okd 12 (top S x) = true ∧ okd 12 (top S y) = true ∧ b = PyData.eqv (py (top S x)) (py (top S y))) ∨ eqDk S x y = some b := by
  unfold eqS at h
  split at h
  · rename_i hc
    simp only [Bool.and_eq_true] at hc
    cases h
    exact .inl ⟨hc.1, hc.2, rfl⟩
  · exact .inr h
def dkK' : DK → Option Key
  | .i n => some (.inl n)
  | .s c => some (.inr (sOf c))
  | .t _ => none
theorem sOf_inj' {a b : List Nat} (h : sOf a = sOf b) : a = b := by
  have := congrArg (fun s : Str => s.cps.toList) h
  simpa using this
theorem kk_head : ∀ {i : DK} {js : List DK} {k : Key} {l : List Key}, KK (i :: js) (k :: l) → dkK' i = some k ∧ KK js l
  | _, _, _, _, .i h => ⟨rfl, h⟩
  | _, _, _, _, .s _ h => ⟨rfl, h⟩
theorem dkK'_inj {i j : DK} {k : Key} (h : dkK' i = some k) (g : dkK' j = some k) : i = j := by
  cases i with
  | i n =>
    cases h
    cases j with
    | i m => cases g; rfl
    | s c => cases g
    | t l => cases g
  | s c =>
    cases h
    cases j with
    | i m => cases g
    | s e =>
      have := sOf_inj' (Sum.inr.inj (Option.some.inj g))
      rw [this]
    | t l => cases g
  | t l => cases h
theorem KK_len' : ∀ {ks : List DK} {js : List Key}, KK ks js → ks.length = js.length
  | _, _, .nil => rfl
  | _, _, .i h => by rw [List.length_cons, List.length_cons, KK_len' h]
  | _, _, .s _ h => by rw [List.length_cons, List.length_cons, KK_len' h]
theorem look_valV : ∀ {js : List DK} {us : List D} {ls : List (Key × V)} {j : DK} {k : Key} {w : D}, KK js (ls.map (·.1)) → RVs M Λ H us (ls.map (·.2)) → dkK' j = some k → dLook j js us = some w → ∃ v, valV ls k = some v ∧ RV M Λ H w v
  | [], _, _, _, _, _, _, _, _, h => by simp [dLook] at h
  | i :: js, us, [], _, _, _, hk, _, _, _ => by simp at hk; cases hk
  | i :: js, [], p :: ls, _, _, _, _, _, _, h => by simp [dLook] at h
  | i :: js, u :: us, p :: ls, j, k, w, hk, hr, hj, h => by
    simp only [List.map_cons] at hk hr
    cases hr with
    | cons r1 r2 =>
      unfold dLook at h
      obtain ⟨e0, hk'⟩ := kk_head hk
      split at h
      · rename_i e
        cases h
        subst e
        rw [hj] at e0
        exact ⟨p.2, valV_pos (Option.some.inj e0).symm, r1⟩
      · rename_i e
        have hne : ¬ p.1 = k := fun z => e (dkK'_inj e0 (z ▸ hj))
        rw [valV_neg hne]
        exact look_valV hk' r2 hj h
theorem same_hits {ls : List (Key × V)} {js : List DK} {vs : List D} (hk : KK js (ls.map (·.1))) (hr : RVs M Λ H vs (ls.map (·.2))) : ∀ {ks : List DK} {us : List D} {kvs : List (Key × V)}, KK ks (kvs.map (·.1)) → RVs M Λ H us (kvs.map (·.2)) → sameAll js vs ks us = true →
    ∀ p ∈ kvs, ∃ u, valV ls p.1 = some u ∧ ∃ d e, RV M Λ H d p.2 ∧ RV M Λ H e u ∧ okd 11 d = true ∧ okd 11 e = true ∧ PyData.eqv (py d) (py e) = true
  | _, _, [], _, _, _, _, hp => by cases hp
  | [], _, q :: kvs, h1, _, _, _, _ => by simp at h1; cases h1
  | i :: ks, [], q :: kvs, _, h2, _, _, _ => by simp at h2; cases h2
  | i :: ks, u :: us, q :: kvs, h1, h2, h3, p, hp => by
    simp only [List.map_cons] at h1 h2
    simp only [sameAll, Bool.and_eq_true] at h3
    cases h2 with
    | cons r1 r2 =>
      have hki := kk_head h1
      rcases List.mem_cons.mp hp with rfl | hp
      · obtain ⟨h3, _⟩ := h3
        split at h3 <;> try (cases h3; done)
        rename_i w ew
        simp only [Bool.and_eq_true] at h3
        obtain ⟨v, ev, rv⟩ := look_valV hk hr hki.1 ew
        exact ⟨v, ev, u, w, r1, rv, h3.1.1, h3.1.2, h3.2⟩
      · exact same_hits hk hr hki.2 r2 h3.2 p hp
theorem hits_at {A : Around} {s : Shared} {C : V → V → Prop} {ls : List (Key × V)} {vb : List (Key × Value)} (rb : KV ls vb) {ks : List (Key × V)} {va : List (Key × Value)} (ra : KV ks va) (hp : ∀ p ∈ ks, ∃ u, valV ls p.1 = some u ∧ C p.2 u)
    (ih : ∀ x y v u, C x y → RelV x v → RelV y u → SeqAt.EqAt A s v u true) : PySem.W.KeqHits A s vb va true := by
  unfold KV at ra
  induction ra with
  | nil => exact .nil
  | @cons p q ps qs h t k =>
    obtain ⟨h1, h2⟩ := h
    obtain ⟨u, e, f⟩ := hp p List.mem_cons_self
    have rr : RelO (some u) (valueAt vb p.1) := e ▸ rb.val p.1
    obtain ⟨y, hy, ry⟩ := rr.some_of
    obtain ⟨key, w⟩ := q
    rw [show p.1 = key from h1] at hy
    exact PySem.W.KeqHits.hit (e := true) (b := true) hy (ih _ _ _ _ f h2 ry) (k fun p' hm => hp p' (List.mem_cons_of_mem _ hm))
theorem eqDk_true {S : Store} {x y : D} {b : Bool} (h : eqDk S x y = some b) : b = true := by
  unfold eqDk at h
  split at h <;> try (cases h; done)
  split at h <;> try (cases h; done)
  cases h
  rfl
theorem eqDk_run {op : CmpOp} {b : Bool} (hop : (op = .Eq ∧ b = true) ∨ (op = .NotEq ∧ b = false)) (hu : X.A.units + 64 < cLine) : OpR X (compareOp op) (fun x y H Q => ∃ M Λ S d e c, RelS M Λ S H ∧ RV M Λ H d x ∧ RV M Λ H e y ∧ eqDk S d e = some c ∧ Q (.bl b) H) := by
  intro pins s σ H x y v u Q I rx ry ⟨M, Λ, S, d, e, c, R, r1, r2, h, q⟩
  unfold eqDk at h
  split at h <;> try (cases h; done)
  rename_i ks us js vs e1 e2
  split at h <;> try (cases h; done)
  rename_i hc
  simp only [Bool.and_eq_true, beq_iff_eq] at hc
  obtain ⟨hl, hs⟩ := hc
  obtain ⟨a, rfl, D1⟩ := asDk_rv R r1 e1
  obtain ⟨a', rfl, D2⟩ := asDk_rv R r2 e2
  rcases D1 with ⟨_, kvs, d1, k1, w1⟩ | ⟨z, _⟩
  · rcases D2 with ⟨_, ls, d2, k2, w2⟩ | ⟨z, _⟩
    · obtain rfl : v = Value.ref a := rx
      obtain rfl : u = Value.ref a' := ry
      obtain ⟨_, ya, va, ra, da⟩ := dk_rd I.hok d1
      obtain ⟨_, yb, vb, rb, db⟩ := dk_rd I.hok d2
      have hlen : va.length = vb.length := by
        have z1 := KK_len' k1
        have z2 := KK_len' k2
        rw [List.length_map] at z1 z2
        rw [← ra.length, ← rb.length, ← z1, ← z2]
        exact hl
      have hits : PySem.W.KeqHits X.A.in1 s vb va true := hits_at (C := fun x y => ∃ d e, RV M Λ H d x ∧ RV M Λ H e y ∧ okd 11 d = true ∧ okd 11 e = true ∧ PyData.eqv (py d) (py e) = true) rb ra (same_hits k2 w2 k1 w1 hs) fun x y v u ⟨d, e, q1, q2, o1, o2, q3⟩ rx ry => by
        obtain ⟨as, z1⟩ := Dp.reads I (py d) x v (dp_of 11 q1 o1) rx
        obtain ⟨bs, z2⟩ := Dp.reads I (py e) y u (dp_of 11 q2 o2) ry
        have dd := (okd_of 11 q1 o1).2
        have hat := SeqAt.eqAt_reads (py d) (py e) X.A.in1 s v u as bs z1 z2 (okd_of 11 q1 o1).1 (okd_of 11 q2 o2).1 (by
          have := Nat.min_le_left (py d).depth (py e).depth
          show X.A.units + 1 + min (py d).depth (py e).depth < cLine
          omega)
        rw [q3] at hat
        exact hat
      rcases hop with ⟨rfl, rfl⟩ | ⟨rfl, rfl⟩
      · exact PySem.W.keq_eq (knd := mixKind X.prog X.w) (r := true) ya yb da db (by omega) (fun _ => hits) (fin_bl I q (by simp [hlen]))
      · exact PySem.W.keq_ne (knd := mixKind X.prog X.w) (r := true) ya yb da db (by omega) (fun _ => hits) (fin_bl I q (by simp [hlen]))
    · cases z
  · cases z
theorem cmpr_eq (hu : X.A.units + 64 < cLine) : OpR X (compareOp .Eq) (rB (cmpS .eq)) := by
  refine OpR.imp (OpR.or (op_eqD hu) (eqDk_run (b := true) (.inl ⟨rfl, rfl⟩) hu)) fun x y H Q h => ?_
  obtain ⟨M, Λ, S, d, e, b, R, rx, ry, h, q⟩ := h
  rcases eqS_some h with ⟨k1, k2, rfl⟩ | h
  · obtain ⟨a1, a2, a3⟩ := top_dp (K := X.K) R rx k1
    obtain ⟨b1, b2, b3⟩ := top_dp (K := X.K) R ry k2
    exact .inl ⟨_, _, a1, b1, shaped_of a2 a3 (by decide), shaped_of b2 b3 (by decide), q⟩
  · cases eqDk_true h
    exact .inr ⟨M, Λ, S, d, e, true, R, rx, ry, h, q⟩
theorem cmpr_ne (hu : X.A.units + 64 < cLine) : OpR X (compareOp .NotEq) (rB (cmpS .ne)) := by
  refine OpR.imp (OpR.or (op_neD hu) (eqDk_run (b := false) (.inr ⟨rfl, rfl⟩) hu)) fun x y H Q h => ?_
  obtain ⟨M, Λ, S, d, e, b, R, rx, ry, h, q⟩ := h
  simp only [cmpS, Option.map_eq_some_iff] at h
  obtain ⟨c, h, rfl⟩ := h
  rcases eqS_some h with ⟨k1, k2, rfl⟩ | h
  · obtain ⟨a1, a2, a3⟩ := top_dp (K := X.K) R rx k1
    obtain ⟨b1, b2, b3⟩ := top_dp (K := X.K) R ry k2
    exact .inl ⟨_, _, a1, b1, shaped_of a2 a3 (by decide), shaped_of b2 b3 (by decide), q⟩
  · cases eqDk_true h
    exact .inr ⟨M, Λ, S, d, e, true, R, rx, ry, h, q⟩
theorem ltS_some {S : Store} {x y : D} {b : Bool} (h : ltS S x y = some b) : okd 12 (top S x) = true ∧ okd 12 (top S y) = true ∧ PySem.W.alike (py (top S x)) (py (top S y)) = true ∧ py (top S x) ≠ .none ∧ b = PySem.W.dataLt (py (top S x)) (py (top S y)) := by
  unfold ltS at h
  split at h
  · rename_i hc
    simp only [Bool.and_eq_true] at hc
    cases h
    exact ⟨hc.1.1.1, hc.1.1.2, hc.1.2, fun z => by rw [z] at hc; simp [notNone] at hc, rfl⟩
  · cases h
theorem room12 {a b : Nat} {A : Around} (hu : A.units + 64 < cLine) (h : a ≤ 12) : A.units + min a b < cLine := by
  have := Nat.min_le_left a b
  omega
/-- the four orders, by the reads -/
theorem cmpr_ord {op : CmpOp} {f : D → D → Store → Option Bool} (go : ∀ (s : Shared) (a b : Value) (da db : PyData) (as bs : List Addr) (c : Bool) (Q : Value → Shared → Prop) (S : Store) (x y : D), Reads s.heap a da as → Reads s.heap b db bs →
      py (top S x) = da → py (top S y) = db → f x y S = some c → da.depth ≤ 12 → db.depth ≤ 12 → Q (.bool c) s → wpAny (model X.prog X.w) X.A (compareOp op a b) Q X.xe s)
    (ok : ∀ S x y c, f x y S = some c → okd 12 (top S x) = true ∧ okd 12 (top S y) = true) : OpR X (compareOp op) (rB f) := by
  intro pins s σ H x y v u Q I r1 r2 h
  obtain ⟨M, Λ, S, d, e, b, R, rx, ry, h, q⟩ := h
  obtain ⟨k1, k2⟩ := ok _ _ _ _ h
  obtain ⟨a1, a2, a3⟩ := top_dp (K := X.K) R rx k1
  obtain ⟨b1, b2, b3⟩ := top_dp (K := X.K) R ry k2
  obtain ⟨as, w1⟩ := Dp.reads I _ x v a1 r1
  obtain ⟨bs, w2⟩ := Dp.reads I _ y u b1 r2
  exact go s v u _ _ as bs b _ S d e w1 w2 rfl rfl h a3 b3 ⟨.bl b, H, I, rfl, q⟩
theorem cmpr_lt (hu : X.A.units + 64 < cLine) : OpR X (compareOp .Lt) (rB (cmpS .lt)) :=
  cmpr_ord (fun s a b da db as bs c Q S x y w1 w2 e1 e2 h h1 h2 q => by
    obtain ⟨_, _, k3, k4, rfl⟩ := ltS_some (show ltS S x y = some c from h)
    subst e1; subst e2
    exact PySem.W.lt_data w1 w2 k3 k4 (room12 hu h1) q) fun S x y c h => let z := ltS_some (show ltS S x y = some c from h); ⟨z.1, z.2.1⟩
theorem cmpr_gt (hu : X.A.units + 64 < cLine) : OpR X (compareOp .Gt) (rB (cmpS .gt)) :=
  cmpr_ord (fun s a b da db as bs c Q S x y w1 w2 e1 e2 h h1 h2 q => by
    obtain ⟨_, _, k3, k4, rfl⟩ := ltS_some (show ltS S y x = some c from h)
    subst e1; subst e2
    refine PySem.W.gt_data w1 w2 (by rw [PySem.W.alike_comm]; exact k3) (PySem.W.ne_none_both k3 k4) (room12 hu h1) q) fun S x y c h => let z := ltS_some (show ltS S y x = some c from h); ⟨z.2.1, z.1⟩
theorem cmpr_le (hu : X.A.units + 64 < cLine) : OpR X (compareOp .LtE) (rB (cmpS .le)) :=
  cmpr_ord (fun s a b da db as bs c Q S x y w1 w2 e1 e2 h h1 h2 q => by
    simp only [cmpS, Option.map_eq_some_iff] at h
    obtain ⟨c, h, rfl⟩ := h
    obtain ⟨_, _, k3, k4, rfl⟩ := ltS_some h
    subst e1; subst e2
    refine PySem.W.le_data w1 w2 (by rw [PySem.W.alike_comm]; exact k3) (PySem.W.ne_none_both k3 k4) (room12 hu h1) q) fun S x y c h => by
      simp only [cmpS, Option.map_eq_some_iff] at h
      obtain ⟨c, h, rfl⟩ := h
      exact ⟨(ltS_some h).2.1, (ltS_some h).1⟩
theorem cmpr_ge (hu : X.A.units + 64 < cLine) : OpR X (compareOp .GtE) (rB (cmpS .ge)) :=
  cmpr_ord (fun s a b da db as bs c Q S x y w1 w2 e1 e2 h h1 h2 q => by
    simp only [cmpS, Option.map_eq_some_iff] at h
    obtain ⟨c, h, rfl⟩ := h
    obtain ⟨_, _, k3, k4, rfl⟩ := ltS_some h
    subst e1; subst e2
    refine PySem.W.ge_data w1 w2 k3 k4 (room12 hu h1) q) fun S x y c h => by
      simp only [cmpS, Option.map_eq_some_iff] at h
      obtain ⟨c, h, rfl⟩ := h
      exact ⟨(ltS_some h).1, (ltS_some h).2.1⟩
theorem isNon_rv (h : RV M Λ H d v) : isNon d = decide (v = .non) := by
  cases h with
  | non => rfl
  | _ => simp [isNon]
theorem cmpr_is : OpR X (compareOp .Is) (rB (cmpS .isN)) := by
  refine OpR.imp (op_isN.or op_isBl) fun x y H Q h => ?_
  obtain ⟨M, Λ, S, d, e, b, R, rx, ry, h, q⟩ := h
  unfold cmpS at h
  split at h <;> first | contradiction | skip
  · cases h
    exact .inl ⟨non_of ry, by rw [← isNon_rv rx]; exact q⟩
  · cases h
    exact .inr ⟨_, _, bl_of rx, bl_of ry, q⟩
theorem cmpr_isn : OpR X (compareOp .IsNot) (rB (cmpS .notN)) := by
  refine OpR.imp (op_notN.or op_notBl) fun x y H Q h => ?_
  obtain ⟨M, Λ, S, d, e, b, R, rx, ry, h, q⟩ := h
  unfold cmpS at h
  split at h <;> first | contradiction | skip
  · cases h
    exact .inl ⟨non_of ry, by rw [← isNon_rv rx]; exact q⟩
  · cases h
    exact .inr ⟨_, _, bl_of rx, bl_of ry, q⟩

/-! ### dicts -/
theorem sOf_inj {a b : List Nat} (h : sOf a = sOf b) : a = b := by
  have := congrArg (fun z : Str => z.cps.toList) h
  simpa using this
def dkK : DK → Option Key
  | .i n => some (.inl n)
  | .s c => some (.inr (sOf c))
  | .t _ => none
theorem keyS_inj : ∀ {a b : Int ⊕ List Nat}, keyS a = keyS b → a = b
  | .inl _, .inl _, h => by simp only [keyS, Sum.inl.injEq] at h; rw [h]
  | .inl _, .inr _, h => by simp [keyS] at h
  | .inr _, .inl _, h => by simp [keyS] at h
  | .inr _, .inr _, h => by simp only [keyS, Sum.inr.injEq] at h; rw [sOf_inj h]
theorem map_keyS_inj : ∀ {a b : List (Int ⊕ List Nat)}, a.map keyS = b.map keyS → a = b
  | [], [], _ => rfl
  | [], _ :: _, h => by simp at h
  | _ :: _, [], h => by simp at h
  | x :: xs, y :: ys, h => by
    simp only [List.map_cons, List.cons.injEq] at h
    rw [keyS_inj h.1, map_keyS_inj h.2]
theorem KK_look {k : DK} {kk : Key} (hk : dkK k = some kk) : ∀ {ks : List DK} {kvs : List (Key × V)} {ds : List D}, KK ks (kvs.map (·.1)) → RVs M Λ H ds (kvs.map (·.2)) →
    (dLook k ks ds = none ∧ valV kvs kk = none) ∨ ∃ d v, dLook k ks ds = some d ∧ valV kvs kk = some v ∧ RV M Λ H d v
  | [], [], ds, _, r => by
    cases r
    exact .inl ⟨rfl, rfl⟩
  | [], _ :: _, ds, h, r => by simp only [List.map_cons] at h; cases h
  | j :: js, [], ds, h, r => by cases h
  | j :: js, (q, u) :: kvs, ds, h, r => by
    simp only [List.map_cons] at h r
    cases r with
    | cons ru rr =>
      have hq : dkK j = some q ∧ KK js (kvs.map (·.1)) := by
        cases h with
        | i h => exact ⟨rfl, h⟩
        | s _ h => exact ⟨rfl, h⟩
      by_cases e : j = k
      · subst e
        have e2 : kk = q := Option.some.inj (hk.symm.trans hq.1)
        subst e2
        exact .inr ⟨_, u, by simp [dLook], by simp [valV], ru⟩
      · have hne : ¬ q = kk := fun z => e (by
          subst z
          have h3 := hq.1.trans hk.symm
          cases j <;> cases k <;> simp only [dkK, Option.some.injEq, Sum.inl.injEq, Sum.inr.injEq, reduceCtorEq] at h3
          · rw [h3]
          · rw [sOf_inj h3]
          · simp [dkK] at hk)
        have ih := KK_look hk hq.2 rr
        simpa [dLook, e, valV, List.find?_cons, hne] using ih
theorem KT_look {l : List (Int ⊕ List Nat)} : ∀ {ks : List DK} {kvs : List (List Key × V)} {ds : List D}, KT ks (kvs.map (·.1)) → RVs M Λ H ds (kvs.map (·.2)) →
    (dLook (.t l) ks ds = none ∧ valV kvs (l.map keyS) = none) ∨ ∃ d v, dLook (.t l) ks ds = some d ∧ valV kvs (l.map keyS) = some v ∧ RV M Λ H d v
  | [], [], ds, _, r => by
    cases r
    exact .inl ⟨rfl, rfl⟩
  | [], _ :: _, ds, h, r => by simp only [List.map_cons] at h; cases h
  | j :: js, [], ds, h, r => by cases h
  | j :: js, (q, u) :: kvs, ds, h, r => by
    simp only [List.map_cons] at h r
    cases r with
    | cons ru rr =>
      cases h with
      | @t m _ _ hm h =>
        by_cases e : m = l
        · subst e
          exact .inr ⟨_, u, by simp [dLook], by simp [valV], ru⟩
        · have hne : ¬ m.map keyS = l.map keyS := fun z => e (map_keyS_inj z)
          have ih := KT_look (l := l) h rr
          simpa [dLook, e, valV, List.find?_cons, hne] using ih
theorem keyItems_rv : ∀ {xs : List D} {vs : List V} {l : List (Int ⊕ List Nat)}, RVs M Λ H xs vs → keyItems xs = some l → vs = (l.map keyS).map kV ∧ ∀ x ∈ l, okK x
  | [], vs, l, r, h => by
    cases r
    cases h
    exact ⟨rfl, fun _ h => by cases h⟩
  | d :: ds, vs, l, r, h => by
    cases r with
    | cons r rs =>
      unfold keyItems at h
      split at h <;> first | contradiction | skip
      · rename_i n r' e
        cases e
        simp only [Option.map_eq_some_iff] at h
        obtain ⟨l', h, rfl⟩ := h
        obtain ⟨e1, e2⟩ := keyItems_rv rs h
        cases int_of r
        refine ⟨by rw [e1]; rfl, fun x hx => ?_⟩
        rcases List.mem_cons.mp hx with rfl | hx
        · trivial
        · exact e2 x hx
      · rename_i n r' e
        cases e
        simp only [Option.map_eq_some_iff] at h
        obtain ⟨l', h, rfl⟩ := h
        obtain ⟨e1, e2⟩ := keyItems_rv rs h
        obtain ⟨k, rfl⟩ := okS_of r
        refine ⟨by rw [e1]; rfl, fun x hx => ?_⟩
        rcases List.mem_cons.mp hx with rfl | hx
        · exact k
        · exact e2 x hx
/-- a look-up -/
theorem dget_rv {a : Addr} {t : Bool} {ks : List DK} {ds : List D} {k : DK} {e : D} {y : V} (D0 : DkAt M Λ H a t ks ds) (ry : RV M Λ H e y) (hk : asKey e = some k) (hf : k.fits t = true) :
    (dLook k ks ds = none ∧ DGet H a y none) ∨ ∃ d v, dLook k ks ds = some d ∧ DGet H a y (some v) ∧ RV M Λ H d v := by
  rcases D0 with ⟨rfl, kvs, e1, hK, r⟩ | ⟨rfl, kvs, e1, hK, r⟩
  · have hh : ∃ kk, dkK k = some kk ∧ y = kV kk := by
      cases e <;> simp only [asKey, Option.some.injEq, reduceCtorEq, Option.map_eq_some_iff] at hk
      · subst hk; exact ⟨_, rfl, int_of ry⟩
      · subst hk; exact ⟨_, rfl, (okS_of ry).2⟩
      · obtain ⟨l, _, rfl⟩ := hk
        simp [DK.fits, DK.flat] at hf
    obtain ⟨kk, h1, rfl⟩ := hh
    rcases KK_look h1 hK r with ⟨q1, q2⟩ | ⟨d, v, q1, q2, q3⟩
    · exact .inl ⟨q1, .inl ⟨kvs, kk, e1, rfl, q2.symm⟩⟩
    · exact .inr ⟨d, v, q1, .inl ⟨kvs, kk, e1, rfl, q2.symm⟩, q3⟩
  · cases e <;> simp only [asKey, Option.some.injEq, reduceCtorEq, Option.map_eq_some_iff] at hk
    · subst hk; simp [DK.fits, DK.flat] at hf
    · subst hk; simp [DK.fits, DK.flat] at hf
    · obtain ⟨l, h, rfl⟩ := hk
      obtain ⟨b, vs, rfl, eb, rv⟩ := tup_of ry
      obtain ⟨rfl, _⟩ := keyItems_rv rv h
      rcases KT_look (l := l) hK r with ⟨q1, q2⟩ | ⟨d, v, q1, q2, q3⟩
      · exact .inl ⟨q1, .inr ⟨kvs, _, b, e1, rfl, eb, q2.symm⟩⟩
      · exact .inr ⟨d, v, q1, .inr ⟨kvs, _, b, e1, rfl, eb, q2.symm⟩, q3⟩

/-! ### in -/
theorem op_din (hu : X.A.units + 1 < cLine) : OpR X (compareOp .In) (fun y x H Q => ∃ a o, x = .ref a ∧ DGet H a y o ∧ Q (.bl o.isSome) H) := fun pins s σ H y x u v Q I r1 r2 ⟨a, o, ex, g, q⟩ => by
  subst ex
  cases (show v = Value.ref a from r2)
  exact d_in hu I g r1 fun s3 I3 => ⟨.bl o.isSome, H, I3, rfl, q⟩
theorem op_dnin (hu : X.A.units + 1 < cLine) : OpR X (compareOp .NotIn) (fun y x H Q => ∃ a o, x = .ref a ∧ DGet H a y o ∧ Q (.bl (!o.isSome)) H) := fun pins s σ H y x u v Q I r1 r2 ⟨a, o, ex, g, q⟩ => by
  subst ex
  cases (show v = Value.ref a from r2)
  exact d_notIn hu I g r1 fun s3 I3 => ⟨.bl (!o.isSome), H, I3, rfl, q⟩
theorem pys_map : ∀ xs : List D, pys xs = xs.map py
  | [] => rfl
  | x :: xs => by rw [pys, pys_map xs]; rfl
theorem any_pys (xs : List D) (p : PyData) : ((pys xs).any fun z => PyData.eqv z p) = xs.any fun z => PyData.eqv (py z) p := by
  rw [pys_map, List.any_map]
  rfl
/-- in of a list or a tuple, by the reads -/
theorem op_inSq (hu : X.A.units + 64 < cLine) : OpR X (compareOp .In) (fun x y H Q => ∃ M Λ S d e ys, RelS M Λ S H ∧ RV M Λ H d x ∧ RV M Λ H e y ∧ asSq S e = some ys ∧ okd 12 (top S d) = true ∧ ys.all (okd 12) = true ∧
    Q (.bl (ys.any fun z => PyData.eqv (py z) (py (top S d)))) H) := by
  intro pins s σ H x y v u Q I r1 r2 h
  obtain ⟨M, Λ, S, d, e, ys, R, rx, ry, hs, k1, k2, q⟩ := h
  obtain ⟨a1, a2, a3⟩ := top_dp (K := X.K) R rx k1
  obtain ⟨as, w1⟩ := Dp.reads I _ x v a1 r1
  obtain ⟨a, vs, rfl, hv, rv⟩ := asSq_rv (K := X.K) R ry hs
  rw [List.all_eq_true] at k2
  obtain ⟨c1, c2⟩ := okds (okd_of 12) rv k2
  have hd := dps_of (K := X.K) (dp_of 12) rv k2
  have room : X.A.units + 1 + min (PyData.depthAll (pys ys)) (py (top S d)).depth < cLine := by
    have := Nat.min_le_left (PyData.depthAll (pys ys)) (py (top S d)).depth
    omega
  rw [← any_pys] at q
  rcases hv with hv | hv
  · obtain ⟨bs, w2⟩ := Dp.reads I _ _ u (.lst (.of hv) hd) r2
    exact SeqAt.in_list_reads w2 w1 c1 a2 room ⟨.bl _, H, I, rfl, q⟩
  · obtain ⟨bs, w2⟩ := Dp.reads I _ _ u (.tup hv hd) r2
    exact SeqAt.in_tuple_reads w2 w1 c1 a2 room ⟨.bl _, H, I, rfl, q⟩
theorem op_ninSq (hu : X.A.units + 64 < cLine) : OpR X (compareOp .NotIn) (fun x y H Q => ∃ M Λ S d e ys, RelS M Λ S H ∧ RV M Λ H d x ∧ RV M Λ H e y ∧ asSq S e = some ys ∧ okd 12 (top S d) = true ∧ ys.all (okd 12) = true ∧
    Q (.bl (!ys.any fun z => PyData.eqv (py z) (py (top S d)))) H) := by
  intro pins s σ H x y v u Q I r1 r2 h
  obtain ⟨M, Λ, S, d, e, ys, R, rx, ry, hs, k1, k2, q⟩ := h
  obtain ⟨a1, a2, a3⟩ := top_dp (K := X.K) R rx k1
  obtain ⟨as, w1⟩ := Dp.reads I _ x v a1 r1
  obtain ⟨a, vs, rfl, hv, rv⟩ := asSq_rv (K := X.K) R ry hs
  rw [List.all_eq_true] at k2
  obtain ⟨c1, c2⟩ := okds (okd_of 12) rv k2
  have hd := dps_of (K := X.K) (dp_of 12) rv k2
  have room : X.A.units + 1 + min (PyData.depthAll (pys ys)) (py (top S d)).depth < cLine := by
    have := Nat.min_le_left (PyData.depthAll (pys ys)) (py (top S d)).depth
    omega
  rw [← any_pys] at q
  rcases hv with hv | hv
  · obtain ⟨bs, w2⟩ := Dp.reads I _ _ u (.lst (.of hv) hd) r2
    exact SeqAt.notIn_list_reads w2 w1 c1 a2 room ⟨.bl _, H, I, rfl, q⟩
  · obtain ⟨bs, w2⟩ := Dp.reads I _ _ u (.tup hv hd) r2
    exact SeqAt.notIn_tuple_reads w2 w1 c1 a2 room ⟨.bl _, H, I, rfl, q⟩
theorem sign_mem (c : Nat) (z : List Nat) : decide (c ∈ (sOf z).cps.toList) = decide (c ∈ z) := by simp
theorem memS_cases {S : Store} {x y : D} {b : Bool} (h : memS S x y = some b) :
    (∃ c z, x = .str [c] ∧ y = .str z ∧ b = decide (c ∈ z)) ∨ (∃ t ks vs k, asDk S y = some (t, ks, vs) ∧ asKey x = some k ∧ k.fits t = true ∧ b = (dLook k ks vs).isSome) ∨
      ∃ ys, asSq S y = some ys ∧ okd 12 (top S x) = true ∧ ys.all (okd 12) = true ∧ b = ys.any fun z => PyData.eqv (py z) (py (top S x)) := by
  unfold memS at h
  split at h
  · cases h
    exact .inl ⟨_, _, rfl, rfl, rfl⟩
  · split at h
    · split at h
      · split at h
        · cases h
          exact .inr (.inl ⟨_, _, _, _, by assumption, by assumption, by assumption, rfl⟩)
        · cases h
      · cases h
    · split at h
      · split at h
        · rename_i hc
          simp only [Bool.and_eq_true] at hc
          cases h
          exact .inr (.inr ⟨_, by assumption, hc.1, hc.2, rfl⟩)
        · cases h
      · cases h
theorem cmpr_in (hu : X.A.units + 64 < cLine) : OpR X (compareOp .In) (rB (cmpS .mem)) := by
  refine OpR.imp (op_in_sign.or ((op_din (by omega)).or (op_inSq hu))) fun x y H Q h => ?_
  obtain ⟨M, Λ, S, d, e, b, R, rx, ry, h, q⟩ := h
  rcases memS_cases h with ⟨c, z, rfl, rfl, rfl⟩ | ⟨t, ks, vs, k, h1, h2, h3, rfl⟩ | ⟨ys, h1, h2, h3, rfl⟩
  · obtain ⟨_, rfl⟩ := okS_of rx
    obtain ⟨_, rfl⟩ := okS_of ry
    exact .inl ⟨c, _, rfl, rfl, by rw [sign_mem]; exact q⟩
  · obtain ⟨a, rfl, D0⟩ := asDk_rv R ry h1
    rcases dget_rv D0 rx h2 h3 with ⟨q1, q2⟩ | ⟨d', v', q1, q2, _⟩
    · rw [q1] at q
      exact .inr (.inl ⟨a, _, rfl, q2, q⟩)
    · rw [q1] at q
      exact .inr (.inl ⟨a, _, rfl, q2, q⟩)
  · exact .inr (.inr ⟨M, Λ, S, d, e, ys, R, rx, ry, h1, h2, h3, q⟩)
theorem cmpr_nin (hu : X.A.units + 64 < cLine) : OpR X (compareOp .NotIn) (rB (cmpS .nmem)) := by
  refine OpR.imp (op_notIn_sign.or ((op_dnin (by omega)).or (op_ninSq hu))) fun x y H Q h => ?_
  obtain ⟨M, Λ, S, d, e, b, R, rx, ry, h, q⟩ := h
  simp only [cmpS, Option.map_eq_some_iff] at h
  obtain ⟨b', h, rfl⟩ := h
  rcases memS_cases h with ⟨c, z, rfl, rfl, rfl⟩ | ⟨t, ks, vs, k, h1, h2, h3, rfl⟩ | ⟨ys, h1, h2, h3, rfl⟩
  · obtain ⟨_, rfl⟩ := okS_of rx
    obtain ⟨_, rfl⟩ := okS_of ry
    exact .inl ⟨c, _, rfl, rfl, by rw [sign_mem]; exact q⟩
  · obtain ⟨a, rfl, D0⟩ := asDk_rv R ry h1
    rcases dget_rv D0 rx h2 h3 with ⟨q1, q2⟩ | ⟨d', v', q1, q2, _⟩
    · rw [q1] at q
      exact .inr (.inl ⟨a, _, rfl, q2, q⟩)
    · rw [q1] at q
      exact .inr (.inl ⟨a, _, rfl, q2, q⟩)
  · exact .inr (.inr ⟨M, Λ, S, d, e, ys, R, rx, ry, h1, h2, h3, q⟩)
def astCmp : Cmp → CmpOp
  | .eq => .Eq
  | .ne => .NotEq
  | .lt => .Lt
  | .le => .LtE
  | .gt => .Gt
  | .ge => .GtE
  | .isN => .Is
  | .notN => .IsNot
  | .mem => .In
  | .nmem => .NotIn
theorem cmpr (hu : X.A.units + 64 < cLine) : ∀ o : Cmp, OpR X (compareOp (astCmp o)) (rB (cmpS o))
  | .eq => cmpr_eq hu
  | .ne => cmpr_ne hu
  | .lt => cmpr_lt hu
  | .le => cmpr_le hu
  | .gt => cmpr_gt hu
  | .ge => cmpr_ge hu
  | .isN => cmpr_is
  | .notN => cmpr_isn
  | .mem => cmpr_in hu
  | .nmem => cmpr_nin hu
end
end Pd

/-! Pd5: subscripts, slices, built-in functions, methods. -/
namespace Pd
open PySem PySem.Spec PyProof.Rows L2

section
variable {M : Addr → Prop} {Λ : List Addr} {H : Hp} {S : Store} {d : D} {v : V} {Q : VK} {X : Cx}
theorem IxR.imp {X : Cx} {r r' : R2} (h : IxR X r) (i : ∀ x y H Q, r' x y H Q → r x y H Q) : IxR X r' :=
  fun value slice pins s σ H x y v u Q I r1 r2 q e => h value slice pins s σ H x y v u Q I r1 r2 (i x y H Q q) e
theorem SlR.imp {X : Cx} {r r' : V → Option Int → Option Int → Hp → VK → Prop} (h : L2.SlR X r) (i : ∀ x lo hi H Q, r' x lo hi H Q → r x lo hi H Q) : L2.SlR X r' :=
  fun pins s σ H x v vl vu lo hi sl Q I r1 hs p1 p2 q => h pins s σ H x v vl vu lo hi sl Q I r1 hs p1 p2 (i x lo hi H Q q)
theorem MtR.imp {X : Cx} {id : String} {r r' : V → List V → Hp → VK → Prop} (h : MtR X id r) (i : ∀ x xs H Q, r' x xs H Q → r x xs H Q) : MtR X id r' :=
  fun pins s σ H x xs v us Q I r1 r2 q => h pins s σ H x xs v us Q I r1 r2 (i x xs H Q q)
theorem ix_dict (hu : X.A.units + 1 < cLine) : IxR X (fun x y H Q => ∃ a v, x = .ref a ∧ DGet H a y (some v) ∧ Q v H) := fun value slice pins s σ H x y v u Q I r1 r2 ⟨a, w, ex, g, q⟩ hs => by
  subst ex
  obtain rfl : v = Value.ref a := r1
  exact tail_any (dict_typeIs I g) PySem.F.slot_dict_getitem.lookup (d_getItem hu I g r2 fun w' s3 I3 rw' => ⟨w, H, I3, rw', q⟩) hs
theorem RVs.at {xs : List D} {vs : List V} (r : RVs M Λ H xs vs) {i : Int} {c : D} (h : atI xs i = some c) : ∃ v, atI vs i = some v ∧ RV M Λ H c v := by
  unfold atI at h ⊢
  rw [r.length] at h
  cases e : ixN vs.length i with
  | none => rw [e] at h; cases h
  | some j =>
    rw [e] at h
    obtain ⟨v, h1, h2⟩ := r.get (show xs[j]? = some c from h)
    exact ⟨v, h1, h2⟩
theorem atI_mem {α : Type} {xs : List α} {i : Int} {c : α} (h : atI xs i = some c) : c ∈ xs := by
  unfold atI at h
  cases e : ixN xs.length i with
  | none => rw [e] at h; cases h
  | some j => rw [e] at h; exact List.mem_of_getElem? (show xs[j]? = some c from h)
def rItem : R2 := fun x y H Q => ∃ M Λ S d e c, RelS M Λ S H ∧ RV M Λ H d x ∧ RV M Λ H e y ∧ itemS d e S = some c ∧ ∀ v, RV M Λ H c v → Q v H
theorem itemR (hu : X.A.units + 64 < cLine) : IxR X rItem := by
  refine IxR.imp ((ix_str (X := X)).or ((ix_tup (X := X)).or ((ix_list (X := X)).or (ix_dict (X := X) (by omega))))) fun x y H Q h => ?_
  obtain ⟨M, Λ, S, d, e, c, R, rx, ry, h, q⟩ := h
  unfold itemS at h
  split at h
  · obtain ⟨k, rfl⟩ := okS_of rx
    cases int_of ry
    split at h
    · rename_i hz
      simp only [Option.map_eq_some_iff] at h
      obtain ⟨c, h, rfl⟩ := h
      refine .inl ⟨_, _, c, rfl, rfl, ?_, by simpa using h, q _ (.str (c := [c]) fun x hx => ?_)⟩
      · rw [len_sOf, ← line_eq]; exact hz
      · rw [List.mem_singleton.mp hx]
        exact k c (atI_mem h)
    · cases h
  · obtain ⟨a, vs, rfl, e1, r⟩ := tup_of rx
    cases int_of ry
    obtain ⟨v, h1, h2⟩ := r.at h
    exact .inr (.inl ⟨a, vs, _, v, rfl, rfl, .of e1, h1, q v h2⟩)
  · split at h
    · have e1 := ‹asL S d = some _›
      obtain ⟨a, vs, rfl, e2, r⟩ := asL_rv R rx e1
      cases int_of ry
      obtain ⟨v, h1, h2⟩ := r.at h
      exact .inr (.inr (.inl ⟨a, vs, _, v, rfl, rfl, .of e2, h1, q v h2⟩))
    · split at h
      · rename_i t ks vs k h1 h2
        split at h
        · rename_i hf
          obtain ⟨a, rfl, D0⟩ := asDk_rv R rx h1
          rcases dget_rv D0 ry h2 hf with ⟨q1, q2⟩ | ⟨d', v', q1, q2, q3⟩
          · rw [q1] at h; cases h
          · rw [q1] at h
            cases h
            exact .inr (.inr (.inr ⟨a, v', rfl, q2, q v' q3⟩))
        · cases h
      · cases h

/-! ### slices -/
theorem RVs.cut {xs : List D} {vs : List V} (r : RVs M Λ H xs vs) (lo hi : Option Int) : RVs M Λ H (cutL xs lo hi) (cutV vs lo hi) := by
  unfold cutL cutV
  rw [r.length]
  exact (r.drop _).take _
theorem cutL_whole {α : Type} (xs : List α) (lo hi : Option Int) (h : HT.sIx xs.length 0 lo = 0 ∧ HT.sIx xs.length xs.length hi = xs.length) : cutL xs lo hi = xs := by
  unfold cutL
  rw [h.1, h.2]
  simp
def rSlc : V → Option Int → Option Int → Hp → VK → Prop := fun x lo hi H Q => ∃ M Λ S d r, RelS M Λ S H ∧ RV M Λ H d x ∧ slcS d lo hi S = some r ∧ PRk M Λ r H Q
theorem ints_rv : ∀ ns : List Int, RVs M Λ H (ns.map D.int) (ns.map V.int)
  | [] => .nil
  | n :: ns => .cons (.int n) (ints_rv ns)
theorem cutV_ints (ns : List Int) (lo hi : Option Int) : cutV (ns.map V.int) lo hi = (cutL ns lo hi).map V.int := by
  unfold cutV cutL
  rw [List.length_map, List.map_take, List.map_drop]
theorem slcR : L2.SlR X rSlc := by
  refine SlR.imp ((sl_str (X := X)).or ((sl_tupA (X := X)).or (sl_list (X := X)))) fun x lo hi H Q h => ?_
  obtain ⟨M, Λ, S, d, r, R, rx, h, k⟩ := h
  unfold slcS at h
  split at h
  · obtain ⟨k1, rfl⟩ := okS_of rx
    split at h
    · rename_i z hz
      cases h
      refine .inl ⟨_, rfl, by rw [len_sOf, ← line_eq]; exact hz, ?_⟩
      have e : cutS (sOf z) lo hi = sOf (cutL z lo hi) := by
        unfold cutS cutL
        rw [len_sOf]
      rw [e]
      exact k.val_same (.str fun x hx => k1 x (List.mem_of_mem_drop (List.mem_of_mem_take hx)))
    · cases h
  · rename_i xs
    obtain ⟨a, vs, rfl, e1, r⟩ := tup_of rx
    cases h
    refine .inr (.inl ⟨a, vs, rfl, .of e1, fun hw => ?_, fun _ p hp => ?_⟩)
    · rw [← r.length] at hw
      rw [cutL_whole xs lo hi hw] at k
      exact k.val_same (.tup e1 r)
    · exact k.tup R (r.cut lo hi) hp
  · obtain ⟨a, rfl, e1⟩ := scr_of (K := X.K) rx
    cases h
    refine .inr (.inr ⟨a, _, rfl, e1, fun p hp => ?_⟩)
    rw [cutV_ints]
    exact k.new_same hp (.lst (ints_rv _))
  · simp only [Option.map_eq_some_iff] at h
    obtain ⟨xs, h, rfl⟩ := h
    obtain ⟨a, vs, rfl, e2, r⟩ := asL_rv R rx h
    exact .inr (.inr ⟨a, vs, rfl, .of e2, fun p hp => k.new_same hp (.lst (r.cut lo hi))⟩)

/-! ### o[i] = v -/
def rSet : TSet := fun o i v H Q => ∃ M Λ S x y d S', RelS M Λ S H ∧ RV M Λ H x o ∧ RV M Λ H y i ∧ RV M Λ H d v ∧ setS x y d S = some S' ∧ ∀ H', RelS M Λ S' H' → Step Λ H Λ H' → Q H'
theorem PSet.or {X : Cx} {t t' : TSet} (h : PSet X t) (h' : PSet X t') : PSet X (fun o i v H Q => t o i v H Q ∨ t' o i v H Q) :=
  fun pins s σ H o i v ov iv u Q I r1 r2 r3 q => q.elim (h pins s σ H o i v ov iv u Q I r1 r2 r3) (h' pins s σ H o i v ov iv u Q I r1 r2 r3)
theorem PSet.imp {X : Cx} {t t' : TSet} (h : PSet X t) (i : ∀ o k v H Q, t' o k v H Q → t o k v H Q) : PSet X t' :=
  fun pins s σ H o k v ov iv u Q I r1 r2 r3 q => h pins s σ H o k v ov iv u Q I r1 r2 r3 (i o k v H Q q)
theorem KK_any {k : DK} {kk : Key} (hk : dkK k = some kk) : ∀ {ks : List DK} {kvs : List (Key × V)}, KK ks (kvs.map (·.1)) → ks.any (fun j => decide (j = k)) = kvs.any (fun kv => decide (kv.1 = kk))
  | [], [], _ => rfl
  | [], _ :: _, h => by simp only [List.map_cons] at h; cases h
  | _ :: _, [], h => by cases h
  | j :: js, (q, u) :: kvs, h => by
    simp only [List.map_cons] at h
    have hq : dkK j = some q ∧ KK js (kvs.map (·.1)) := by
      cases h with
      | i h => exact ⟨rfl, h⟩
      | s _ h => exact ⟨rfl, h⟩
    rw [List.any_cons, List.any_cons, KK_any hk hq.2]
    congr 1
    by_cases e : j = k
    · subst e
      have e2 : kk = q := Option.some.inj (hk.symm.trans hq.1)
      simp [e2]
    · have hne : ¬ q = kk := fun z => e (by
        subst z
        have h3 := hq.1.trans hk.symm
        cases j <;> cases k <;> simp only [dkK, Option.some.injEq, Sum.inl.injEq, Sum.inr.injEq, reduceCtorEq] at h3
        · rw [h3]
        · rw [sOf_inj h3]
        · simp [dkK] at hk)
      simp [e, hne]
theorem KT_any {l : List (Int ⊕ List Nat)} : ∀ {ks : List DK} {kvs : List (List Key × V)}, KT ks (kvs.map (·.1)) → ks.any (fun j => decide (j = .t l)) = kvs.any (fun kv => decide (kv.1 = l.map keyS))
  | [], [], _ => rfl
  | [], _ :: _, h => by simp only [List.map_cons] at h; cases h
  | _ :: _, [], h => by cases h
  | j :: js, (q, u) :: kvs, h => by
    simp only [List.map_cons] at h
    cases h with
    | @t m _ _ hm h =>
      rw [List.any_cons, List.any_cons, KT_any h]
      congr 1
      by_cases e : m = l
      · simp [e]
      · have hne : ¬ m.map keyS = l.map keyS := fun z => e (map_keyS_inj z)
        simp [e, hne]
theorem KK_putV {k : DK} {kk : Key} {d : D} {v : V} (hk : dkK k = some kk) (rd : RV M Λ H d v) : ∀ {ks : List DK} {kvs : List (Key × V)} {ds : List D}, KK ks (kvs.map (·.1)) → RVs M Λ H ds (kvs.map (·.2)) →
    RVs M Λ H (dPutV k d ks ds) ((kvs.map fun kv => if kv.1 = kk then (kv.1, v) else kv).map (·.2))
  | [], [], ds, _, r => by cases r; exact .nil
  | [], _ :: _, ds, h, r => by simp only [List.map_cons] at h; cases h
  | _ :: _, [], ds, h, r => by cases h
  | j :: js, (q, u) :: kvs, ds, h, r => by
    simp only [List.map_cons] at h r
    cases r with
    | cons ru rr =>
      have hq : dkK j = some q ∧ KK js (kvs.map (·.1)) := by
        cases h with
        | i h => exact ⟨rfl, h⟩
        | s _ h => exact ⟨rfl, h⟩
      have ih := KK_putV hk rd hq.2 rr
      by_cases e : j = k
      · subst e
        have e2 : kk = q := Option.some.inj (hk.symm.trans hq.1)
        subst e2
        simp only [dPutV, List.map_cons, if_true]
        exact .cons rd ih
      · have hne : ¬ q = kk := fun z => e (by
          subst z
          have h3 := hq.1.trans hk.symm
          cases j <;> cases k <;> simp only [dkK, Option.some.injEq, Sum.inl.injEq, Sum.inr.injEq, reduceCtorEq] at h3
          · rw [h3]
          · rw [sOf_inj h3]
          · simp [dkK] at hk)
        simp only [dPutV, List.map_cons, e, hne, if_false]
        exact .cons ru ih
theorem KT_putV {l : List (Int ⊕ List Nat)} {d : D} {v : V} (rd : RV M Λ H d v) : ∀ {ks : List DK} {kvs : List (List Key × V)} {ds : List D}, KT ks (kvs.map (·.1)) → RVs M Λ H ds (kvs.map (·.2)) →
    RVs M Λ H (dPutV (.t l) d ks ds) ((kvs.map fun kv => if kv.1 = l.map keyS then (kv.1, v) else kv).map (·.2))
  | [], [], ds, _, r => by cases r; exact .nil
  | [], _ :: _, ds, h, r => by simp only [List.map_cons] at h; cases h
  | _ :: _, [], ds, h, r => by cases h
  | j :: js, (q, u) :: kvs, ds, h, r => by
    simp only [List.map_cons] at h r
    cases r with
    | cons ru rr =>
      cases h with
      | @t m _ _ hm h =>
        have ih := KT_putV (l := l) rd h rr
        by_cases e : m = l
        · subst e
          simp only [dPutV, List.map_cons, if_true]
          exact .cons rd ih
        · have hne : ¬ m.map keyS = l.map keyS := fun z => e (map_keyS_inj z)
          have hne2 : ¬ DK.t m = DK.t l := fun z => e (DK.t.inj z)
          simp only [dPutV, List.map_cons, hne2, hne, if_false]
          exact .cons ru ih
theorem map_fst_put {κ : Type} [DecidableEq κ] (kk : κ) (v : V) (kvs : List (κ × V)) : (kvs.map fun kv => if kv.1 = kk then (kv.1, v) else kv).map (·.1) = kvs.map (·.1) := by
  rw [List.map_map]
  apply List.map_congr_left
  intro kv _
  show (if kv.1 = kk then (kv.1, v) else kv).1 = kv.1
  split <;> rfl
theorem KK.len : ∀ {ks : List DK} {js : List Key}, KK ks js → ks.length = js.length
  | _, _, .nil => rfl
  | _, _, .i h => by rw [List.length_cons, List.length_cons, KK.len h]
  | _, _, .s _ h => by rw [List.length_cons, List.length_cons, KK.len h]
theorem KT.len : ∀ {ks : List DK} {js : List (List Key)}, KT ks js → ks.length = js.length
  | _, _, .nil => rfl
  | _, _, .t _ h => by rw [List.length_cons, List.length_cons, KT.len h]
theorem KK.snoc {k : DK} {kk : Key} (hk : KK [k] [kk]) : ∀ {ks : List DK} {js : List Key}, KK ks js → KK (ks ++ [k]) (js ++ [kk])
  | _, _, .nil => hk
  | _, _, .i h => .i (KK.snoc hk h)
  | _, _, .s o h => .s o (KK.snoc hk h)
theorem KT.snoc {l : List (Int ⊕ List Nat)} (hk : ∀ x ∈ l, okK x) : ∀ {ks : List DK} {js : List (List Key)}, KT ks js → KT (ks ++ [.t l]) (js ++ [l.map keyS])
  | _, _, .nil => .t hk .nil
  | _, _, .t o h => .t o (KT.snoc hk h)
/-- a dict with one more pair, or one changed -/
theorem dput_rv {a : Addr} {t : Bool} {ks : List DK} {ds : List D} {k : DK} {e d : D} {y v : V} {ho0 : HO} (e0 : H a = some ho0) (D0 : RO M Λ H (.dv t ks ds) ho0) (ry : RV M Λ H e y) (rd : RV M Λ H d v) (hk : asKey e = some k) (hf : k.fits t = true) (hl : ks.length < line) :
    ∃ ho, DPut H a y v (upd H a ho) ∧ RO M Λ H (.dv t (dPut k d ks ds).1 (dPut k d ks ds).2) ho := by
  have D1 : (t = false ∧ ∃ kvs, H a = some (.dK kvs) ∧ KK ks (kvs.map (·.1)) ∧ RVs M Λ H ds (kvs.map (·.2))) ∨ (t = true ∧ ∃ kvs, H a = some (.dT kvs) ∧ KT ks (kvs.map (·.1)) ∧ RVs M Λ H ds (kvs.map (·.2))) := by
    cases D0 with
    | dK k r => exact .inl ⟨rfl, _, e0, k, r⟩
    | dT k r => exact .inr ⟨rfl, _, e0, k, r⟩
  rcases D1 with ⟨rfl, kvs, e1, hK, r⟩ | ⟨rfl, kvs, e1, hK, r⟩
  · have hh : ∃ kk, dkK k = some kk ∧ y = kV kk ∧ KK [k] [kk] := by
      cases e <;> simp only [asKey, Option.some.injEq, reduceCtorEq, Option.map_eq_some_iff] at hk
      · subst hk; exact ⟨_, rfl, int_of ry, .i .nil⟩
      · subst hk; exact ⟨_, rfl, (okS_of ry).2, .s (okS_of ry).1 .nil⟩
      · obtain ⟨l, _, rfl⟩ := hk
        simp [DK.fits, DK.flat] at hf
    obtain ⟨kk, h1, rfl, h3⟩ := hh
    have hl2 : kvs.length < sizeLine := by
      have := hK.len
      rw [List.length_map] at this
      rw [← this, ← line_eq]; exact hl
    refine ⟨.dK (putK kvs kk v), .inl ⟨kvs, kk, e1, rfl, hl2, rfl⟩, ?_⟩
    unfold dPut putK
    rw [KK_any h1 hK]
    split
    · exact .dK (by rw [map_fst_put]; exact hK) (KK_putV h1 rd hK r)
    · refine .dK ?_ ?_
      · rw [List.map_append]; exact KK.snoc h3 hK
      · rw [List.map_append]; exact r.append (.cons rd .nil)
  · cases e <;> simp only [asKey, Option.some.injEq, reduceCtorEq, Option.map_eq_some_iff] at hk
    · subst hk; simp [DK.fits, DK.flat] at hf
    · subst hk; simp [DK.fits, DK.flat] at hf
    · obtain ⟨l, h, rfl⟩ := hk
      obtain ⟨b, vs, rfl, eb, rv⟩ := tup_of ry
      obtain ⟨rfl, ok⟩ := keyItems_rv rv h
      have hl2 : kvs.length < sizeLine := by
        have := hK.len
        rw [List.length_map] at this
        rw [← this, ← line_eq]; exact hl
      refine ⟨.dT (putK kvs (l.map keyS) v), .inr ⟨kvs, _, b, e1, rfl, eb, hl2, rfl⟩, ?_⟩
      unfold dPut putK
      rw [KT_any hK]
      split
      · exact .dT (by rw [map_fst_put]; exact hK) (KT_putV rd hK r)
      · refine .dT ?_ ?_
        · rw [List.map_append]; exact hK.snoc ok
        · rw [List.map_append]; exact r.append (.cons rd .nil)
theorem ref_of {l : Nat} {v : V} (h : RV M Λ H (.ref l) v) : ∃ a, v = .ref a ∧ Λ[l]? = some a := by
  cases h with
  | ref h => exact ⟨_, rfl, h⟩
theorem setR (hu : X.A.units + 64 < cLine) : PSet X rSet := by
  refine PSet.imp (PSet.or (set_list (X := X)) (set_dict (X := X) (by omega))) fun o i v H Q h => ?_
  obtain ⟨M, Λ, S, x, y, d, S', R, rx, ry, rd, h, q⟩ := h
  unfold setS at h
  split at h <;> first | contradiction | skip
  obtain ⟨a, rfl, el⟩ := ref_of rx
  split at h <;> first | contradiction | skip
  · rename_i xs eS
    obtain ⟨ho, e1, r⟩ := R.st _ _ _ eS el
    cases r with
    | lst r =>
      split at h <;> first | contradiction | skip
      cases int_of ry
      simp only [Option.map_eq_some_iff] at h
      obtain ⟨n, h, rfl⟩ := h
      rename_i vs _
      have w := write R el (RO.lst (RVs.set rd n r)) (fun o u z => by rw [e1] at z; cases z)
      exact .inl ⟨a, _, _, n, rfl, rfl, e1, by rw [← r.length]; exact h, q _ w.1 w.2⟩
  · rename_i t ks vs eS
    obtain ⟨ho, e1, r⟩ := R.st _ _ _ eS el
    split at h <;> first | contradiction | skip
    split at h <;> first | contradiction | skip
    rename_i k hk hc
    simp only [Bool.and_eq_true, decide_eq_true_eq] at hc
    cases h
    obtain ⟨ho', p1, p2⟩ := dput_rv e1 r ry rd hk hc.1 hc.2
    have w := write R el p2 (fun o u z => by rw [e1] at z; cases z; cases r)
    exact .inr ⟨a, _, rfl, p1, q _ w.1 w.2⟩
end
end Pd

/-! Pd6: built-in functions. -/
namespace Pd
open PySem PySem.Spec PyProof.Rows L2

section
variable {M : Addr → Prop} {Λ : List Addr} {H : Hp} {S : Store} {d : D} {v : V} {Q : VK} {X : Cx}
theorem rvs1 {d : D} {vs : List V} (h : RVs M Λ H [d] vs) : ∃ v, vs = [v] ∧ RV M Λ H d v := by
  cases h with
  | cons h t => cases t; exact ⟨_, rfl, h⟩
theorem rvs2 {d e : D} {vs : List V} (h : RVs M Λ H [d, e] vs) : ∃ v u, vs = [v, u] ∧ RV M Λ H d v ∧ RV M Λ H e u := by
  cases h with
  | cons h t =>
    obtain ⟨u, rfl, r⟩ := rvs1 t
    exact ⟨_, u, rfl, h, r⟩
theorem call_lenRd : CallR X (.builtin "len") (fun xs H Q => ∃ a, xs = [V.ref a] ∧ ((∃ kvs, Rd H a (.dK kvs) ∧ Q (.int kvs.length) H) ∨ ∃ kvs, Rd H a (.dT kvs) ∧ Q (.int kvs.length) H)) := by
  intro pins s σ H xs us Q I r h
  obtain ⟨a, rfl, h⟩ := h
  obtain ⟨u, rfl, ru⟩ := vals1 r
  cases ru
  rcases h with ⟨kvs, ha, q⟩ | ⟨kvs, ha, q⟩
  · exact d_len I ha fun t s' I' => ⟨.int kvs.length, H, I', ⟨t, rfl⟩, q⟩
  · obtain ⟨z, hd, ys, rel, dd⟩ := dt_rd I.hok ha
    have hl : kvs.length = ys.length := Paired.length rel
    refine call_len_dictH hd dd (by rw [← hl]; rw [sizeLine_eq] at z; omega) ?_
    rw [← hl]
    exact ⟨.int ((kvs.length : Nat) : Int), H, I.tok _, ⟨_, rfl⟩, q⟩
theorem call_len_scr : CallR X (.builtin "len") (fun xs H Q => ∃ p ys, xs = [.ref p] ∧ SqL X.K H p ys ∧ Q (.int ys.length) H) :=
  CallR.imp call_len_seq fun xs H Q ⟨p, ys, e, h, q⟩ => ⟨p, ys, e, .inl h, q⟩
theorem lenD_rv (R : RelS M Λ S H) (h : RV M Λ H d v) {n : Nat} (e : lenD S d = some n) : ∃ a, v = .ref a ∧ ((∃ kvs, Rd H a (.dK kvs) ∧ kvs.length = n) ∨ ∃ kvs, Rd H a (.dT kvs) ∧ kvs.length = n) := by
  cases h with
  | @dct a o _ _ _ ho e1 _ _ r =>
    cases r with
    | dK k r =>
      simp only [lenD, Option.some.injEq] at e
      have := k.len
      rw [List.length_map] at this
      exact ⟨a, rfl, .inl ⟨_, .inr ⟨o, e1⟩, by rw [← this]; exact e⟩⟩
    | dT _ _ => simp [lenD] at e
  | @ref l a e1 =>
    simp only [lenD] at e
    split at e
    · rename_i q
      obtain ⟨ho, e2, r⟩ := R.st _ _ _ q e1
      simp only [Option.some.injEq] at e
      cases r with
      | dK k r =>
        have := k.len
        rw [List.length_map] at this
        exact ⟨a, rfl, .inl ⟨_, .inl e2, by rw [← this]; exact e⟩⟩
      | dT k r =>
        have := k.len
        rw [List.length_map] at this
        exact ⟨a, rfl, .inr ⟨_, .inl e2, by rw [← this]; exact e⟩⟩
    · rename_i q
      obtain ⟨ho, e2, r⟩ := R.st _ _ _ q e1
      simp only [Option.some.injEq] at e
      cases r with
      | lk r =>
        cases r with
        | dK k r =>
          have := k.len
          rw [List.length_map] at this
          exact ⟨a, rfl, .inl ⟨_, .inr ⟨_, e2⟩, by rw [← this]; exact e⟩⟩
        | dT k r =>
          have := k.len
          rw [List.length_map] at this
          exact ⟨a, rfl, .inr ⟨_, .inr ⟨_, e2⟩, by rw [← this]; exact e⟩⟩
    · cases e
  | _ => simp [lenD] at e
theorem bltr_len : CallR X (.builtin "len") (rPs (bltS .len)) := by
  refine CallR.imp (CallR.or call_len_str (CallR.or call_len_seq call_lenRd)) fun xs H Q h => ?_
  obtain ⟨M, Λ, S, ds, r, R, rs, h, k⟩ := h
  unfold bltS at h
  split at h <;> first | contradiction | skip
  obtain ⟨v, rfl, rx⟩ := rvs1 rs
  split at h
  · obtain ⟨k1, rfl⟩ := okS_of rx
    split at h
    · rename_i hz
      cases h
      refine .inl ⟨_, rfl, by rw [len_sOf, ← line_eq]; exact hz, ?_⟩
      rw [len_sOf]
      exact k.val_same (.int _)
    · cases h
  · obtain ⟨a, rfl, e⟩ := scr_of (K := X.K) rx
    cases h
    refine .inr (.inl ⟨a, _, rfl, .inl e, ?_⟩)
    rw [List.length_map]
    exact k.val_same (.int _)
  · split at h
    · have e1 := ‹asSq _ _ = some _›
      obtain ⟨a, vs, rfl, e2, r⟩ := asSq_rv (K := X.K) R rx e1
      cases h
      refine .inr (.inl ⟨a, vs, rfl, e2.elim (fun z => .inl (.of z)) .inr, ?_⟩)
      rw [← r.length]
      exact k.val_same (.int _)
    · simp only [Option.map_eq_some_iff] at h
      obtain ⟨n, e1, rfl⟩ := h
      obtain ⟨a, rfl, e⟩ := lenD_rv R rx e1
      rcases e with ⟨kvs, e2, rfl⟩ | ⟨kvs, e2, rfl⟩
      · exact .inr (.inr ⟨a, rfl, .inl ⟨kvs, e2, k.val_same (.int _)⟩⟩)
      · exact .inr (.inr ⟨a, rfl, .inr ⟨kvs, e2, k.val_same (.int _)⟩⟩)
theorem bltr_abs : CallR X (.builtin "abs") (rPs (bltS .abs)) := by
  refine CallR.imp call_abs fun xs H Q h => ?_
  obtain ⟨M, Λ, S, ds, r, R, rs, h, k⟩ := h
  unfold bltS at h
  split at h <;> first | contradiction | skip
  obtain ⟨v, rfl, rx⟩ := rvs1 rs
  cases int_of rx
  cases h
  exact ⟨_, rfl, k.val_same (.int _)⟩
theorem bltr_int : CallR X (.type "int") (rPs (bltS .int)) := by
  refine CallR.imp call_int1 fun xs H Q h => ?_
  obtain ⟨M, Λ, S, ds, r, R, rs, h, k⟩ := h
  unfold bltS at h
  split at h <;> first | contradiction | skip
  · obtain ⟨v, rfl, rx⟩ := rvs1 rs
    cases int_of rx
    cases h
    exact .inl ⟨_, rfl, k.val_same (.int _)⟩
  · obtain ⟨v, rfl, rx⟩ := rvs1 rs
    cases bl_of rx
    cases h
    exact .inr ⟨_, rfl, k.val_same (.int _)⟩
theorem signs_rv : ∀ {c : List Nat}, okS c → RVs M Λ H (c.map fun c => D.str [c]) (c.map fun c => V.str ⟨#[c]⟩)
  | [], _ => .nil
  | x :: c, h => .cons (.str (c := [x]) fun y hy => by rw [List.mem_singleton.mp hy]; exact h x List.mem_cons_self) (signs_rv fun y hy => h y (List.mem_cons_of_mem _ hy))
theorem call_list_text (hc : X.calm = true) : CallR X (.type "list") (fun xs H Q => ∃ z, xs = [.str z] ∧ z.length ≤ sizeLine ∧ ∀ l, H l = none → Q (.ref l) (upd H l (.lst (z.cps.toList.map fun c => V.str ⟨#[c]⟩)))) := by
  intro pins s σ H xs us Q I r h
  obtain ⟨z, rfl, hz, q⟩ := h
  obtain ⟨u, rfl, rx⟩ := vals1 r
  obtain ⟨t, rfl⟩ := rx
  refine call_list_str (I.ok.hd hc) z t (fun h' tk acc' c' hk hS hacc => ?_) hz
  refine ⟨.ref s.heap.objs.size, _, I.laid (t' := tk) hk (Nat.le_refl _) (show ObjOk X.prog X.w _ h' _ (.lst (z.cps.toList.map fun c => V.str ⟨#[c]⟩)) from ⟨?_, acc'.toList, c', ?_, ?_⟩), rfl, q _ (I.hok.fresh (Nat.le_refl _))⟩
  · rw [List.length_map, Array.length_toList]; exact hz
  · have hsz : acc'.size = z.cps.size := hacc.1
    refine vals_of_at (by rw [List.length_map, Array.length_toList, Array.length_toList]; exact hsz.symm) fun j x u e1 e2 => ?_
    rw [List.getElem?_map] at e1
    cases e3 : z.cps.toList[j]? with
    | none => rw [e3] at e1; cases e1
    | some c =>
      rw [e3] at e1
      cases e1
      obtain ⟨c', t', h1, h2⟩ := hacc.2 j u (by simpa using e2)
      have h3 : z.cps[j]? = some c := by simpa using e3
      rw [h3] at h1
      cases h1
      exact ⟨t', h2⟩
  · rw [Array.toArray_toList]; exact hS

theorem bltr_tuple : CallR X (.type "tuple") (rPs (bltS .tuple)) := by
  refine CallR.imp call_tuple_of fun xs H Q h => ?_
  obtain ⟨M, Λ, S, ds, r, R, rs, h, k⟩ := h
  unfold bltS at h
  split at h <;> first | contradiction | skip
  obtain ⟨v, rfl, rx⟩ := rvs1 rs
  simp only [Option.map_eq_some_iff] at h
  obtain ⟨xs, h, rfl⟩ := h
  rename_i d _
  have hh : (∃ a vs, v = .ref a ∧ H a = some (.tup vs) ∧ RVs M Λ H xs vs) ∨ ∃ a vs, v = .ref a ∧ H a = some (.lst vs) ∧ RVs M Λ H xs vs := by
    cases d with
    | tup ys =>
      simp only [asSq, Option.some.injEq] at h
      subst h
      obtain ⟨a, vs, q1, q2, q3⟩ := tup_of rx
      exact .inl ⟨a, vs, q1, q2, q3⟩
    | _ => exact .inr (asL_rv R rx (by simpa [asSq] using h))
  rcases hh with ⟨a, vs, rfl, e, r⟩ | ⟨a, vs, rfl, e, r⟩
  · exact ⟨a, vs, rfl, .inr ⟨.of e, k.val_same (.tup e r)⟩⟩
  · exact ⟨a, vs, rfl, .inl ⟨.of e, fun l hl => k.tup R r hl⟩⟩
theorem intsOf_rv : ∀ {xs : List D} {vs : List V} {ns : List Int}, RVs M Λ H xs vs → intsOf xs = some ns → vs = ns.map V.int
  | [], vs, ns, r, h => by
    cases r; cases h; rfl
  | d :: ds, vs, ns, r, h => by
    cases r with
    | cons r rs =>
      unfold intsOf at h
      split at h <;> first | contradiction | skip
      rename_i e
      cases e
      simp only [Option.map_eq_some_iff] at h
      obtain ⟨l, h, rfl⟩ := h
      cases int_of r
      rw [intsOf_rv rs h]
      rfl
theorem boolsOf_rv : ∀ {xs : List D} {vs : List V} {ns : List Bool}, RVs M Λ H xs vs → boolsOf xs = some ns → vs = ns.map V.bl
  | [], vs, ns, r, h => by
    cases r; cases h; rfl
  | d :: ds, vs, ns, r, h => by
    cases r with
    | cons r rs =>
      unfold boolsOf at h
      split at h <;> first | contradiction | skip
      rename_i e
      cases e
      simp only [Option.map_eq_some_iff] at h
      obtain ⟨l, h, rfl⟩ := h
      cases bl_of r
      rw [boolsOf_rv rs h]
      rfl
theorem strsOf_rv : ∀ {xs : List D} {vs : List V} {ns : List (List Nat)}, RVs M Λ H xs vs → strsOf xs = some ns → vs = (ns.map sOf).map V.str ∧ ∀ c ∈ ns, okS c
  | [], vs, ns, r, h => by
    cases r; cases h; exact ⟨rfl, fun _ h => by cases h⟩
  | d :: ds, vs, ns, r, h => by
    cases r with
    | cons r rs =>
      unfold strsOf at h
      split at h <;> first | contradiction | skip
      rename_i e
      cases e
      simp only [Option.map_eq_some_iff] at h
      obtain ⟨l, h, rfl⟩ := h
      obtain ⟨k, rfl⟩ := okS_of r
      obtain ⟨e1, e2⟩ := strsOf_rv rs h
      refine ⟨by rw [e1]; rfl, fun c hc => ?_⟩
      rcases List.mem_cons.mp hc with rfl | hc
      · exact k
      · exact e2 c hc
theorem bltr_sum (hc : X.calm = true) : CallR X (.builtin "sum") (rPs (bltS .sum)) := by
  refine CallR.imp (cr_sum hc) fun xs H Q h => ?_
  obtain ⟨M, Λ, S, ds, r, R, rs, h, k⟩ := h
  unfold bltS at h
  split at h <;> first | contradiction | skip
  obtain ⟨v, rfl, rx⟩ := rvs1 rs
  simp only [Option.bind_eq_some_iff, Option.map_eq_some_iff] at h
  obtain ⟨xs, h, ns, h2, rfl⟩ := h
  obtain ⟨a, vs, rfl, e, r⟩ := asL_rv R rx h
  obtain rfl := intsOf_rv r h2
  exact ⟨a, ns, rfl, .of e, k.val_same (.int _)⟩
theorem bltr_all (hc : X.calm = true) : CallR X (.builtin "all") (rPs (bltS .all)) := by
  refine CallR.imp (cr_all hc) fun xs H Q h => ?_
  obtain ⟨M, Λ, S, ds, r, R, rs, h, k⟩ := h
  unfold bltS at h
  split at h <;> first | contradiction | skip
  obtain ⟨v, rfl, rx⟩ := rvs1 rs
  simp only [Option.bind_eq_some_iff, Option.map_eq_some_iff] at h
  obtain ⟨xs, h, ns, h2, rfl⟩ := h
  obtain ⟨a, vs, rfl, e, r⟩ := asL_rv R rx h
  obtain rfl := boolsOf_rv r h2
  exact ⟨a, ns, rfl, .of e, k.val_same (.bl _)⟩
theorem bltr_any (hc : X.calm = true) : CallR X (.builtin "any") (rPs (bltS .any)) := by
  refine CallR.imp (cr_any hc) fun xs H Q h => ?_
  obtain ⟨M, Λ, S, ds, r, R, rs, h, k⟩ := h
  unfold bltS at h
  split at h <;> first | contradiction | skip
  obtain ⟨v, rfl, rx⟩ := rvs1 rs
  simp only [Option.bind_eq_some_iff, Option.map_eq_some_iff] at h
  obtain ⟨xs, h, ns, h2, rfl⟩ := h
  obtain ⟨a, vs, rfl, e, r⟩ := asL_rv R rx h
  obtain rfl := boolsOf_rv r h2
  exact ⟨a, ns, rfl, .of e, k.val_same (.bl _)⟩

/-! ### order -/
theorem pys_inj {n : Nat} (ih : ∀ a b : D, okd n a = true → okd n b = true → py a = py b → a = b) : ∀ xs ys : List D, xs.all (okd n) = true → ys.all (okd n) = true → pys xs = pys ys → xs = ys
  | [], [], _, _, _ => rfl
  | [], _ :: _, _, _, h => by rw [pys, pys] at h; cases h
  | _ :: _, [], _, _, h => by rw [pys, pys] at h; cases h
  | x :: xs, y :: ys, h1, h2, h => by
    rw [pys, pys] at h
    simp only [List.all_cons, Bool.and_eq_true] at h1 h2
    injection h with e1 e2
    rw [ih x y h1.1 h2.1 e1, pys_inj ih xs ys h1.2 h2.2 e2]
theorem str_inj {a b : List Nat} (h : PyData.str ⟨a.toArray⟩ = PyData.str ⟨b.toArray⟩) : a = b := sOf_inj (PyData.str.inj h)
theorem py_inj : ∀ (n : Nat) (a b : D), okd n a = true → okd n b = true → py a = py b → a = b
  | 0, a, b, h1, h2, h => by
    cases a <;> simp only [okd, reduceCtorEq, Bool.false_eq_true] at h1 <;> cases b <;> simp only [okd, reduceCtorEq, Bool.false_eq_true] at h2 <;> simp only [py, reduceCtorEq, PyData.bool.injEq, PyData.int.injEq] at h
    · rfl
    · rw [h]
    · rw [h]
    · rw [str_inj h]
  | n + 1, a, b, h1, h2, h => by
    cases a <;> simp only [okd, reduceCtorEq, Bool.false_eq_true] at h1 <;> cases b <;> simp only [okd, reduceCtorEq, Bool.false_eq_true] at h2 <;> simp only [py, reduceCtorEq, PyData.bool.injEq, PyData.int.injEq, PyData.tuple.injEq, PyData.list.injEq] at h
    · rfl
    · rw [h]
    · rw [h]
    · rw [str_inj h]
    · rw [pys_inj (py_inj n) _ _ h1 h2 h]
    · rw [pys_inj (py_inj n) _ _ h1 h2 h]
theorem minL_mem : ∀ (xs : List D) (x : D), minL x xs ∈ x :: xs
  | [], x => by simp [minL]
  | y :: ys, x => by
    show List.foldl _ (if _ then y else x) ys ∈ _
    have := minL_mem ys (if PySem.W.dataLt (py y) (py x) = true then y else x)
    unfold minL at this
    rcases List.mem_cons.mp this with e | e
    · rw [e]; split <;> simp
    · exact List.mem_cons_of_mem _ (List.mem_cons_of_mem _ e)
theorem maxL_mem : ∀ (xs : List D) (x : D), maxL x xs ∈ x :: xs
  | [], x => by simp [maxL]
  | y :: ys, x => by
    show List.foldl _ (if _ then y else x) ys ∈ _
    have := maxL_mem ys (if PySem.W.dataLt (py x) (py y) = true then y else x)
    unfold maxL at this
    rcases List.mem_cons.mp this with e | e
    · rw [e]; split <;> simp
    · exact List.mem_cons_of_mem _ (List.mem_cons_of_mem _ e)
theorem minL_py : ∀ (xs : List D) (x : D), PySem.W.minD (py x) (pys xs) = py (minL x xs)
  | [], x => by rw [pys]; rfl
  | y :: ys, x => by
    rw [pys]
    show PySem.W.minD (if _ then py y else py x) (pys ys) = _
    rw [← apply_ite py, minL_py ys]
    rfl
theorem maxL_py : ∀ (xs : List D) (x : D), PySem.W.maxD (py x) (pys xs) = py (maxL x xs)
  | [], x => by rw [pys]; rfl
  | y :: ys, x => by
    rw [pys]
    show PySem.W.maxD (if _ then py y else py x) (pys ys) = _
    rw [← apply_ite py, maxL_py ys]
    rfl
theorem py_none {n : Nat} {d : D} (h : okd n d = true) (k : isNon d = false) : py d ≠ .none := by
  intro e
  cases d <;> simp only [py, reduceCtorEq] at e
  · simp [isNon] at k
  · cases n <;> simp [okd] at h
  · cases n <;> simp [okd] at h
  · cases n <;> simp [okd] at h
  · cases n <;> simp [okd] at h
  · cases n <;> simp [okd] at h
theorem alikeL_all {xs : List D} (h : alikeL xs = true) : (∀ x ∈ xs, okd 12 x = true) ∧ (∀ x ∈ xs, ∀ y ∈ xs, PySem.W.alike (py x) (py y) = true) ∧ ∀ x ∈ xs, py x ≠ .none := by
  unfold alikeL at h
  simp only [Bool.and_eq_true, List.all_eq_true, Bool.not_eq_true'] at h
  exact ⟨h.1, fun x hx => (h.2 x hx).2, fun x hx => py_none (h.1 x hx) (h.2 x hx).1⟩
theorem alikeAll_of {xs : List D} (h : alikeL xs = true) : PySem.W.AlikeAll (pys xs) := by
  obtain ⟨_, h2, h3⟩ := alikeL_all h
  rw [pys_map]
  refine ⟨fun x hx y hy => ?_, fun x hx => ?_⟩
  · obtain ⟨x', hx', rfl⟩ := List.mem_map.mp hx
    obtain ⟨y', hy', rfl⟩ := List.mem_map.mp hy
    exact h2 x' hx' y' hy'
  · obtain ⟨x', hx', rfl⟩ := List.mem_map.mp hx
    exact h3 x' hx'
theorem reads_all {pins : List (Addr × Obj)} {σ : L2.St} {s : Shared} (I : Inv X pins σ H s) {n : Nat} : ∀ {ds : List D} {vs : List V} {us : List Value}, RVs M Λ H ds vs → Vals vs us → (∀ x ∈ ds, okd n x = true) → ∃ as, ReadsAll s.heap us (pys ds) as
  | [], _, _, r, q, _ => by
    cases r; cases q
    rw [pys]
    exact ⟨_, .nil⟩
  | d :: ds, _, _, r, q, k => by
    cases r with
    | cons r rs =>
      cases q with
      | cons q qs =>
        obtain ⟨as, a1⟩ := Dp.reads I _ _ _ (dp_of (K := X.K) n r (k _ List.mem_cons_self)) q
        obtain ⟨bs, a2⟩ := reads_all I rs qs fun x hx => k x (List.mem_cons_of_mem _ hx)
        rw [pys]
        exact ⟨_, .cons a1 a2⟩
theorem RVs.back {ds : List D} {vs : List V} {us : List Value} (r : RVs M Λ H ds vs) (q : Vals vs us) {i : Nat} {u : Value} (h : us[i]? = some u) : ∃ d v, ds[i]? = some d ∧ vs[i]? = some v ∧ RV M Λ H d v ∧ RelV v u := by
  have hi : i < us.length := (List.getElem?_eq_some_iff.mp h).1
  have h1 : i < vs.length := by rw [q.length]; exact hi
  have h2 : i < ds.length := by rw [r.length]; exact h1
  obtain ⟨v, e1, r1⟩ := r.get (List.getElem?_eq_getElem h2)
  obtain ⟨u', e2, r2⟩ := q.get e1
  rw [h] at e2
  cases e2
  exact ⟨_, v, List.getElem?_eq_getElem h2, e1, r1, r2⟩
theorem depthAll_le {ds : List D} {vs : List V} (r : RVs M Λ H ds vs) (k : ∀ x ∈ ds, okd 12 x = true) : PyData.depthAll (pys ds) ≤ 12 := (okds (okd_of 12) r k).2
theorem bltr_min (hc : X.calm = true) (hu : X.A.units + 64 < cLine) : CallR X (.builtin "min") (rPs (bltS .min)) := by
  refine CallR.imp (CallR.or (call_min2 hc) (r' := fun xs H Q => ∃ M Λ S d y ys, RelS M Λ S H ∧ RVs M Λ H [d] xs ∧ asL S d = some (y :: ys) ∧ alikeL (y :: ys) = true ∧ PRk M Λ (.val (minL y ys)) H Q) ?_) fun xs H Q h => ?_
  · intro pins s σ H xs us Q I q h
    obtain ⟨M, Λ, S, d, y, ys, R, rs, h1, h2, k⟩ := h
    obtain ⟨v, rfl, rx⟩ := rvs1 rs
    obtain ⟨u, rfl, ru⟩ := vals1 q
    obtain ⟨a, vs, rfl, e, r⟩ := asL_rv R rx h1
    cases ru
    obtain ⟨its, rv, hl, _⟩ := I.list (.of e)
    obtain ⟨k1, k2, k3⟩ := alikeL_all h2
    obtain ⟨as, ra⟩ := reads_all I r rv k1
    rw [pys] at ra
    have hA : PySem.W.AlikeAll (py y :: pys ys) := by have := alikeAll_of h2; rw [pys] at this; exact this
    have hD : PyData.depthAll (py y :: pys ys) ≤ 12 := by have := depthAll_le r k1; rw [pys] at this; exact this
    refine PySem.W.min_list_data (I.ok.hd hc) hl.isList (by simpa using ra) hA (by omega) fun i u h' tk bs hi hr hk => ?_
    obtain ⟨d', v', f1, f2, f3, f4⟩ := r.back rv (show its[i]? = some u by simpa using hi)
    obtain ⟨cs, w⟩ := Dp.reads I _ _ _ (dp_of (K := X.K) 12 f3 (k1 _ (List.mem_of_getElem? f1))) f4
    have hm := minL_mem ys y
    have e3 : py d' = PySem.W.minD (py y) (pys ys) := PySem.W.alike_unique _ _ _ _ _ (by rw [minL_py]; exact k2 _ (List.mem_of_getElem? f1) _ hm) (PySem.W.reads_keeps hk w) hr
    rw [minL_py] at e3
    have e4 := py_inj 12 _ _ (k1 _ (List.mem_of_getElem? f1)) (k1 _ hm) e3
    subst e4
    exact ⟨v', H, I.kept (t' := tk) hk, f4, k.val_same f3⟩
  · obtain ⟨M, Λ, S, ds, r, R, rs, h, k⟩ := h
    unfold bltS at h
    split at h <;> first | contradiction | skip
    · split at h <;> first | contradiction | skip
      split at h
      · cases h
        exact .inr ⟨M, Λ, _, _, _, _, R, rs, by assumption, by assumption, k⟩
      · cases h
    · obtain ⟨v, u, rfl, rx, ry⟩ := rvs2 rs
      cases int_of rx
      cases int_of ry
      cases h
      exact .inl ⟨_, _, rfl, k.val_same (.int _)⟩
theorem bltr_max (hc : X.calm = true) (hu : X.A.units + 64 < cLine) : CallR X (.builtin "max") (rPs (bltS .max)) := by
  refine CallR.imp (CallR.or (call_max2 hc) (r' := fun xs H Q => ∃ M Λ S d y ys, RelS M Λ S H ∧ RVs M Λ H [d] xs ∧ asL S d = some (y :: ys) ∧ alikeL (y :: ys) = true ∧ PRk M Λ (.val (maxL y ys)) H Q) ?_) fun xs H Q h => ?_
  · intro pins s σ H xs us Q I q h
    obtain ⟨M, Λ, S, d, y, ys, R, rs, h1, h2, k⟩ := h
    obtain ⟨v, rfl, rx⟩ := rvs1 rs
    obtain ⟨u, rfl, ru⟩ := vals1 q
    obtain ⟨a, vs, rfl, e, r⟩ := asL_rv R rx h1
    cases ru
    obtain ⟨its, rv, hl, _⟩ := I.list (.of e)
    obtain ⟨k1, k2, k3⟩ := alikeL_all h2
    obtain ⟨as, ra⟩ := reads_all I r rv k1
    rw [pys] at ra
    have hA : PySem.W.AlikeAll (py y :: pys ys) := by have := alikeAll_of h2; rw [pys] at this; exact this
    have hD : PyData.depthAll (py y :: pys ys) ≤ 12 := by have := depthAll_le r k1; rw [pys] at this; exact this
    refine PySem.W.max_list_data (I.ok.hd hc) hl.isList (by simpa using ra) hA (by omega) fun i u h' tk bs hi hr hk => ?_
    obtain ⟨d', v', f1, f2, f3, f4⟩ := r.back rv (show its[i]? = some u by simpa using hi)
    obtain ⟨cs, w⟩ := Dp.reads I _ _ _ (dp_of (K := X.K) 12 f3 (k1 _ (List.mem_of_getElem? f1))) f4
    have hm := maxL_mem ys y
    have e3 : py d' = PySem.W.maxD (py y) (pys ys) := PySem.W.alike_unique _ _ _ _ _ (by rw [maxL_py]; exact k2 _ (List.mem_of_getElem? f1) _ hm) (PySem.W.reads_keeps hk w) hr
    rw [maxL_py] at e3
    have e4 := py_inj 12 _ _ (k1 _ (List.mem_of_getElem? f1)) (k1 _ hm) e3
    subst e4
    exact ⟨v', H, I.kept (t' := tk) hk, f4, k.val_same f3⟩
  · obtain ⟨M, Λ, S, ds, r, R, rs, h, k⟩ := h
    unfold bltS at h
    split at h <;> first | contradiction | skip
    · split at h <;> first | contradiction | skip
      split at h
      · cases h
        exact .inr ⟨M, Λ, _, _, _, _, R, rs, by assumption, by assumption, k⟩
      · cases h
    · obtain ⟨v, u, rfl, rx, ry⟩ := rvs2 rs
      cases int_of rx
      cases int_of ry
      cases h
      exact .inl ⟨_, _, rfl, k.val_same (.int _)⟩
theorem each_of : ∀ {ds : List D} {vs : List V} {us : List Value}, RVs M Λ H ds vs → Vals vs us → PySem.W.EachIs (fun u d => ∃ v, RelV v u ∧ RV M Λ H d v) us ds
  | _, _, _, .nil, .nil => .nil
  | _, _, _, .cons r rs, .cons q qs => .cons ⟨_, q, r⟩ (each_of rs qs)
theorem of_each : ∀ {ds : List D} {us : List Value}, PySem.W.EachIs (fun u d => ∃ v, RelV v u ∧ RV M Λ H d v) us ds → ∃ vs, RVs M Λ H ds vs ∧ Vals vs us
  | _, _, .nil => ⟨[], .nil, .nil⟩
  | _, _, .cons ⟨v, q, r⟩ t => let ⟨vs, a, b⟩ := of_each t; ⟨v :: vs, .cons r a, .cons q b⟩
theorem each_reads {pins : List (Addr × Obj)} {σ : L2.St} {s : Shared} (I : Inv X pins σ H s) {n : Nat} : ∀ {ds : List D} {vs : List V} {us : List Value}, RVs M Λ H ds vs → Vals vs us → (∀ x ∈ ds, okd n x = true) → PySem.W.EachIs (fun u d => ∃ as, Reads s.heap u (py d) as) us ds
  | _, _, _, .nil, .nil, _ => .nil
  | _, _, _, .cons r rs, .cons q qs, k => .cons (Dp.reads I _ _ _ (dp_of (K := X.K) n r (k _ List.mem_cons_self)) q) (each_reads I rs qs fun x hx => k x (List.mem_cons_of_mem _ hx))
theorem leD_eq : PySem.W.dataLe false py = leD := rfl
/-! ### isinstance -/
theorem kit_all : ∀ t ∈ ["NoneType", "bool", "int", "str", "tuple", "list", "dict"], ∀ n ∈ ["int", "str", "tuple", "list", "dict", "bool"], kitB t n = some (isTy t n) := by decide +kernel
theorem known_mem {n : String} (h : knownTy n = true) : n ∈ ["int", "str", "tuple", "list", "dict", "bool"] := by
  unfold knownTy at h
  simpa [or_assoc] using h
theorem ty_rv (R : RelS M Λ S H) (rx : RV M Λ H d v) {t : String} (h : tyOf S d = some t) : t ∈ ["NoneType", "bool", "int", "str", "tuple", "list", "dict"] ∧ TyX X.K H v (.type t) := by
  cases rx with
  | non => cases h; exact ⟨by decide, .base .non⟩
  | bl b => cases h; exact ⟨by decide, .base (.bl b)⟩
  | int i => cases h; exact ⟨by decide, .base (.int i)⟩
  | str _ => cases h; exact ⟨by decide, .base (.str _)⟩
  | tup e _ => cases h; exact ⟨by decide, .base (.tup e)⟩
  | scr e _ => cases h; exact ⟨by decide, .base (.frz e)⟩
  | ty n => cases h
  | lst e _ _ r => cases h; exact ⟨by decide, .base (.lst e)⟩
  | @dct a o t ks ds ho e _ _ r =>
    cases r with
    | dK _ _ => cases h; exact ⟨by decide, .fDict e⟩
    | dT _ _ => cases h
  | @ref l a e =>
    simp only [tyOf] at h
    split at h
    · rename_i q
      obtain ⟨ho, e2, r⟩ := R.st _ _ _ q e
      cases r
      cases h
      exact ⟨by decide, .base (.lst e2)⟩
    · rename_i q
      obtain ⟨ho, e2, r⟩ := R.st _ _ _ q e
      cases r <;> cases h
      · exact ⟨by decide, .base (.dK e2)⟩
      · exact ⟨by decide, .base (.dT e2)⟩
    · rename_i q
      obtain ⟨ho, e2, r⟩ := R.st _ _ _ q e
      cases r with
      | lk r =>
        cases r
        cases h
        exact ⟨by decide, .fDict e2⟩
    · cases h
theorem isAny_rv (R : RelS M Λ S H) (rx : RV M Λ H d v) : ∀ {ts : List D} {vs : List V} {b : Bool}, RVs M Λ H ts vs → isAny S d ts = some b → ∃ t us, tyOf S d = some t ∧ Paired ClsV vs us ∧ PySem.W.kitAny X.K (.type t) us = some b
  | [], vs, b, r, h => by
    cases r
    unfold isAny at h
    split at h
    · rename_i hc
      obtain ⟨t, e⟩ := Option.isSome_iff_exists.mp hc
      cases h
      exact ⟨t, [], e, .nil, kitAny_nil⟩
    · cases h
  | c :: ts, vs, b, r, h => by
    cases r with
    | cons r rs =>
      unfold isAny at h
      split at h <;> first | contradiction | skip
      rename_i n r' e
      cases e
      split at h <;> first | contradiction | skip
      rename_i b1 c1 h1 h2
      cases h
      obtain ⟨t, us, e1, e2, e3⟩ := isAny_rv R rx rs h2
      cases ty_of r
      unfold isinstS at h1
      rw [e1] at h1
      simp only at h1
      split at h1
      · rename_i hk
        cases h1
        refine ⟨t, .type n :: us, e1, .cons (.ty n) e2, ?_⟩
        refine kitAny_cons (b := isTy t n) (kit_ty (kit_all t (ty_rv (X := X) R rx e1).1 n (known_mem hk))) (fun hb => ?_) fun hb => ?_
        · rw [hb]; simpa using e3
        · rw [hb]; rfl
      · cases h1
theorem bltr_isinst : CallR X (.builtin "isinstance") (rPs (bltS .isinst)) := by
  refine CallR.imp (CallR.or (call_isi (X := X)) (call_isiT (X := X))) fun xs H Q h => ?_
  obtain ⟨M, Λ, S, ds, r, R, rs, h, k⟩ := h
  unfold bltS at h
  split at h <;> first | contradiction | skip
  · obtain ⟨v, u, rfl, rx, ry⟩ := rvs2 rs
    cases ty_of ry
    simp only [Option.map_eq_some_iff] at h
    obtain ⟨b, h, rfl⟩ := h
    unfold isinstS at h
    split at h <;> first | contradiction | skip
    rename_i t e1
    split at h
    · rename_i hk
      cases h
      obtain ⟨m, ty⟩ := ty_rv (X := X) R rx e1
      exact .inl ⟨v, _, _, _, _, rfl, .ty _, ty, kit_ty (kit_all t m _ (known_mem hk)), k.val_same (.bl _)⟩
    · cases h
  · obtain ⟨v, u, rfl, rx, ry⟩ := rvs2 rs
    obtain ⟨a, vs, rfl, e, r⟩ := tup_of ry
    simp only [Option.map_eq_some_iff] at h
    obtain ⟨b, h, rfl⟩ := h
    obtain ⟨t, us, e1, e2, e3⟩ := isAny_rv (X := X) R rx r h
    obtain ⟨m, ty⟩ := ty_rv (X := X) R rx e1
    exact .inr ⟨v, a, vs, _, us, b, rfl, e, e2, ty, e3, k.val_same (.bl _)⟩
end
end Pd

/-! Pd6b: what list and sorted draw; repr. -/
namespace Pd
open PySem PySem.Spec PyProof.Rows L2

section
variable {M : Addr → Prop} {Λ : List Addr} {H : Hp} {S : Store} {d : D} {v : V} {Q : VK} {X : Cx}
theorem items_rv : ∀ {l : List (Int ⊕ List Nat)}, (∀ x ∈ l, okK x) → RVs M Λ H (l.map dkItem) ((l.map keyS).map kV)
  | [], _ => .nil
  | .inl n :: r, h => .cons (.int n) (items_rv fun x hx => h x (List.mem_cons_of_mem _ hx))
  | .inr c :: r, h => .cons (.str (h (.inr c) List.mem_cons_self)) (items_rv fun x hx => h x (List.mem_cons_of_mem _ hx))
theorem keysK_rv : ∀ {ks : List DK} {js : List Key}, KK ks js → RVs M Λ H (ks.map dkD) (js.map kV)
  | _, _, .nil => .nil
  | _, _, .i h => .cons (.int _) (keysK_rv h)
  | _, _, .s o h => .cons (.str o) (keysK_rv h)
theorem keysT_rv : ∀ {ks : List DK} {js : List (List Key)} {bs : List Addr}, KT ks js → Paired (fun k b => H b = some (.tup (k.map kV))) js bs → RVs M Λ H (ks.map dkD) (bs.map V.ref)
  | _, _, _, .nil, .nil => .nil
  | _, _, _, .t o h, .cons e p => .cons (.tup e (items_rv o)) (keysT_rv h p)
theorem paired_fst {α β γ : Type} {R : β → γ → Prop} {f : α → β} : ∀ {xs : List α} {ys : List γ}, Paired (fun x y => R (f x) y) xs ys → Paired R (xs.map f) ys
  | _, _, .nil => .nil
  | _, _, .cons h t => .cons h (paired_fst t)
theorem keys_of {kvs : List (List Key × V)} {bs : List Addr} (h : IsKeys H kvs bs) : Paired (fun k b => H b = some (.tup (k.map kV))) (kvs.map (·.1)) bs := paired_fst h

/-! ### what is drawn -/
theorem coll_rv {pins : List (Addr × Obj)} {σ : L2.St} {s : Shared} (I : Inv X pins σ H s) (R : RelS M Λ S H) (rx : RV M Λ H d v) {u : Value} (ru : RelV v u) {bs : List D} (e : drawS S d = some bs) {A : Around} (hA : A.handled = none) {QL : List Value → Shared → Prop} {E : Value → Shared → Prop}
    (q : ∀ (h' : Heap) (tk : Nat) (acc : List Value) (ws : List V), (∀ b o, s.heap.get? b = some o → h'.get? b = some o) → RVs M Λ H bs ws → Vals ws acc → acc.length = bs.length → QL acc { s with heap := h', toks := tk }) (hl : bs.length ≤ line) : wpAny (model X.prog X.w) A (collect u) QL E s := by
  have hz : bs.length ≤ sizeLine := by rw [← line_eq]; exact hl
  have seq : ∀ {xs : List D} {a : Addr} {vs : List V}, v = .ref a → bs = xs → (SqL X.K H a vs ∨ SqT X.K H a vs) → RVs M Λ H xs vs → wpAny (model X.prog X.w) A (collect u) QL E s := fun {xs a vs} ev eb h r => by
    subst eb
    subst ev
    cases ru
    rcases h with h | h
    · obtain ⟨its, rv, hl, hz'⟩ := I.list h
      have ln : its.length = bs.length := by rw [← rv.length, ← r.length]
      refine collect_list hl.isList ?_ (by rw [ln]; exact hz)
      refine q _ s.toks its vs (fun b o eb => ?_) r rv ln
      have hb := Heap.lt_size eb
      exact (Heap.get?_update_other _ _ (Nat.ne_of_gt hb)).trans (Heap.get?_push_of_some _ eb)
    · obtain ⟨its, rv, ⟨o, ho, hc, n, hd⟩, _⟩ := I.tuple h
      have ln : its.length = bs.length := by rw [← rv.length, ← r.length]
      refine wpAny_collect_seq _ (.inr rfl) ho hc hd (fun h' k => ?_) (by rw [List.size_toArray, ln]; exact hz)
      exact q h' s.toks its vs k r rv ln
  unfold drawS at e
  split at e
  · obtain ⟨o, rfl⟩ := okS_of rx
    split at e <;> try (cases e; done)
    cases e
    obtain ⟨t, rfl⟩ := ru
    rename_i z hz'
    refine wpAny_collect_str hA _ t (fun s' acc k1 g1 d1 o1 it => ?_) (by rw [List.length_map] at hz; exact Nat.le_trans (Nat.le_of_eq (by simp)) hz)
    obtain ⟨h', gg, dd, tk, oo⟩ := s'
    subst g1 d1 o1
    have la : acc.toList.length = z.length := by rw [Array.length_toList, it.1]; simp
    refine q h' tk acc.toList _ k1 (signs_rv o) (vals_of_at (by rw [List.length_map, la]) fun j x u e1 e2 => ?_) (by rw [List.length_map, la])
    rw [List.getElem?_map] at e1
    cases e3 : z[j]? with
    | none => rw [e3] at e1; cases e1
    | some c =>
      rw [e3] at e1
      cases e1
      obtain ⟨c', t', h1, h2⟩ := it.2 j u (by rw [← Array.getElem?_toList]; exact e2)
      have h3 : (sOf z).cps[j]? = some c := by simpa using e3
      rw [h3] at h1
      cases h1
      exact ⟨t', h2⟩
  · obtain ⟨a, ev, e1⟩ := scr_of (K := X.K) rx
    cases e
    exact seq ev rfl (.inl e1) (ints_rv _)
  · split at e
    · rename_i xs ex
      cases e
      obtain ⟨a, vs, ev, e2, r⟩ := asSq_rv (K := X.K) R rx ex
      exact seq ev rfl (e2.imp (fun z => .of z) id) r
    · split at e <;> try (cases e; done)
      rename_i t ks ws ed
      cases e
      obtain ⟨a, rfl, D0⟩ := asDk_rv R rx ed
      cases ru
      rcases D0 with ⟨rfl, kvs, h1, h2, h3⟩ | ⟨rfl, kvs, h1, h2, h3⟩
      · obtain ⟨z, lo, vs, rel, dd⟩ := dk_rd I.hok h1
        obtain ⟨ep, hat⟩ := dd.dictAt
        have hkeys : vs.map (·.1) = kvs.map (·.1) := rel.keys.symm
        have hl2 : vs.length = kvs.length := by have := congrArg List.length hkeys; simpa using this
        have hl3 : (ks.map dkD).length = kvs.length := by rw [List.length_map, h2.len, List.length_map]
        refine PySem.W.kdu_collect (PySem.W.kdl_dict (knd := mixKind X.prog X.w) (kvs := vs) (ep := ep) lo) hA hat (by rw [hl2, ← hl3]; exact hz) fun h' tk acc hk hacc => ?_
        have la : acc.toList.length = kvs.length := by rw [Array.length_toList, hacc.1, hl2]
        have rk := keysK_rv (M := M) (Λ := Λ) (H := H) h2
        refine q h' tk acc.toList _ hk rk (vals_of_at (by rw [List.length_map, List.length_map, la]) fun j x u e1 e2 => ?_) (by rw [la, hl3])
        obtain ⟨k, y, e3, e4⟩ := hacc.2 j u (by rw [← Array.getElem?_toList]; exact e2)
        have e5 : (kvs.map (·.1))[j]? = some k := by rw [← hkeys, List.getElem?_map, e3]; rfl
        rw [List.getElem?_map, e5] at e1
        cases e1
        rcases keyIs_shape e4 with ⟨i, t, ek, ev⟩ | ⟨z, t, ek, ev⟩
        · subst ek; exact ⟨t, ev⟩
        · subst ek; exact ⟨t, ev⟩
      · obtain ⟨z, hs, kz, pr, o, es, ep, ho, hx, hdt, he, hn⟩ := (show ObjOk X.prog X.w H s.heap a (.dT kvs) from h1.ok I.hok)
        have l1 : es.size = kz.length := size_of_entries he
        have l2 : kvs.length = kz.length := Paired.length pr
        have hl3 : (ks.map dkD).length = kvs.length := by
          have := h2.len
          rw [List.length_map] at this
          rw [List.length_map, this]
        refine PySem.W.kdu_collect (kdl_raw hs hx hdt) hA ho (by omega) fun h' tk acc' kp it => ?_
        have la : acc'.toList.length = kz.length := by rw [Array.length_toList, it.1]; exact l1
        have rk := keysT_rv (M := M) (Λ := Λ) h2 (keys_of (isKeys_of pr))
        refine q h' tk acc'.toList _ kp rk (vals_of_at (by rw [List.length_map, List.length_map, la]) fun j x u e1 e2 => ?_) (by omega)
        obtain ⟨en, hen, hv⟩ := it.2 j u (by rw [← Array.getElem?_toList]; exact e2)
        have qe := entry_at he j
        rw [hen] at qe
        rw [List.map_map, List.getElem?_map] at e1
        cases hb : kz[j]? with
        | none => rw [hb] at qe; exact nomatch (show some en = none from qe)
        | some b =>
          rw [hb] at qe e1
          cases e1
          have e2' : en = entryOfKey (tupleKind (mixKind X.prog X.w)) b := Option.some.inj qe
          rw [hv, e2']
          rfl
/-- list(x) -/
theorem list_of {pins : List (Addr × Obj)} {σ : L2.St} {s : Shared} : True := trivial
theorem bltr_list (hc : X.calm = true) : CallR X (.type "list") (rPs (bltS .list)) := by
  refine CallR.imp (CallR.or (call_list_text hc) (CallR.or call_list_of (CallR.or (call_listD hc) (call_list_dT hc)))) fun xs H Q h => ?_
  obtain ⟨M, Λ, S, ds, r, R, rs, h, k⟩ := h
  unfold bltS at h
  split at h <;> first | contradiction | skip
  obtain ⟨v, rfl, rx⟩ := rvs1 rs
  simp only [Option.map_eq_some_iff] at h
  obtain ⟨xs, h, rfl⟩ := h
  unfold drawS at h
  split at h
  · obtain ⟨k1, rfl⟩ := okS_of rx
    split at h
    · rename_i hz
      cases h
      refine .inl ⟨_, rfl, by rw [len_sOf, ← line_eq]; exact hz, fun l hl => ?_⟩
      have e : ∀ z : List Nat, ((sOf z).cps.toList.map fun c => V.str ⟨#[c]⟩) = z.map fun c => V.str ⟨#[c]⟩ := fun z => by simp
      rw [e]
      exact k.new_same hl (.lst (signs_rv k1))
    · cases h
  · obtain ⟨a, rfl, e1⟩ := scr_of (K := X.K) rx
    cases h
    exact .inr (.inl ⟨a, _, rfl, .inl e1, fun l hl => k.new_same hl (.lst (ints_rv _))⟩)
  · split at h
    · cases h
      rename_i ex
      obtain ⟨a, vs, rfl, e2, r⟩ := asSq_rv (K := X.K) R rx ex
      exact .inr (.inl ⟨a, vs, rfl, e2.elim (fun z => .inl (.of z)) .inr, fun l hl => k.new_same hl (.lst r)⟩)
    · split at h <;> try (cases h; done)
      rename_i t ks ws ed
      cases h
      obtain ⟨a, rfl, D0⟩ := asDk_rv R rx ed
      rcases D0 with ⟨rfl, kvs, h1, h2, h3⟩ | ⟨rfl, kvs, h1, h2, h3⟩
      · refine .inr (.inr (.inl ⟨a, kvs, rfl, h1, fun p hp => k.new_same hp (.lst ?_)⟩))
        have := keysK_rv (M := M) (Λ := Λ) (H := H) h2
        rw [List.map_map] at this
        exact this
      · exact .inr (.inr (.inr ⟨a, kvs, rfl, h1, fun p bs hp hk => k.new_same hp (.lst (keysT_rv h2 (keys_of hk)))⟩))
/-- sorted(..), what it draws being told -/
theorem sorted_any {pins : List (Addr × Obj)} {σ : L2.St} {s : Shared} {u : Value} {xs : List D} {F : Hp → Prop} (hu : X.A.units + 64 < cLine) (hc : (alikeL xs && sortableL xs && decide (xs.length ≤ line)) = true)
    (hcoll : ∀ (QL : List Value → Shared → Prop) (E : Value → Shared → Prop), (∀ (h' : Heap) (tk : Nat) (acc : List Value) (ws : List V) (H1 : Hp), Inv X pins σ H1 { s with heap := h', toks := tk } → RVs M Λ H1 xs ws → Vals ws acc → acc.length = xs.length → F H1 → QL acc { s with heap := h', toks := tk }) →
      wpAny (model X.prog X.w) X.A.in1 (collect u) QL E s)
    (k : ∀ (H1 : Hp) (a : Addr) (ho : HO), F H1 → H1 a = none → RO M Λ H1 (.lv (xs.mergeSort leD)) ho → isMut ho → Q (.ref a) (upd H1 a ho)) :
    wpAny (model X.prog X.w) X.A (call (.builtin "sorted") [u]) (EP X pins σ Q) X.xe s := by
  simp only [Bool.and_eq_true, decide_eq_true_eq] at hc
  obtain ⟨k1, k2, k3⟩ := alikeL_all hc.1.1
  have hA : PySem.W.AllAlike (xs.map py) := fun x hx y hy => by
    obtain ⟨x', hx', rfl⟩ := List.mem_map.mp hx
    obtain ⟨y', hy', rfl⟩ := List.mem_map.mp hy
    exact k2 x' hx' y' hy'
  have hS : PySem.W.Sortable (xs.map py) := by
    have := hc.1.2
    unfold sortableL at this
    simp only [Bool.or_eq_true, List.all_eq_true] at this
    rcases this with t | t
    · refine .inl fun x hx => ?_
      obtain ⟨x', hx', rfl⟩ := List.mem_map.mp hx
      have := t x' hx'
      unfold isTup1 at this
      split at this
      · exact ⟨_, _, by rw [py, pys]⟩
      · cases this
    · refine .inr fun x hx => ?_
      obtain ⟨x', hx', rfl⟩ := List.mem_map.mp hx
      refine ⟨k3 x' hx', fun ys e => ?_⟩
      have := t x' hx'
      cases x' <;> simp only [py, reduceCtorEq] at e
      simp [isNoTup] at this
  refine Calls.call_function_entry PyProof.Rows.kind_sorted PyProof.Rows.plain_sorted PyProof.Rows.entry_sorted (PyProof.Rows.args_sorted1 _) ?_
  unfold Builtin.«sorted»
  refine wpAny_bind (m := checkCount "sorted" 1 1 _) (wpAny_pure ?_)
  refine wpAny_bind (hcoll _ _ fun h' tk acc ws H1 I1 rw' va ln hF => ?_)
  refine wpAny_bind (wpAny_newList ?_ (by rw [ln, ← line_eq]; exact hc.2))
  have hoL : (h'.push (seqObj "list" acc.toArray 0)).get? h'.objs.size = some (seqObj "list" acc.toArray 0) := Heap.get?_push_size _ rfl
  show wpAny _ _ _ _ _ { s with heap := h'.push (seqObj "list" acc.toArray 0), toks := tk }
  have er : PySem.W.EachIs (fun u d => ∃ as, Reads (h'.push (seqObj "list" acc.toArray 0)) u (py d) as ∧ h'.objs.size ∉ as) acc xs := by
    have e0 := each_reads I1 rw' va k1
    exact e0.mono fun u d ⟨as, ra⟩ => ⟨as, PyProof.Rows.Reads.keeps (fun b o e => Heap.get?_push_of_some _ e) ra, fun hm => by
      obtain ⟨o, e⟩ := PyProof.On.reads_mem_get ra _ hm
      exact Nat.lt_irrefl _ (Heap.lt_size e)⟩
  refine wpAny_bind (wpAny_holding (PySem.W.list_sort_data (R := fun u d => ∃ v, RelV v u ∧ RV M Λ H1 d v) (enc := py) (bs := xs) hoL (each_of rw' va) er hA hS (by rw [← line_eq]; exact hc.2) (fun b hb => ?_) fun out hlen eo => ?_))
  · have := (okd_of 12 (RVs.mem rw' hb).choose_spec.2 (k1 b hb)).2
    show X.A.units + 1 + 1 + (py b).depth < cLine
    omega
  · rw [leD_eq] at eo
    obtain ⟨zs, w1, w2⟩ := of_each eo
    obtain ⟨ep, he'⟩ := PyProof.Rows.sortedHeap_at (vs := acc) (out := out.toArray) hoL
    have hlen2 : zs.length ≤ sizeLine := by rw [w2.length, hlen, ← line_eq]; exact hc.2
    refine wpAny_pure ⟨_, rfl, .ref h'.objs.size, upd H1 h'.objs.size (.lst zs), I1.laid (t' := tk) (fun b u e => ?_) (Nat.le_refl _)
      (show ObjOk X.prog X.w _ _ _ (.lst zs) from ⟨hlen2, out, ep, w2, he'⟩), rfl, k _ _ _ hF (I1.hok.fresh (Nat.le_refl _)) (.lst w1) trivial⟩
    have hb : b < h'.objs.size := Heap.lt_size e
    rw [PyProof.Rows.sortedHeap_old (Nat.ne_of_lt hb) (by rw [size_push']; exact Nat.lt_succ_of_lt hb)]
    exact Heap.get?_push_of_some _ e
/-- sorted(x) -/
theorem bltr_sorted (hcalm : X.calm = true) (hu : X.A.units + 64 < cLine) : CallR X (.builtin "sorted") (rPs (bltS .sorted)) := by
  intro pins s σ H xs us Q I q h
  obtain ⟨M, Λ, S, ds, r, R, rs, h, k⟩ := h
  unfold bltS at h
  split at h <;> first | contradiction | skip
  obtain ⟨v, rfl, rx⟩ := rvs1 rs
  obtain ⟨u, rfl, ru⟩ := vals1 q
  split at h <;> first | contradiction | skip
  rename_i xs h1
  split at h <;> try (cases h; done)
  rename_i hc
  cases h
  refine sorted_any (M := M) (Λ := Λ) (F := fun H1 => H1 = H) hu hc (fun QL E hq => coll_rv (A := X.A.in1) I R rx ru h1 (I.ok.hd hcalm) (fun h' tk acc ws kp rw' va ln => hq h' tk acc ws H (I.kept kp) rw' va ln rfl) ?_) fun H1 a ho e hn r hm => ?_
  · simp only [Bool.and_eq_true, decide_eq_true_eq] at hc
    exact hc.2
  · subst e
    exact k.new_same hn r hm
end
end Pd

/-! Pd6c: repr. -/
namespace Pd
open PySem PySem.Spec PyProof.Rows L2

def okT (x : Str) : Prop := ∀ c ∈ x.cps.toList, c < 0x110000
theorem char_lt (c : Char) : c.toNat < 0x110000 := by
  have h := c.valid
  simp only [UInt32.isValidChar, Nat.isValidChar] at h
  have e : c.toNat = c.val.toNat := rfl
  omega
theorem okT_str (s : String) : okT (s : Str) := by
  intro c hc
  rw [Str.ofString_eq_toList] at hc
  simp only [List.mem_map] at hc
  obtain ⟨d, _, rfl⟩ := hc
  exact char_lt d
theorem okT_app {a b : Str} (h : okT a) (k : okT b) : okT (a ++ b) := by
  intro c hc
  have e : (a ++ b).cps.toList = a.cps.toList ++ b.cps.toList := by
    show (a.cps ++ b.cps).toList = _
    simp
  rw [e] at hc
  exact (List.mem_append.mp hc).elim (h c) (k c)
theorem okT_join {sep : Str} (hs : okT sep) : ∀ {ts : List Str}, (∀ t ∈ ts, okT t) → okT (Str.join sep ts)
  | [], _ => fun c hc => by
    have : c ∈ ([] : List Nat) := hc
    cases this
  | [x], h => h x List.mem_cons_self
  | x :: y :: r, h => okT_app (okT_app (h x List.mem_cons_self) hs) (okT_join hs fun t ht => h t (List.mem_cons_of_mem _ ht))
theorem reprChar_ok {q c : Nat} (hc : c < 0x110000) : ∀ x ∈ Builtin.Str.reprChar q c, x < 0x110000 := by
  have hex : ∀ w : Nat, ∀ x ∈ (List.replicate (w - ((Nat.toDigits 16 c).map Char.toNat).length) 48 ++ (Nat.toDigits 16 c).map Char.toNat), x < 0x110000 := fun w x hx => by
    rcases List.mem_append.mp hx with h | h
    · rw [List.eq_of_mem_replicate h]; decide
    · obtain ⟨d, _, rfl⟩ := List.mem_map.mp h
      exact char_lt d
  intro x hx
  unfold Builtin.Str.reprChar at hx
  simp only at hx
  repeat' split at hx
  all_goals first
    | (simp only [List.mem_cons, List.not_mem_nil, or_false] at hx; omega)
    | (rcases List.mem_append.mp hx with h | h
       · simp only [List.mem_cons, List.not_mem_nil, or_false] at h; omega
       · exact hex _ x h)
theorem reprText_ok {x : Str} (h : okT x) : okT (reprText x) := by
  have hq : reprQuote x < 0x110000 := by unfold reprQuote; split <;> decide
  have go : ∀ (l : List Nat) (acc : Array Nat), (∀ c ∈ l, c < 0x110000) → (∀ c ∈ acc.toList, c < 0x110000) → ∀ c ∈ (l.foldl (fun out c => out ++ (Builtin.Str.reprChar (reprQuote x) c).toArray) acc).toList, c < 0x110000 := by
    intro l
    induction l with
    | nil => exact fun acc _ k => k
    | cons c l ih =>
      exact fun acc h k => ih _ (fun d hd => h d (List.mem_cons_of_mem _ hd)) fun d hd => by
        rw [Array.toList_append] at hd
        rcases List.mem_append.mp hd with hd | hd
        · exact k d hd
        · exact reprChar_ok (h c List.mem_cons_self) d (by simpa using hd)
  intro c hc
  unfold reprText at hc
  rw [Array.toList_push, ← Array.foldl_toList] at hc
  rcases List.mem_append.mp hc with hc | hc
  · exact go _ _ h (fun d hd => by have e : d = reprQuote x := by simpa using hd
                                   rw [e]; exact hq) c hc
  · rw [List.mem_singleton.mp hc]; exact hq
theorem tupleText_ok {ts : List Str} (h : ∀ t ∈ ts, okT t) : okT (tupleText ts) := by
  unfold tupleText
  exact okT_app (okT_app (okT_str _) (okT_join (okT_str _) h)) (okT_str _)
theorem listText_ok {ts : List Str} (h : ∀ t ∈ ts, okT t) : okT (listText ts) := by
  rw [PySem.listText_eq_join]
  exact okT_app (okT_app (okT_str _) (okT_join (okT_str _) h)) (okT_str _)
theorem strOk_okT {x : Str} (h : PyData.strOk x = true) : okT x := by
  have : Array.all x.cps (fun c => decide (c < 0x110000)) = true := h
  rw [← Array.all_toList, List.all_eq_true] at this
  exact fun c hc => of_decide_eq_true (this c hc)
mutual
theorem shown_ok : ∀ d : PyData, d.canLay0 = true → okT d.shown
  | .none, _ => by rw [PyData.shown]; exact okT_str _
  | .bool b, _ => by rw [PyData.shown]; split <;> exact okT_str _
  | .int i, _ => by rw [PyData.shown]; exact okT_str _
  | .str x, h => by rw [PyData.shown]; exact reprText_ok (strOk_okT (by simpa [PyData.canLay0] using h))
  | .list xs, h => by rw [PyData.shown]; exact listText_ok (shownAll_ok xs (by simpa [PyData.canLay0] using h))
  | .tuple xs, h => by rw [PyData.shown]; exact tupleText_ok (shownAll_ok xs (by simpa [PyData.canLay0] using h))
  | .dict kvs, h => by simp [PyData.canLay0] at h
theorem shownAll_ok : ∀ xs : List PyData, PyData.canLayAll0 xs = true → ∀ t ∈ PyData.shownAll xs, okT t
  | [], _, t, ht => by rw [PyData.shownAll] at ht; cases ht
  | x :: xs, h, t, ht => by
    have h' : x.canLay0 = true ∧ PyData.canLayAll0 xs = true := by simpa [PyData.canLayAll0] using h
    rw [PyData.shownAll] at ht
    rcases List.mem_cons.mp ht with rfl | ht
    · exact shown_ok x h'.1
    · exact shownAll_ok xs h'.2 t ht
end
theorem sumLen_cons (x : Str) (xs : List Str) : ((x :: xs).map (·.length)).sum = x.length + (xs.map (·.length)).sum := by simp
theorem shownAll_len : ∀ xs : List PyData, (PyData.shownAll xs).length = xs.length
  | [] => by rw [PyData.shownAll]; rfl
  | x :: xs => by rw [PyData.shownAll, List.length_cons, shownAll_len xs, List.length_cons]
theorem pys_len : ∀ xs : List D, (pys xs).length = xs.length
  | [] => by rw [pys]; rfl
  | x :: xs => by rw [pys, List.length_cons, pys_len xs, List.length_cons]
mutual
theorem shown_wt : ∀ (n : Nat) (d : D), okd n d = true → (py d).canLay0 = true → PyData.showable (py d) = true → (py d).shown.length ≤ wt d
  | n, .non, _, _, _ => by rw [py, PyData.shown, wt]; decide +kernel
  | n, .bl b, _, _, _ => by rw [py, PyData.shown, wt]; cases b <;> decide +kernel
  | n, .int i, _, _, h => by
    rw [py, PyData.shown, wt]
    have := int_text_length_le (a := i) (k := i.natAbs.log2 + 1) (by omega) (by omega)
    have e : (Str.ofString (toString i)).length = (toString i).length := by
      rw [Str.ofString_eq_toList]
      show ((toString i).toList.map Char.toNat).toArray.size = _
      rw [List.size_toArray, List.length_map, String.length_toList]
    show (Str.ofString (toString i)).length ≤ _
    omega
  | n, .str c, _, k, _ => by
    rw [py, PyData.shown, wt]
    have ok : okT (sOf c) := strOk_okT (by simpa [py, PyData.canLay0] using k)
    have := PySem.StrLaws.reprText_len (sOf c) fun x hx => Nat.lt_trans (ok x hx) (by decide)
    rw [len_sOf] at this
    exact this
  | 0, .tup xs, h, _, _ => by simp [okd] at h
  | n + 1, .tup xs, h, k, s => by
    rw [py, PyData.shown, wt]
    have hs := shownAll_wt n xs (by simpa [okd] using h) (by simpa [py, PyData.canLay0] using k) (by simpa [py, PyData.showable] using s)
    have := tupleText_len_le (PyData.shownAll (pys xs))
    rw [shownAll_len, pys_len] at this
    omega
  | 0, .lv xs, h, _, _ => by simp [okd] at h
  | n + 1, .lv xs, h, k, s => by
    rw [py, PyData.shown, wt]
    have hs := shownAll_wt n xs (by simpa [okd] using h) (by simpa [py, PyData.canLay0] using k) (by simpa [py, PyData.showable] using s)
    have := listText_len_le (PyData.shownAll (pys xs))
    rw [shownAll_len, pys_len] at this
    omega
  | n, .dv _ _ _, h, _, _ => by cases n <;> simp [okd] at h
  | n, .ref _, h, _, _ => by cases n <;> simp [okd] at h
  | n, .ty _, h, _, _ => by cases n <;> simp [okd] at h
  | n, .scr _, h, _, _ => by cases n <;> simp [okd] at h
  | n, .lk _, h, _, _ => by cases n <;> simp [okd] at h
theorem shownAll_wt : ∀ (n : Nat) (xs : List D), (∀ x ∈ xs, okd n x = true) → PyData.canLayAll0 (pys xs) = true → PyData.showableAll (pys xs) = true → ((PyData.shownAll (pys xs)).map (·.length)).sum + 2 * xs.length ≤ wts xs
  | n, [], _, _, _ => by rw [pys, PyData.shownAll, wts]; simp
  | n, x :: xs, h, k, s => by
    rw [pys] at k s ⊢
    have k' : (py x).canLay0 = true ∧ PyData.canLayAll0 (pys xs) = true := by simpa [PyData.canLayAll0] using k
    have s' : PyData.showable (py x) = true ∧ PyData.showableAll (pys xs) = true := by simpa [PyData.showableAll] using s
    have h1 := shown_wt n x (h x List.mem_cons_self) k'.1 s'.1
    have h2 := shownAll_wt n xs (fun y hy => h y (List.mem_cons_of_mem _ hy)) k'.2 s'.2
    rw [PyData.shownAll, sumLen_cons, wts, List.length_cons]
    omega
end
section
variable {M : Addr → Prop} {Λ : List Addr} {H : Hp} {S : Store} {d : D} {v : V} {Q : VK} {X : Cx}
theorem rep_sOf (x : Str) : sOf x.cps.toList = x := by cases x; simp
theorem bltr_repr (hu : X.A.units + 64 < cLine) (hg : X.A.guards = some []) : CallR X (.builtin "repr") (rPs (bltS .repr)) := by
  intro pins s σ H xs us Q I q h
  obtain ⟨M, Λ, S, ds, r, R, rs, h, k⟩ := h
  rcases ds with _ | ⟨x, _ | ⟨y, ds⟩⟩
  · cases h
  rotate_left
  · cases h
  obtain ⟨v, rfl, rx⟩ := rvs1 rs
  obtain ⟨u, rfl, ru⟩ := vals1 q
  change reprS S x = some r at h
  unfold reprS at h
  split at h
  · rename_i hc
    simp only [Bool.and_eq_true, decide_eq_true_eq] at hc
    cases h
    obtain ⟨dp, c1, c2⟩ := top_dp (K := X.K) R rx hc.1.1
    have hsz : (py (top S x)).shown.length ≤ sizeLine := by
      have := shown_wt 12 (top S x) hc.1.1 c1 hc.1.2
      rw [← line_eq]
      unfold line
      omega
    have fin : ∀ (h' : Heap) (t : Tok) (tk : Nat), (∀ b o, s.heap.get? b = some o → h'.get? b = some o) → EP X pins σ Q (.str (py (top S x)).shown t) { s with heap := h', toks := tk } := fun h' t tk kp => by
      refine ⟨.str (py (top S x)).shown, H, I.kept kp, ⟨t, rfl⟩, ?_⟩
      have := k.val_same (v := .str (sOf (reprL S x))) (.str (fun c hc => shown_ok _ c1 c hc))
      unfold reprL at this
      rwa [rep_sOf] at this
    obtain ⟨as, rd⟩ := Dp.reads I _ _ _ dp ru
    revert fin hsz
    generalize he : py (top S x) = e at dp rd c1 c2 hc ⊢
    intro hsz fin
    cases rd with
    | none => exact PySem.P.repr_of_none (by have := fin s.heap s.toks (s.toks + 1) (fun _ _ z => z); rw [PyData.shown] at this; exact this)
    | bool b => exact PySem.P.repr_of_bool (by have := fin s.heap s.toks (s.toks + 1) (fun _ _ z => z); rw [PyData.shown] at this; exact this)
    | int i t => exact PySem.P.repr_of_int (by have := hc.1.2; rw [PyData.showable, decide_eq_true_eq] at this; exact this) (by have := fin s.heap s.toks (s.toks + 1) (fun _ _ z => z); rw [PyData.shown] at this; exact this)
    | str z t => exact PySem.P.repr_of_str (by have := fin s.heap s.toks (s.toks + 1) (fun _ _ z => z); rw [PyData.shown] at this; exact this) (by rw [PyData.shown] at hsz; exact hsz)
    | list h1 h2 h3 h4 => exact repr_of_reads' (h₀ := s.heap) (.list h1 h2 h3 h4) hc.1.2 (PyData.noDict_hsm (PyData.hasDict_of_canLay _ c1)) hg (by omega) (fun _ _ z => z) (fun h' t tk kp => fin h' t tk kp) hsz
    | tuple h1 h2 h3 h4 => exact repr_of_reads' (h₀ := s.heap) (.tuple h1 h2 h3 h4) hc.1.2 (PyData.noDict_hsm (PyData.hasDict_of_canLay _ c1)) hg (by omega) (fun _ _ z => z) (fun h' t tk kp => fin h' t tk kp) hsz
    | dict => simp [PyData.canLay0] at c1
  · split at h <;> try (cases h; done)
    rename_i ed
    cases h
    obtain ⟨a, rfl, D0⟩ := asDk_rv R rx ed
    cases ru
    rcases D0 with ⟨_, kvs, h1, h2, h3⟩ | ⟨z, _⟩
    · have e0 : kvs = [] := by
        have := h2.len
        rw [List.length_map] at this
        exact List.eq_nil_of_length_eq_zero this.symm
      subst e0
      obtain ⟨z, lo, vs, rel, dd⟩ := dk_rd I.hok h1
      obtain ⟨ep, o, es, g1, g2, g3, g4, g5, g6⟩ := dd.dictAt
      have e1 : vs = [] := by
        have := congrArg List.length rel.keys
        simpa using this.symm
      subst e1
      have e2 : es.toList = [] := by
        cases e : es.toList with
        | nil => rfl
        | cons y ys => rw [e] at g5; cases g5
      have rd : Reads s.heap (.ref a) (.dict []) (a :: [] ++ []) := .dict (kvs := []) g1 g2.1 g3 (by rw [e2]; exact .nil) (by rw [e2]; exact .nil)
      have e3 : (PyData.dict []).shown = sOf [123, 125] := by rw [PyData.shown_dict, PyData.shownKv_nil]; decide +kernel
      refine repr_of_reads' (h₀ := s.heap) rd (by simp [PyData.showable, PyData.showableKv]) (fun _ hm => ?_) hg (by simp only [PyData.depth, PyData.depthKv]; omega) (fun _ _ z => z) (fun h' t tk kp => ?_) (by rw [e3]; decide +kernel)
      · have : a = sysModules := by
          have h9 := hm
          simp only [List.append_nil, List.mem_singleton] at h9
          exact h9.symm
        rw [this] at lo
        simp at lo
      · refine ⟨.str (PyData.dict []).shown, H, I.kept kp, ⟨t, rfl⟩, ?_⟩
        rw [e3]
        exact k.val_same (.str fun c hc => by simp only [List.mem_cons, List.not_mem_nil, or_false] at hc; omega)
    · cases z
end
end Pd

/-! Pd7: enumerate and zip over lists, tuples, texts in any mix. -/
namespace Pd
open PySem PySem.Spec PyProof.Rows L2

/-- what an iterator draws from -/
inductive Src where
  | lst (a : Addr)
  | tup (a : Addr)
  | txt (z : Str) (t : Tok)
def Src.val : Src → Value
  | .lst a => .ref a
  | .tup a => .ref a
  | .txt z t => .str z t
/-- what it holds -/
def Src.has (K : PySem.W.Frag) (H : Hp) : Src → List V → Prop
  | .lst a, xs => SqL K H a xs
  | .tup a, xs => SqT K H a xs
  | .txt z _, xs => xs = z.cps.toList.map fun c => V.str ⟨#[c]⟩
def Src.cell : Src → Addr → Nat → Heap → Prop
  | .lst a, it, i, h => h.IsListIter it a i
  | .tup a, it, i, h => h.IsTupleIter it a i
  | .txt z t, it, i, h => h.IsStrIter it (strIterType z) z t i
def Src.fp : Src → Addr → List Addr
  | .lst a, it => [it, a]
  | .tup a, it => [it, a]
  | .txt _ _, it => [it]
def Src.stand : Src → Array Value → Heap → Prop
  | .lst a, its, h => h.IsList a its
  | .tup a, its, h => h.IsTuple a its
  | .txt _ _, _, _ => True
def Src.iter : Src → Obj
  | .lst a => { cls := .type "list_iterator", data := .fields #[.ref a, .int 0 0] }
  | .tup a => { cls := .type "tuple_iterator", data := .fields #[.ref a, .int 0 0] }
  | .txt z t => { cls := .type (strIterType z), data := .fields #[.str z t, .int 0 0] }
def Src.far : Src → Addr → Prop
  | .lst a, b => a ≠ b
  | .tup a, b => a ≠ b
  | .txt _ _, _ => True
theorem Src.cell_at {c : Src} {it : Addr} {i : Nat} {h h' : Heap} (s : c.cell it i h) (k : ∀ o, h.get? it = some o → h'.get? it = some o) : c.cell it i h' := by
  cases c with
  | lst a => exact Heap.IsListIter.at s k
  | tup a => exact Heap.IsTupleIter.at s k
  | txt z t => obtain ⟨o, e, cd⟩ := s; exact ⟨o, k o e, cd⟩
theorem Src.cell_obj {c : Src} {it : Addr} {i : Nat} {h : Heap} (s : c.cell it i h) : ∃ o, h.get? it = some o ∧ ∀ v, o.data ≠ .cell v := by
  cases c with
  | lst a => obtain ⟨o, e, _, d⟩ := s; exact ⟨o, e, fun v z => by rw [d] at z; cases z⟩
  | tup a => obtain ⟨o, e, _, d⟩ := s; exact ⟨o, e, fun v z => by rw [d] at z; cases z⟩
  | txt z t => obtain ⟨o, e, _, d⟩ := s; exact ⟨o, e, fun v z => by rw [d] at z; cases z⟩
theorem Src.begins (c : Src) (its : Array Value) : Begins c.val c.iter (c.stand its) := by
  cases c with
  | lst a => exact begins_list a its
  | tup a => exact begins_tuple a its
  | txt z t => exact begins_text z t
theorem Src.cell0 {c : Src} {it : Addr} {h : Heap} (e : h.get? it = some c.iter) : c.cell it 0 h := by
  cases c with
  | lst a => exact ⟨_, e, rfl, rfl⟩
  | tup a => exact ⟨_, e, rfl, rfl⟩
  | txt z t => exact ⟨_, e, rfl, rfl⟩
def Src.num (c : Src) (its : Array Value) : Nat := match c with
  | .txt z _ => z.cps.size
  | _ => its.size
def Src.P (c : Src) (its : Array Value) (i : Nat) (v : Value) : Prop := match c with
  | .txt z _ => ∃ x u, z.cps[i]? = some x ∧ v = .str ⟨#[x]⟩ u
  | _ => its[i]? = some v
theorem Src.draws {prog : Program} {w : World} {A : Around} (hh : A.handled = none) (c : Src) (it : Addr) (hf : c.far it) (its : Array Value) :
    Draws prog w A it (c.fp it) (c.num its) (c.P its) (fun i h => c.cell it i h ∧ c.stand its h) := by
  cases c with
  | lst a => exact Draws.list hh it a hf its
  | tup a => exact Draws.tuple hh it a hf its
  | txt z t =>
    have D := Draws.text (prog := prog) (w := w) hh it z t
    exact ⟨fun i h st => D.live i h st.1, fun i h h' st k => ⟨D.frame i h h' st.1 k, trivial⟩, fun i s Q E hi st hQ => D.item i s Q E hi st.1 fun x h' tk p st' sb => hQ x h' tk p ⟨st', trivial⟩ sb, fun s Q E st hE => D.done s Q E st.1 hE⟩
section
variable {X : Cx} {pins : List (Addr × Obj)} {σ : L2.St} {H : Hp} {s : Shared}
/-- the source as it stands -/
theorem Src.inj {X : Cx} {pins : List (Addr × Obj)} {σ : L2.St} {H : Hp} {s : Shared} (I : Inv X pins σ H s) {c : Src} {xs ys : List V} (h : c.has X.K H xs) (k : c.has X.K H ys) : xs = ys := by
  cases c with
  | lst a => exact Inv.list_inj I h k
  | tup a => exact Inv.tuple_inj I h k
  | txt z t => exact Eq.trans h (Eq.symm k)
theorem Src.opened (I : Inv X pins σ H s) {c : Src} {xs : List V} (h : c.has X.K H xs) : ∃ its : Array Value, c.stand its s.heap ∧ c.num its = xs.length ∧ ∀ (i : Nat) (x : V), xs[i]? = some x → ∀ v, c.P its i v → RelV x v := by
  cases c with
  | lst a =>
    obtain ⟨its, rv, p, _⟩ := I.list h
    refine ⟨its.toArray, p.isList, ?_, fun i x hx v hv => ?_⟩
    · show its.toArray.size = _
      rw [List.size_toArray, rv.length]
    · obtain ⟨u, hu, ru⟩ := rv.get hx
      have hv' : its[i]? = some v := by simpa [Src.P] using hv
      rw [hu] at hv'
      cases hv'
      exact ru
  | tup a =>
    obtain ⟨its, rv, p, _⟩ := I.tuple h
    refine ⟨its.toArray, p, ?_, fun i x hx v hv => ?_⟩
    · show its.toArray.size = _
      rw [List.size_toArray, rv.length]
    · obtain ⟨u, hu, ru⟩ := rv.get hx
      have hv' : its[i]? = some v := by simpa [Src.P] using hv
      rw [hu] at hv'
      cases hv'
      exact ru
  | txt z t =>
    have h : xs = z.cps.toList.map fun c => V.str ⟨#[c]⟩ := h
    subst h
    refine ⟨#[], trivial, ?_, fun i x hx v hv => ?_⟩
    · show z.cps.size = _
      simp
    · obtain ⟨y, u, h1, h2⟩ := hv
      rw [List.getElem?_map] at hx
      have h1' : z.cps.toList[i]? = some y := by simpa using h1
      rw [h1'] at hx
      cases hx
      exact ⟨u, h2⟩
theorem Src.far_of {c : Src} {b : Addr} (hf : FpOk X pins H b) (I : Inv X pins σ H s) {xs : List V} (h : c.has X.K H xs) : c.far b := by
  obtain ⟨f0, f1, f2, f3, _⟩ := hf
  have kk : ∀ {a : Addr} {o : Obj}, X.K.lookup a = some o → a ≠ b := fun {a o} e z => by
    subst z
    have e1 := I.ok.mod.kin _ _ e
    rcases f3 with f3 | f3
    · exact I.ok.noex _ _ e1 f3
    · exact absurd (Nat.lt_of_lt_of_le (Heap.lt_size (I.ok.bs _ _ e1).1) f3) (Nat.lt_irrefl _)
  cases c with
  | lst a =>
    rcases h with (h | ⟨o, h⟩) | ⟨o, its, n, h, _⟩
    · exact ne_of_none h f0
    · exact ne_of_none h f0
    · exact kk h
  | tup a =>
    rcases h with (h | ⟨o, h⟩) | ⟨o, its, n, h, _⟩
    · exact ne_of_none h f0
    · exact ne_of_none h f0
    · exact kk h
  | txt z t => trivial
end
theorem Src.notin {c : Src} {it b : Addr} (h1 : c.far b) (h2 : b ≠ it) : b ∉ c.fp it := by
  cases c <;> simp [Src.fp, h2]
  · exact fun z => h1 z.symm
  · exact fun z => h1 z.symm
theorem Src.memfp (c : Src) (it : Addr) : it ∈ c.fp it := by cases c <;> simp [Src.fp]

/-! ### enumerate -/
set_option maxHeartbeats 1000000 in
theorem meets_enum1 {v : Value} {o : Obj} {Fh : Heap → Prop} (B : Begins v o Fh) :
    Meets (Builtin.«enumerate.__new__» ⟨[.type "enumerate", v], []⟩) (fun _ R s => Fh s.heap ∧ R (.ok (.ret (.ref (s.heap.push o).objs.size)))
      { s with heap := (s.heap.push o).push { cls := .type "enumerate", data := .fields #[.none, .bool false, .ref s.heap.objs.size, rawInt 0, .none, .none] } }) :=
  .of_wp fun prog w A R s hh => by
    obtain ⟨hp, g, d, tk, os⟩ := s
    obtain ⟨h1, h2⟩ := hh
    have hs := sub_enumerate
    have q : ∀ {A' : Around} {E : Value → Shared → Prop} {Q : Value → Shared → Prop}, Q (.ref hp.objs.size) ⟨hp.push o, g, d, tk, os⟩ → wpAny (model prog w) A' (pyIter v) Q E ⟨hp, g, d, tk, os⟩ :=
      fun z => B.iter prog w _ _ ⟨hp, g, d, tk, os⟩ _ h1 z
    wp_walk using q
    refine wpAny_stack_any fun st => wpAny_pure ?_
    split
    · rename_i c _ _ _ _ _
      cases (c == Value.type "enumerate") <;> (wp_walk using q; exact ⟨_, rfl, h2⟩)
    · (wp_walk using q; exact ⟨_, rfl, h2⟩)
theorem call_enum1 {prog : Program} {w : World} {A : Around} {E : Value → Shared → Prop} {s : Shared} {v : Value} {o : Obj} {Fh : Heap → Prop} {Q : Value → Shared → Prop} (B : Begins v o Fh) (h1 : Fh s.heap)
    (h : ∀ h', IsEnum h' (s.heap.objs.size + 1) s.heap.objs.size 0 .none → h'.get? s.heap.objs.size = some o → (∀ b x, s.heap.get? b = some x → h'.get? b = some x) → Q (.ref (s.heap.objs.size + 1)) { s with heap := h' }) :
    wpAny (model prog w) A (call (.type "enumerate") [v]) Q E s := by
  refine callType_new F.called_enumerate (by decide) (F.typeCall_enumerate_1 _) (F.newCall_enumerate_1 _) (fun obj => F.args_object_init_2 obj _) F.entry_enumerate_new (meets_enum1 B) ⟨h1, ?_⟩
  have hz : (s.heap.push o).objs.size = s.heap.objs.size + 1 := Heap.size_push ..
  show _ ∧ _
  rw [hz]
  have he : IsEnum ((s.heap.push o).push { cls := .type "enumerate", data := .fields #[.none, .bool false, .ref s.heap.objs.size, rawInt 0, .none, .none] }) (s.heap.objs.size + 1) s.heap.objs.size 0 .none := by
    have z := Heap.get?_push_size (s.heap.push o) (o := { cls := .type "enumerate", data := .fields #[.none, .bool false, .ref s.heap.objs.size, rawInt 0, .none, .none] }) rfl
    rw [hz] at z; exact z
  exact ⟨⟨_, he, rfl⟩, h _ he (Heap.get?_push_of_some _ (Heap.get?_push_size _ B.free)) fun b x z => Heap.get?_push_of_some _ (Heap.get?_push_of_some _ z)⟩
/-- (i, x), the pair new -/
def ItE (K : PySem.W.Frag) (c : Src) : L2.It :=
  ⟨fun i H => ∃ xs x, c.has K H xs ∧ xs[i]? = some x,
    fun i H v H' => ∃ T x, v = .ref T ∧ H T = none ∧ H' = upd H T (.tup [.int (i : Nat), x]) ∧ ∀ xs, c.has K H xs → xs[i]? = some x,
    fun i H => ∃ xs, c.has K H xs ∧ xs.length = i⟩
theorem turn_enumS {P : Program} {w : World} {K : PySem.W.Frag} {elts : List Expr} {kk : Nat} {tpos : Pos} (c : Src) (e it : Addr) :
    Turn P w K (.Tuple elts kk tpos) (ItE K c) [e, it] e (fun i h => (∃ old, IsEnum h e it (0 + ((i : Nat) : Int)) old) ∧ c.cell it i h ∧ e ≠ it) where
  mem := by simp
  obj := fun i h st b hb => by
    obtain ⟨⟨old, he⟩, hi, _⟩ := st
    have e' : b = e ∨ b = it := by simpa using hb
    rcases e' with z | z
    · rw [z]; exact ⟨_, he, fun v q => nomatch q⟩
    · rw [z]; exact Src.cell_obj hi
  keep := fun i h h' st k => let ⟨⟨old, he⟩, hi, hne⟩ := st; ⟨⟨old, k e (by simp) _ he⟩, Src.cell_at hi fun o q => k it (by simp) o q, hne⟩
  item := by
    intro X hP hw hK hc i pins s σ H E I hf st hg
    subst hP hw hK
    obtain ⟨⟨old, he⟩, hit, hne⟩ := st
    obtain ⟨xs, x, hq, hx⟩ := hg
    obtain ⟨its, hs, hn, hP⟩ := Src.opened I hq
    have hel : e < s.heap.objs.size := Heap.lt_size he
    obtain ⟨oi, hoi, _⟩ := Src.cell_obj hit
    have hil : it < s.heap.objs.size := Heap.lt_size hoi
    have far : c.far it := Src.far_of (hf it (by simp)) I hq
    have fare : e ∉ c.fp it := Src.notin (Src.far_of (hf e (by simp)) I hq) hne
    have mem : it ∈ c.fp it := c.memfp it
    have G := GoesN.enumFrom (elts := elts) (x1 := kk) (pos := tpos) 0 (Src.draws (prog := X.prog) (w := X.w) (A := X.A.in1) (I.ok.hd hc) c it far its) e hne fare mem
    have hi : i < c.num its := by rw [hn]; exact (List.getElem?_eq_some_iff.mp hx).1
    refine wpAny_mono (G.goes i s (fun u s2 => ∃ x H', Inv X pins σ H' s2 ∧ RelV x u ∧ (ItE X.K c).yld i H x H' ∧ ((∃ old, IsEnum s2.heap e it (0 + ((i + 1 : Nat) : Int)) old) ∧ c.cell it (i + 1) s2.heap ∧ e ≠ it) ∧ ∀ b ∈ [e, it], H' b = none) E hi ⟨⟨old, he⟩, hit, hs⟩ fun v h' tk hY st' hk _ => ?_) (fun r s1 h => h) fun _ _ z => z
    obtain ⟨T, t, u, rfl, hT, hPu, hTup⟩ := hY
    have ru := hP i x hx u hPu
    have new : ObjOk X.prog X.w (upd H T (.tup [.int (i : Nat), x])) h' T (.tup [.int (i : Nat), x]) :=
      ⟨by show 2 ≤ sizeLine; decide, [.int (0 + (i : Int)) t, u], .cons ⟨t, by rw [Int.zero_add]⟩ (.cons ru .nil), hTup⟩
    have I1 : Inv X pins σ (upd H T (.tup [.int (i : Nat), x])) { s with heap := h', toks := tk } := I.turnedNew (ch := [e, it]) hk hf hT new
    refine ⟨.ref T, _, I1, rfl, ⟨T, x, rfl, I.hok.fresh hT, rfl, fun zs hz => Src.inj I hq hz ▸ hx⟩, ⟨st'.1, st'.2.1, hne⟩, fun b hb => ?_⟩
    have hb' : b < s.heap.objs.size := by
      have e' : b = e ∨ b = it := by simpa using hb
      rcases e' with z | z
      · rw [z]; exact hel
      · rw [z]; exact hil
    rw [upd_ne (Nat.ne_of_lt (Nat.lt_of_lt_of_le hb' hT))]
    exact (hf b hb).1
  done := by
    intro X hP hw hK hc i pins s σ H E I hf st hg
    subst hP hw hK
    obtain ⟨⟨old, he⟩, hit, hne⟩ := st
    obtain ⟨xs, hq, hx⟩ := hg
    obtain ⟨its, hs, hn, hP⟩ := Src.opened I hq
    have far : c.far it := Src.far_of (hf it (by simp)) I hq
    have fare : e ∉ c.fp it := Src.notin (Src.far_of (hf e (by simp)) I hq) hne
    have mem : it ∈ c.fp it := c.memfp it
    have G := GoesN.enumFrom (elts := elts) (x1 := kk) (pos := tpos) 0 (Src.draws (prog := X.prog) (w := X.w) (A := X.A.in1) (I.ok.hd hc) c it far its) e hne fare mem
    have hi : i = c.num its := by rw [hn, hx]
    subst hi
    refine G.stops s _ E ⟨⟨old, he⟩, hit, hs⟩ fun h' tk hk _ => ?_
    exact I.step (g' := s.gens) (d' := s.drawn) (ch := [e, it]) (fun b hb => ⟨(hf b hb).2.2.2.1, (hf b hb).2.1, (hf b hb).2.2.2.2.1, (hf b hb).2.2.2.2.2⟩) (fun b o _ _ hc' e _ => hk b o hc' e) (fun b o _ _ hc' e _ => ⟨o.slots, hk b o hc' e⟩)
      (fun _ _ _ _ n => n) (fun b o hc' e => ⟨o, hk b o hc' e⟩) (fun _ _ e => e) (fun _ _ _ e => e) (fun b ps e => ⟨#[], by rw [e]; simp⟩)
      (fun m hm => by
        obtain ⟨o, es, ep, ho, r⟩ := hm
        exact ⟨o, es, ep, hk _ o (fun z => (hf _ z).2.1 rfl) ho, r⟩)
      (fun b u e => (I.hok b u e).stay (fun x v hx q => hk x v (fun z => by
        have q1 := (hf x z).1
        rcases hx with hx | hx
        · subst hx; rw [q1] at e; cases e
        · rw [q1] at hx; cases hx) q) (fun _ q => q) fun _ _ q => q) I.bare
  self := fun A i s Q E st h => let ⟨⟨_, he⟩, _⟩ := st; wpAny_pyIter_enum he h
/-- what is told of a value that is walked -/
def SrcV (K : PySem.W.Frag) (v : V) (H : Hp) (R : (Tok → Src) → Prop) : Prop := match v with
  | .ref a => ((∃ xs, SqL K H a xs) ∧ R fun _ => .lst a) ∨ ((∃ xs, SqT K H a xs) ∧ R fun _ => .tup a)
  | .str z => R fun t => .txt z t
  | _ => False
/-- a reading that wants the iterator by the source, whatever its token -/
def iEnumS (K : PySem.W.Frag) (ta : TA) : TI := fun σ H R => ta σ H fun vs H1 => ∃ v, vs = [v] ∧ SrcV K v H1 fun c => ∀ t, R (ItE K (c t)) H1
theorem srcV_open {X : Cx} {pins : List (Addr × Obj)} {σ : L2.St} {H : Hp} {s : Shared} (I : Inv X pins σ H s) {v : V} {u : Value} (r : RelV v u) {R : Src → Prop} (h : SrcV X.K v H fun c => ∀ t, R (c t)) : ∃ c : Src, u = c.val ∧ (∃ xs, c.has X.K H xs) ∧ R c := by
  cases v with
  | ref a =>
    cases r
    rcases h with ⟨⟨xs, h1⟩, h2⟩ | ⟨⟨xs, h1⟩, h2⟩
    · exact ⟨.lst a, rfl, ⟨xs, h1⟩, h2 0⟩
    · exact ⟨.tup a, rfl, ⟨xs, h1⟩, h2 0⟩
  | str z =>
    obtain ⟨t, rfl⟩ := r
    exact ⟨.txt z t, rfl, ⟨_, rfl⟩, h t⟩
  | _ => exact h.elim
theorem pi_enumS {X : Cx} {e : Expr} {ta : TA} {p pos tpos : Pos} {elts : List Expr} {kk : Nat} (hg : Gl X "enumerate") (hm : X.mg "enumerate" = none) (ha : PA X [e] ta) (hs : starEach [e] X.env = [(false, eval e X.env)]) :
    PI X (.Tuple elts kk tpos) (.Call (.Name "enumerate" p) [e] [] pos) (iEnumS X.K ta) := by
  refine ⟨fun pins s σ H R I h => ?_⟩
  refine Call_ (ld_blt I hg hm boot_enumerate (PyProof.Rows.callWith_type1 (thn (ha.run pos pins s σ H _ I h) fun us s1 ⟨vs, H1, I1, r1, q1⟩ => ?_) hs rfl))
  obtain ⟨v, ex, q⟩ := q1
  subst ex
  obtain ⟨u, rfl, ru⟩ := vals1 r1
  obtain ⟨c, rfl, ⟨xs, hx⟩, q⟩ := srcV_open I1 ru (R := fun c => R (ItE X.K c) H1) q
  obtain ⟨its, hst, _, _⟩ := Src.opened I1 hx
  refine call_enum1 (c.begins its) hst fun h' he hit hk => wpAny_pyIter_enum he ?_
  have I2 : Inv X pins σ H1 { s1 with heap := h' } := I1.kept (t' := s1.toks) hk
  refine ⟨s1.heap.objs.size + 1, [s1.heap.objs.size + 1, s1.heap.objs.size], _, _, H1, rfl, I2, turn_enumS c (s1.heap.objs.size + 1) s1.heap.objs.size, ⟨⟨.none, he⟩, Src.cell0 hit, Nat.succ_ne_self _⟩, fun b hb => ?_, q⟩
  have e' : b = s1.heap.objs.size + 1 ∨ b = s1.heap.objs.size := by simpa using hb
  have hle : s1.heap.objs.size ≤ b := by
    rcases e' with z | z
    · rw [z]; exact Nat.le_succ _
    · rw [z]; exact Nat.le_refl _
  exact I1.fpOk hle (I1.hok.fresh hle)

/-! ### zip -/
def ItZ (K : PySem.W.Frag) (c1 c2 : Src) : L2.It :=
  ⟨fun i H => ∃ xs ys x y, c1.has K H xs ∧ c2.has K H ys ∧ xs[i]? = some x ∧ ys[i]? = some y,
    fun i H v H' => ∃ T x y, v = .ref T ∧ H T = none ∧ H' = upd H T (.tup [x, y]) ∧ ∀ xs ys, c1.has K H xs → c2.has K H ys → xs[i]? = some x ∧ ys[i]? = some y,
    fun i H => ∃ xs ys, c1.has K H xs ∧ c2.has K H ys ∧ min xs.length ys.length = i⟩
/-- the cells of a zip lie apart -/
structure Apart (z TI TO i1 i2 : Addr) : Prop where
  a1 : TI ≠ z
  a2 : TO ≠ z
  a3 : TI ≠ TO
  a4 : TI ≠ i1
  a5 : TI ≠ i2
  a6 : z ≠ i1
  a7 : z ≠ i2
  a8 : TO ≠ i1
  a9 : TO ≠ i2
  a10 : i1 ≠ i2
theorem Apart.sep {z TI TO i1 i2 : Addr} (D : Apart z TI TO i1 i2) {c1 c2 : Src} (f1 : ∀ b ∈ [z, TI, TO, i1, i2], c1.far b) (f2 : ∀ b ∈ [z, TI, TO, i1, i2], c2.far b) : ZipSep2 z TI TO i1 i2 (c1.fp i1) (c2.fp i2) :=
  ⟨D.a1, D.a2, D.a3, D.a4, c1.memfp i1, Src.notin (f1 _ (by simp)) D.a6, Src.notin (f1 _ (by simp)) D.a8, D.a5, c2.memfp i2, Src.notin (f2 _ (by simp)) D.a7, Src.notin (f2 _ (by simp)) D.a9,
    Src.notin (f2 _ (by simp)) D.a10, Src.notin (f1 _ (by simp)) (Ne.symm D.a10)⟩
theorem turn_zipS {P : Program} {w : World} {K : PySem.W.Frag} {elts : List Expr} {kk : Nat} {tpos : Pos} (c1 c2 : Src) {z TI TO i1 i2 : Addr} (D : Apart z TI TO i1 i2) :
    Turn P w K (.Tuple elts kk tpos) (ItZ K c1 c2) [z, TI, TO, i1, i2] z (fun i h => IsZip h z TI TO .none ∧ IsTupOf2 h TI (.ref i1) (.ref i2) ∧ (∃ a1 a2, IsTupOf2 h TO a1 a2) ∧ c1.cell i1 i h ∧ c2.cell i2 i h) where
  mem := by simp
  obj := fun i h st b hb => by
    obtain ⟨hz, hTI, ⟨x, y, hTO⟩, h1, h2⟩ := st
    have e' : b = z ∨ b = TI ∨ b = TO ∨ b = i1 ∨ b = i2 := by simpa using hb
    rcases e' with q | q | q | q | q
    · rw [q]; exact ⟨_, hz, fun v q => nomatch q⟩
    · rw [q]; exact ⟨_, hTI, fun v q => nomatch q⟩
    · rw [q]; exact ⟨_, hTO, fun v q => nomatch q⟩
    · rw [q]; exact Src.cell_obj h1
    · rw [q]; exact Src.cell_obj h2
  keep := fun i h h' st k => by
    obtain ⟨hz, hTI, ⟨x, y, hTO⟩, h1, h2⟩ := st
    exact ⟨k z (by simp) _ hz, k TI (by simp) _ hTI, ⟨x, y, k TO (by simp) _ hTO⟩, Src.cell_at h1 fun o q => k i1 (by simp) o q, Src.cell_at h2 fun o q => k i2 (by simp) o q⟩
  item := by
    intro X hP hw hK hc i pins s σ H E I hf st hg
    subst hP hw hK
    have st0 := st
    obtain ⟨hz, hTI, hTO, h1, h2⟩ := st
    obtain ⟨xs, ys, x, y, hq1, hq2, hx, hy⟩ := hg
    obtain ⟨its1, hs1, hn1, hP1⟩ := Src.opened I hq1
    obtain ⟨its2, hs2, hn2, hP2⟩ := Src.opened I hq2
    have F1 : ∀ b ∈ [z, TI, TO, i1, i2], c1.far b := fun b hb => Src.far_of (hf b hb) I hq1
    have F2 : ∀ b ∈ [z, TI, TO, i1, i2], c2.far b := fun b hb => Src.far_of (hf b hb) I hq2
    have G := GoesN.zip2 (elts := elts) (x1 := kk) (pos := tpos) (D.sep F1 F2) (Src.draws (prog := X.prog) (w := X.w) (A := X.A.in1) (I.ok.hd hc) c1 i1 (F1 _ (by simp)) its1) (Src.draws (prog := X.prog) (w := X.w) (A := X.A.in1) (I.ok.hd hc) c2 i2 (F2 _ (by simp)) its2)
    have hi : i < min (c1.num its1) (c2.num its2) := by
      rw [hn1, hn2]
      exact Nat.lt_min.mpr ⟨(List.getElem?_eq_some_iff.mp hx).1, (List.getElem?_eq_some_iff.mp hy).1⟩
    have hb0 : ∀ b ∈ [z, TI, TO, i1, i2], b < s.heap.objs.size := fun b hb => by
      have e' : b = z ∨ b = TI ∨ b = TO ∨ b = i1 ∨ b = i2 := by simpa using hb
      rcases e' with q | q | q | q | q
      · rw [q]; exact Heap.lt_size hz
      · rw [q]; exact Heap.lt_size hTI
      · rw [q]; obtain ⟨_, _, e⟩ := hTO; exact Heap.lt_size e
      · rw [q]; obtain ⟨o, e, _⟩ := Src.cell_obj h1; exact Heap.lt_size e
      · rw [q]; obtain ⟨o, e, _⟩ := Src.cell_obj h2; exact Heap.lt_size e
    refine wpAny_mono (G.goes i s (fun u s2 => ∃ x H', Inv X pins σ H' s2 ∧ RelV x u ∧ (ItZ X.K c1 c2).yld i H x H' ∧ (IsZip s2.heap z TI TO .none ∧ IsTupOf2 s2.heap TI (.ref i1) (.ref i2) ∧ (∃ a1 a2, IsTupOf2 s2.heap TO a1 a2) ∧ c1.cell i1 (i + 1) s2.heap ∧ c2.cell i2 (i + 1) s2.heap) ∧ ∀ b ∈ [z, TI, TO, i1, i2], H' b = none) E hi ⟨hz, hTI, hTO, ⟨h1, hs1⟩, ⟨h2, hs2⟩⟩ fun v h' tk hY st' hk _ => ?_) (fun r s1 h => h) fun _ _ z => z
    obtain ⟨T, u1, u2, rfl, hT, p1, p2, hTup⟩ := hY
    have r1 := hP1 i x hx u1 p1
    have r2 := hP2 i y hy u2 p2
    have new : ObjOk X.prog X.w (upd H T (.tup [x, y])) h' T (.tup [x, y]) := ⟨by show 2 ≤ sizeLine; decide, [u1, u2], .cons r1 (.cons r2 .nil), hTup⟩
    have I1 : Inv X pins σ (upd H T (.tup [x, y])) { s with heap := h', toks := tk } := I.turnedNew (ch := [z, TO, i1, i2]) hk (fun b hb => hf b (by simp at hb ⊢; rcases hb with e | e | e | e <;> simp [e])) hT new
    exact ⟨.ref T, _, I1, rfl, ⟨T, x, y, rfl, I.hok.fresh hT, rfl, fun zs ws h1 h2 => ⟨Src.inj I hq1 h1 ▸ hx, Src.inj I hq2 h2 ▸ hy⟩⟩, ⟨st'.1, st'.2.1, st'.2.2.1, st'.2.2.2.1.1, st'.2.2.2.2.1⟩, fun b hb => by
      rw [upd_ne (Nat.ne_of_lt (Nat.lt_of_lt_of_le (hb0 b hb) hT))]
      exact (hf b hb).1⟩
  done := by
    intro X hP hw hK hc i pins s σ H E I hf st hg
    subst hP hw hK
    obtain ⟨hz, hTI, hTO, h1, h2⟩ := st
    obtain ⟨xs, ys, hq1, hq2, hx⟩ := hg
    obtain ⟨its1, hs1, hn1, hP1⟩ := Src.opened I hq1
    obtain ⟨its2, hs2, hn2, hP2⟩ := Src.opened I hq2
    have F1 : ∀ b ∈ [z, TI, TO, i1, i2], c1.far b := fun b hb => Src.far_of (hf b hb) I hq1
    have F2 : ∀ b ∈ [z, TI, TO, i1, i2], c2.far b := fun b hb => Src.far_of (hf b hb) I hq2
    have G := GoesN.zip2 (elts := elts) (x1 := kk) (pos := tpos) (D.sep F1 F2) (Src.draws (prog := X.prog) (w := X.w) (A := X.A.in1) (I.ok.hd hc) c1 i1 (F1 _ (by simp)) its1) (Src.draws (prog := X.prog) (w := X.w) (A := X.A.in1) (I.ok.hd hc) c2 i2 (F2 _ (by simp)) its2)
    have hi : i = min (c1.num its1) (c2.num its2) := by rw [hn1, hn2, hx]
    subst hi
    refine G.stops s _ E ⟨hz, hTI, hTO, ⟨h1, hs1⟩, ⟨h2, hs2⟩⟩ fun h' tk hk _ => ?_
    have hf' : ∀ b ∈ [z, TO, i1, i2], FpOk X pins H b := fun b hb => hf b (by simp at hb ⊢; rcases hb with e | e | e | e <;> simp [e])
    exact I.step (g' := s.gens) (d' := s.drawn) (ch := [z, TO, i1, i2]) (fun b hb => ⟨(hf' b hb).2.2.2.1, (hf' b hb).2.1, (hf' b hb).2.2.2.2.1, (hf' b hb).2.2.2.2.2⟩) (fun b o _ _ hc' e _ => hk b o hc' e) (fun b o _ _ hc' e _ => ⟨o.slots, hk b o hc' e⟩)
      (fun _ _ _ _ n => n) (fun b o hc' e => ⟨o, hk b o hc' e⟩) (fun _ _ e => e) (fun _ _ _ e => e) (fun b ps e => ⟨#[], by rw [e]; simp⟩)
      (fun m hm => by
        obtain ⟨o, es, ep, ho, r⟩ := hm
        exact ⟨o, es, ep, hk _ o (fun z => (hf' _ z).2.1 rfl) ho, r⟩)
      (fun b u e => (I.hok b u e).stay (fun x v hx q => hk x v (fun z => by
        have q1 := (hf' x z).1
        rcases hx with hx | hx
        · subst hx; rw [q1] at e; cases e
        · rw [q1] at hx; cases hx) q) (fun _ q => q) fun _ _ q => q) I.bare
  self := fun A i s Q E st h => wpAny_pyIter_zip st.1 h
def iZipS (K : PySem.W.Frag) (ta : TA) : TI := fun σ H R => ta σ H fun vs H1 => ∃ v u, vs = [v, u] ∧ SrcV K v H1 fun c1 => ∀ t, SrcV K u H1 fun c2 => ∀ t2, R (ItZ K (c1 t) (c2 t2)) H1
theorem pi_zipS {X : Cx} {e e2 : Expr} {ta : TA} {p pos tpos : Pos} {elts : List Expr} {kk : Nat} (hg : Gl X "zip") (hm : X.mg "zip" = none) (ha : PA X [e, e2] ta)
    (hs : starEach [e, e2] X.env = (false, eval e X.env) :: starEach [e2] X.env) (hpl : (backTo pos (starEach [e2] X.env)).any (·.1) = false) :
    PI X (.Tuple elts kk tpos) (.Call (.Name "zip" p) [e, e2] [] pos) (iZipS X.K ta) := by
  refine ⟨fun pins s σ H R I h => ?_⟩
  refine Call_ (ld_blt I hg hm PyProof.Rows.boot_zip (PyProof.Rows.callWith_type1 (thn (ha.run pos pins s σ H _ I h) fun us s1 ⟨vs, H1, I1, r1, q1⟩ => ?_) hs hpl))
  obtain ⟨v, u, ex, q⟩ := q1
  subst ex
  obtain ⟨w1, w2, rfl, r1, r2⟩ := vals2 r1
  obtain ⟨c1, rfl, ⟨xs, hx⟩, q⟩ := srcV_open I1 r1 (R := fun c1 => SrcV X.K u H1 fun c2 => ∀ t2, R (ItZ X.K c1 (c2 t2)) H1) q
  obtain ⟨c2, rfl, ⟨ys, hy⟩, q⟩ := srcV_open I1 r2 (R := fun c2 => R (ItZ X.K c1 c2) H1) q
  obtain ⟨its1, hst1, _, _⟩ := Src.opened I1 hx
  obtain ⟨its2, hst2, _, _⟩ := Src.opened I1 hy
  refine zip_begins2 (c1.begins its1) (c2.begins its2) hst1 hst2 fun h' hz hTI hTO e1 e2 hsz hk => wpAny_pyIter_zip hz ?_
  have I2 : Inv X pins σ H1 { s1 with heap := h' } := I1.kept (t' := s1.toks) hk
  have D : Apart (s1.heap.objs.size + 4) (s1.heap.objs.size + 2) (s1.heap.objs.size + 3) s1.heap.objs.size (s1.heap.objs.size + 1) := by
    constructor <;> (intro q; have q' : (_ : Nat) = _ := q; omega)
  refine ⟨s1.heap.objs.size + 4, _, _, _, H1, rfl, I2, turn_zipS c1 c2 D, ⟨hz, hTI, ⟨_, _, hTO⟩, Src.cell0 e1, Src.cell0 e2⟩, fun b hb => ?_, q⟩
  have hle : s1.heap.objs.size ≤ b := by
    have e' : b = s1.heap.objs.size + 4 ∨ b = s1.heap.objs.size + 2 ∨ b = s1.heap.objs.size + 3 ∨ b = s1.heap.objs.size ∨ b = s1.heap.objs.size + 1 := by simpa using hb
    rcases e' with q | q | q | q | q
    · rw [q]; exact Nat.le_add_right _ _
    · rw [q]; exact Nat.le_add_right _ _
    · rw [q]; exact Nat.le_add_right _ _
    · rw [q]; exact Nat.le_refl _
    · rw [q]; exact Nat.le_add_right _ _
  exact I1.fpOk hle (I1.hok.fresh hle)
end Pd

/-! Pd8: the readings by the evaluator; the pieces of the soundness. -/
namespace Pd
open PySem PySem.Spec PyProof.Rows L2

def bltNames : List Str := ["len", "abs", "int", "list", "tuple", "dict", "sum", "min", "max", "all", "any", "sorted", "range", "isinstance", "repr", "str", "enumerate", "zip", "bool", "set"]
structure Sig where
  fns : List (Str × List Str)
  gvs : List (Str × D)
/-- what a call of a def promises -/
def spC (Φ : Calls) (f : Str) (k : Nat) : Sp := fun vs H Q _ => ∃ M Λ S ds d S', RelS M Λ S H ∧ RVs M Λ H ds vs ∧ ds.length = k ∧ Φ f ds S = some (d, S') ∧ ∀ v H' Λ', Step Λ H Λ' H' → RelS M Λ' S' H' → RV M Λ' H' d v → Q v H'
structure OkX (G : Sig) (Φ : Calls) (n : Nat) (X : Cx) : Prop where
  nd : X.N.Nodup
  calm : X.calm = true
  room : Room n X.A
  c0 : Calm0 X.A
  blt : ∀ x ∈ bltNames, X.mg x = none
  fn : ∀ f ps, G.fns.lookup f = some ps → ∃ a fd, X.mg f = some (.ref a) ∧ PySem.W.keepIn X.K (.ref a) = true ∧ Binds X.K fd ps [] ∧ FnG X.prog X.w X.K X.mg X.base CX0 n a fd ps (spC Φ f ps.length)
  gv : ∀ x d, G.gvs.lookup x = some d → ∃ v u, X.mg x = some u ∧ RelV v u ∧ ∀ M Λ H, RV M Λ H d v

def tE (f : Env → Store → Option (D × Store)) : TE := fun σ H Q => ∃ M ρ S Λ d S', RelS M Λ S H ∧ RelE M Λ H ρ σ ∧ f ρ S = some (d, S') ∧ ∀ v H' Λ', Step Λ H Λ' H' → RelS M Λ' S' H' → RV M Λ' H' d v → Q v H'
def tT (f : Env → Store → Option (D × Store)) : TT := fun σ H Q => ∃ M ρ S Λ b S', RelS M Λ S H ∧ RelE M Λ H ρ σ ∧ f ρ S = some (.bl b, S') ∧ ∀ H' Λ', Step Λ H Λ' H' → RelS M Λ' S' H' → Q b H'
def tA (f : Env → Store → Option (List D × Store)) : TA := fun σ H Q => ∃ M ρ S Λ ds S', RelS M Λ S H ∧ RelE M Λ H ρ σ ∧ f ρ S = some (ds, S') ∧ ∀ vs H' Λ', Step Λ H Λ' H' → RelS M Λ' S' H' → RVs M Λ' H' ds vs → Q vs H'
theorem PE.imp {X : Cx} {e : Expr} {t t' : TE} (h : PE X e t) (i : ∀ σ H Q, t' σ H Q → t σ H Q) : PE X e t' := ⟨fun pins s σ H Q I q => h.run pins s σ H Q I (i σ H Q q)⟩
theorem PT.imp {X : Cx} {e : Expr} {t t' : TT} (h : PT X e t) (i : ∀ σ H Q, t' σ H Q → t σ H Q) : PT X e t' := ⟨fun pins s σ H Q I q => h.run pins s σ H Q I (i σ H Q q)⟩
theorem PW.imp {X : Cx} {e : Expr} {t t' : TT} (h : PW X e t) (i : ∀ σ H Q, t' σ H Q → t σ H Q) : PW X e t' := ⟨fun wh pins s σ H Q I q => h.run wh pins s σ H Q I (i σ H Q q)⟩
theorem PA.imp {X : Cx} {e : List Expr} {t t' : TA} (h : PA X e t) (i : ∀ σ H Q, t' σ H Q → t σ H Q) : PA X e t' := ⟨fun pos pins s σ H Q I q => h.run pos pins s σ H Q I (i σ H Q q)⟩
theorem PI.imp {X : Cx} {tg e : Expr} {t t' : TI} (h : PI X tg e t) (i : ∀ σ H Q, t' σ H Q → t σ H Q) : PI X tg e t' := ⟨fun pins s σ H Q I q => h.run pins s σ H Q I (i σ H Q q)⟩
theorem PE.or {X : Cx} {e : Expr} {t t' : TE} (h : PE X e t) (h' : PE X e t') : PE X e (fun σ H Q => t σ H Q ∨ t' σ H Q) := ⟨fun pins s σ H Q I q => q.elim (h.run pins s σ H Q I) (h'.run pins s σ H Q I)⟩
theorem PI.or {X : Cx} {tg e : Expr} {t t' : TI} (h : PI X tg e t) (h' : PI X tg e t') : PI X tg e (fun σ H Q => t σ H Q ∨ t' σ H Q) := ⟨fun pins s σ H Q I q => q.elim (h.run pins s σ H Q I) (h'.run pins s σ H Q I)⟩

section
variable {M : Addr → Prop} {Λ Λ' : List Addr} {H H' : Hp} {S S' : Store} {d : D} {v : V} {Q : VK} {X : Cx} {ρ : Env} {σ : L2.St}
/-- a primitive's end -/
theorem fin_prk {r : PR} {k : Bool} (hd : ∀ t ks vs, r ≠ .new (.dv t ks vs) ∨ k = true) (R : RelS M Λ S H) (q : ∀ v H' Λ', Step Λ H Λ' H' → RelS M Λ' (fin k r S).2 H' → RV M Λ' H' (fin k r S).1 v → Q v H') : PRk M Λ r H Q := by
  cases r with
  | val d => exact fun v H1 s r => q v H1 Λ (Step.same s) (R.same s) r
  | new c =>
    intro a H1 ho s hn r hm
    have R1 := R.same s
    cases k with
    | true =>
      obtain ⟨z1, z2, z3⟩ := adopt R1 hn r
      exact q _ _ _ ((Step.same s).trans z3) z1 z2
    | false =>
      cases r with
      | lst r =>
        obtain ⟨z1, z2, z3⟩ := freeze R1 hn r
        exact q _ _ _ ((Step.same s).trans z3) z1 z2
      | dK _ _ => exact absurd rfl ((hd _ _ _).resolve_right (by simp))
      | dT _ _ => exact absurd rfl ((hd _ _ _).resolve_right (by simp))
      | lk _ => exact hm.elim
theorem tE_of {f : Env → Store → Option (D × Store)} {d : D} {S' : Store} (R : RelS M Λ S H) (RE : RelE M Λ H ρ σ) (h : f ρ S = some (d, S')) (q : ∀ v H' Λ', Step Λ H Λ' H' → RelS M Λ' S' H' → RV M Λ' H' d v → Q v H') : tE f σ H Q :=
  ⟨M, ρ, S, Λ, d, S', R, RE, h, q⟩

/-! ### names, constants -/
theorem se_var {i : Nat} {x : Str} {pos : Pos} (hN : X.N[i]? = some x) (hv : Vis X.env.scope x) (hd : (x == ("__debug__" : Str)) = false) (hcd : (x == ("__classdict__" : Str)) = false) {f : Env → Store → Option (D × Store)}
    (hf : ∀ ρ S d S', f ρ S = some (d, S') → ρ[i]? = some (some d) ∧ S' = S) : PE X (.Name x pos) (tE f) :=
  PE.imp (pe_var hN hv hd hcd) fun σ H Q ⟨M, ρ, S, Λ, d, S', R, RE, h, q⟩ => by
    obtain ⟨h1, rfl⟩ := hf _ _ _ _ h
    obtain ⟨v, h2, r⟩ := RE.2 i d h1
    exact ⟨v, h2, q v H Λ Step.refl R r⟩
theorem se_const {e : Expr} {v : V} {d : D} (hp : PE X e (tC v)) (hr : ∀ M Λ H, RV M Λ H d v) {f : Env → Store → Option (D × Store)} (hf : ∀ ρ S d' S', f ρ S = some (d', S') → d' = d ∧ S' = S) : PE X e (tE f) :=
  PE.imp hp fun σ H Q ⟨M, ρ, S, Λ, d', S', R, RE, h, q⟩ => by
    obtain ⟨rfl, rfl⟩ := hf _ _ _ _ h
    exact q v H Λ Step.refl R (hr _ _ _)
/-! ### operators -/
variable {a b c : Expr} {fa fb fc : Env → Store → Option (D × Store)} {pos : Pos}
theorem se_op (o : Op2) (ha : PE X a (tE fa)) (hb : PE X b (tE fb)) : PE X (.BinOp a (astOp o) b pos) (tE fun ρ S => (fa ρ S).bind fun x => (fb ρ x.2).bind fun y => (opS o x.1 y.1 y.2).map fun r => fin false r y.2) :=
  PE.imp (pe_op (opr o) ha hb) fun σ H Q ⟨M, ρ, S, Λ, d, S', R, RE, h, q⟩ => by
    simp only [Option.bind_eq_some_iff, Option.map_eq_some_iff] at h
    obtain ⟨⟨x, S1⟩, h1, ⟨y, S2⟩, h2, r, h3, e⟩ := h
    refine tE_of R RE h1 fun v1 H1 Λ1 s1 R1 r1 => tE_of R1 (RE.step R s1) h2 fun v2 H2 Λ2 s2 R2 r2 => ⟨M, Λ2, S2, x, y, r, R2, r1.step R1 s2, r2, h3, ?_⟩
    refine fin_prk (k := false) (fun t ks vs => .inl fun z => ?_) R2 fun v H' Λ' s3 R3 r3 => ?_
    · subst z
      unfold opS at h3
      split at h3 <;> (repeat' split at h3) <;> simp at h3
    · simp only at e R3 r3
      rw [e] at R3 r3
      exact q v H' Λ' (s1.trans (s2.trans s3)) R3 r3
theorem se_neg (ha : PE X a (tE fa)) : PE X (.UnaryOp .USub a pos) (tE fun ρ S => (fa ρ S).bind fun x => match x.1 with | .int i => some (.int (-i), x.2) | _ => none) :=
  PE.imp (pe_un unr_neg ha) fun σ H Q ⟨M, ρ, S, Λ, d, S', R, RE, h, q⟩ => by
    simp only [Option.bind_eq_some_iff] at h
    obtain ⟨⟨x, S1⟩, h1, h⟩ := h
    split at h <;> first | contradiction | skip
    rename_i i e
    simp only at e
    subst e
    simp only [Option.some.injEq, Prod.mk.injEq] at h
    obtain ⟨rfl, rfl⟩ := h
    exact tE_of R RE h1 fun v1 H1 Λ1 s1 R1 r1 => ⟨M, Λ1, i, r1, q _ _ _ s1 R1 (.int _)⟩
theorem se_cmp (hu : X.A.units + 64 < cLine) (o : Cmp) (ha : PE X a (tE fa)) (hb : PE X b (tE fb)) (hm : behindInMarks (astCmp o) b = false) :
    PE X (.Compare a [astCmp o] [b] pos) (tE fun ρ S => (fa ρ S).bind fun x => (fb ρ x.2).bind fun y => (cmpS o x.1 y.1 y.2).map fun r => (.bl r, y.2)) ∧
    PT X (.Compare a [astCmp o] [b] pos) (tT fun ρ S => (fa ρ S).bind fun x => (fb ρ x.2).bind fun y => (cmpS o x.1 y.1 y.2).map fun r => (.bl r, y.2)) := by
  constructor
  · refine PE.imp (pe_cmpR (cmpr hu o) ha hb hm) fun σ H Q ⟨M, ρ, S, Λ, d, S', R, RE, h, q⟩ => ?_
    simp only [Option.bind_eq_some_iff, Option.map_eq_some_iff, Prod.mk.injEq] at h
    obtain ⟨⟨x, S1⟩, h1, ⟨y, S2⟩, h2, r, h3, rfl, rfl⟩ := h
    exact tE_of R RE h1 fun v1 H1 Λ1 s1 R1 r1 => tE_of R1 (RE.step R s1) h2 fun v2 H2 Λ2 s2 R2 r2 => ⟨M, Λ2, S2, x, y, r, R2, r1.step R1 s2, r2, h3, q _ _ _ (s1.trans s2) R2 (.bl _)⟩
  · refine PT.imp (pt_cmpR (cmpr hu o) ha hb hm) fun σ H Q ⟨M, ρ, S, Λ, d, S', R, RE, h, q⟩ => ?_
    simp only [Option.bind_eq_some_iff, Option.map_eq_some_iff, Prod.mk.injEq] at h
    obtain ⟨⟨x, S1⟩, h1, ⟨y, S2⟩, h2, r, h3, e, rfl⟩ := h
    cases e
    exact tE_of R RE h1 fun v1 H1 Λ1 s1 R1 r1 => tE_of R1 (RE.step R s1) h2 fun v2 H2 Λ2 s2 R2 r2 => ⟨M, Λ2, S2, x, y, _, R2, r1.step R1 s2, r2, h3, _, rfl, q _ _ (s1.trans s2) R2⟩
theorem chain_read {o p : Cmp} {σ : L2.St} {H : Hp} {Q : VK} (h : tE (fun ρ S => (fa ρ S).bind fun x => (fb ρ x.2).bind fun y => (cmpS o x.1 y.1 y.2).bind fun r =>
    if r then (fc ρ y.2).bind fun z => (cmpS p y.1 z.1 z.2).map fun q => (.bl q, z.2) else some (.bl false, y.2)) σ H Q) : tChain (rB (cmpS o)) (rB (cmpS p)) (tE fa) (tE fb) (tE fc) σ H Q := by
  obtain ⟨M, ρ, S, Λ, d, S', R, RE, h, q⟩ := h
  simp only [Option.bind_eq_some_iff] at h
  obtain ⟨⟨x, S1⟩, h1, ⟨y, S2⟩, h2, r, h3, h⟩ := h
  refine tE_of R RE h1 fun v1 H1 Λ1 s1 R1 r1 => tE_of R1 (RE.step R s1) h2 fun v2 H2 Λ2 s2 R2 r2 => ⟨M, Λ2, S2, x, y, r, R2, r1.step R1 s2, r2, h3, r, rfl, ?_⟩
  cases r with
  | true =>
    simp only [if_true, Option.bind_eq_some_iff, Option.map_eq_some_iff, Prod.mk.injEq] at h
    obtain ⟨⟨z, S3⟩, h4, r', h5, rfl, rfl⟩ := h
    refine iteT ?_
    exact tE_of R2 ((RE.step R s1).step R1 s2) h4 fun v3 H3 Λ3 s3 R3 r3 => ⟨M, Λ3, S3, y, z, r', R3, r2.step R2 s3, r3, h5, q _ _ _ (s1.trans (s2.trans s3)) R3 (.bl _)⟩
  | false =>
    simp only [Bool.false_eq_true, if_false, Option.some.injEq, Prod.mk.injEq] at h
    obtain ⟨rfl, rfl⟩ := h
    exact iteF (q _ _ _ (s1.trans s2) R2 (.bl _))
theorem tT_tE {f : Env → Store → Option (D × Store)} {σ : L2.St} {H : Hp} {Q : Bool → Hp → Prop} (h : tT f σ H Q) : tE f σ H fun v H' => ∃ k, v = .bl k ∧ Q k H' := by
  obtain ⟨M, ρ, S, Λ, d, S', R, RE, h, q⟩ := h
  exact tE_of R RE h fun v H' Λ' s R' r => ⟨d, bl_of r, q H' Λ' s R'⟩
theorem se_chain (hu : X.A.units + 64 < cLine) (o p : Cmp) (ha : PE X a (tE fa)) (hb : PE X b (tE fb)) (hc : PE X c (tE fc)) (hm : lastMarks [astCmp o, astCmp p] [b, c] = false) :
    PE X (.Compare a [astCmp o, astCmp p] [b, c] pos) (tE fun ρ S => (fa ρ S).bind fun x => (fb ρ x.2).bind fun y => (cmpS o x.1 y.1 y.2).bind fun r =>
      if r then (fc ρ y.2).bind fun z => (cmpS p y.1 z.1 z.2).map fun q => (.bl q, z.2) else some (.bl false, y.2)) ∧
    PT X (.Compare a [astCmp o, astCmp p] [b, c] pos) (tT fun ρ S => (fa ρ S).bind fun x => (fb ρ x.2).bind fun y => (cmpS o x.1 y.1 y.2).bind fun r =>
      if r then (fc ρ y.2).bind fun z => (cmpS p y.1 z.1 z.2).map fun q => (.bl q, z.2) else some (.bl false, y.2)) :=
  ⟨PE.imp (pe_chain (cmpr hu o) (cmpr hu p) ha hb hc hm) fun σ H Q h => chain_read h, PT.imp (pt_chain (cmpr hu o) (cmpr hu p) ha hb hc hm) fun σ H Q h => chain_read (tT_tE h)⟩

/-! ### and, or, not, if -/
abbrev fAnd (fa fb : Env → Store → Option (D × Store)) : Env → Store → Option (D × Store) := fun ρ S => (fa ρ S).bind fun x => match x.1 with
    | .bl k => if k = true then fb ρ x.2 else some (.bl false, x.2)
    | _ => none
abbrev fOr (fa fb : Env → Store → Option (D × Store)) : Env → Store → Option (D × Store) := fun ρ S => (fa ρ S).bind fun x => match x.1 with
    | .bl k => if k = true then some (.bl true, x.2) else fb ρ x.2
    | _ => none
theorem and_split {ρ : Env} {S S' : Store} {d : D} (h : fAnd fa fb ρ S = some (d, S')) : ∃ k S1, fa ρ S = some (.bl k, S1) ∧ (k = true ∧ fb ρ S1 = some (d, S') ∨ k = false ∧ d = .bl false ∧ S' = S1) := by
  simp only [fAnd, Option.bind_eq_some_iff] at h
  obtain ⟨⟨x, S1⟩, h1, h⟩ := h
  split at h <;> first | contradiction | skip
  rename_i k e
  cases k with
  | true =>
    rw [if_pos rfl] at h
    exact ⟨true, S1, by rw [h1]; simp only at e; rw [e], .inl ⟨rfl, h⟩⟩
  | false =>
    rw [if_neg Bool.false_ne_true] at h
    simp only [Option.some.injEq, Prod.mk.injEq] at h
    exact ⟨false, S1, by rw [h1]; simp only at e; rw [e], .inr ⟨rfl, h.1.symm, h.2.symm⟩⟩
theorem or_split {ρ : Env} {S S' : Store} {d : D} (h : fOr fa fb ρ S = some (d, S')) : ∃ k S1, fa ρ S = some (.bl k, S1) ∧ (k = false ∧ fb ρ S1 = some (d, S') ∨ k = true ∧ d = .bl true ∧ S' = S1) := by
  simp only [fOr, Option.bind_eq_some_iff] at h
  obtain ⟨⟨x, S1⟩, h1, h⟩ := h
  split at h <;> first | contradiction | skip
  rename_i k e
  cases k with
  | true =>
    rw [if_pos rfl] at h
    simp only [Option.some.injEq, Prod.mk.injEq] at h
    exact ⟨true, S1, by rw [h1]; simp only at e; rw [e], .inr ⟨rfl, h.1.symm, h.2.symm⟩⟩
  | false =>
    rw [if_neg Bool.false_ne_true] at h
    exact ⟨false, S1, by rw [h1]; simp only at e; rw [e], .inl ⟨rfl, h⟩⟩
theorem se_and {rest : List Expr} (ha : PE X a (tE fa)) (hb : PE X (.BoolOp .And (b :: rest) pos) (tE fb)) : PE X (.BoolOp .And (a :: b :: rest) pos) (tE (fAnd fa fb)) :=
  PE.imp (pe_and ha hb) fun σ H Q ⟨M, ρ, S, Λ, d, S', R, RE, h, q⟩ => by
    obtain ⟨k, S1, h1, h⟩ := and_split h
    refine tE_of R RE h1 fun v1 H1 Λ1 s1 R1 r1 => ⟨k, bl_of r1, ?_⟩
    rcases h with ⟨rfl, h⟩ | ⟨rfl, rfl, rfl⟩
    · exact iteT (tE_of R1 (RE.step R s1) h fun v2 H2 Λ2 s2 R2 r2 => q _ _ _ (s1.trans s2) R2 r2)
    · exact iteF (q _ _ _ s1 R1 (.bl _))
theorem se_or {rest : List Expr} (ha : PE X a (tE fa)) (hb : PE X (.BoolOp .Or (b :: rest) pos) (tE fb)) : PE X (.BoolOp .Or (a :: b :: rest) pos) (tE (fOr fa fb)) :=
  PE.imp (pe_or ha hb) fun σ H Q ⟨M, ρ, S, Λ, d, S', R, RE, h, q⟩ => by
    obtain ⟨k, S1, h1, h⟩ := or_split h
    refine tE_of R RE h1 fun v1 H1 Λ1 s1 R1 r1 => ⟨k, bl_of r1, ?_⟩
    rcases h with ⟨rfl, h⟩ | ⟨rfl, rfl, rfl⟩
    · exact iteF (tE_of R1 (RE.step R s1) h fun v2 H2 Λ2 s2 R2 r2 => q _ _ _ (s1.trans s2) R2 r2)
    · exact iteT (q _ _ _ s1 R1 (.bl _))
theorem st_and {rest : List Expr} (ha : PT X a (tT fa)) (hb : PW X (.BoolOp .And (b :: rest) pos) (tT fb)) : PW X (.BoolOp .And (a :: b :: rest) pos) (tT (fAnd fa fb)) :=
  PW.imp (pw_and ha hb) fun σ H Q ⟨M, ρ, S, Λ, d, S', R, RE, h, q⟩ => by
    obtain ⟨k, S1, h1, h⟩ := and_split h
    refine ⟨M, ρ, S, Λ, k, S1, R, RE, h1, fun H1 Λ1 s1 R1 => ?_⟩
    rcases h with ⟨rfl, h⟩ | ⟨rfl, e, rfl⟩
    · exact iteT ⟨M, ρ, S1, Λ1, d, S', R1, RE.step R s1, h, fun H2 Λ2 s2 R2 => q _ _ (s1.trans s2) R2⟩
    · cases e
      exact iteF (q _ _ s1 R1)
theorem st_or {rest : List Expr} (ha : PT X a (tT fa)) (hb : PW X (.BoolOp .Or (b :: rest) pos) (tT fb)) : PW X (.BoolOp .Or (a :: b :: rest) pos) (tT (fOr fa fb)) :=
  PW.imp (pw_or ha hb) fun σ H Q ⟨M, ρ, S, Λ, d, S', R, RE, h, q⟩ => by
    obtain ⟨k, S1, h1, h⟩ := or_split h
    refine ⟨M, ρ, S, Λ, k, S1, R, RE, h1, fun H1 Λ1 s1 R1 => ?_⟩
    rcases h with ⟨rfl, h⟩ | ⟨rfl, e, rfl⟩
    · exact iteF ⟨M, ρ, S1, Λ1, d, S', R1, RE.step R s1, h, fun H2 Λ2 s2 R2 => q _ _ (s1.trans s2) R2⟩
    · cases e
      exact iteT (q _ _ s1 R1)
abbrev fNot (fa : Env → Store → Option (D × Store)) : Env → Store → Option (D × Store) := fun ρ S => (fa ρ S).bind fun x => match x.1 with
    | .bl b => some (.bl (!b), x.2)
    | _ => none
theorem not_split {ρ : Env} {S S' : Store} {d : D} (h : fNot fa ρ S = some (d, S')) : ∃ k, fa ρ S = some (.bl k, S') ∧ d = .bl (!k) := by
  simp only [fNot, Option.bind_eq_some_iff] at h
  obtain ⟨⟨x, S1⟩, h1, h⟩ := h
  split at h <;> first | contradiction | skip
  rename_i k e
  simp only [Option.some.injEq, Prod.mk.injEq] at h
  simp only at e
  exact ⟨k, by rw [h1, e, h.2], h.1.symm⟩
theorem se_not (ha : PE X a (tE fa)) : PE X (.UnaryOp .Not a pos) (tE (fNot fa)) :=
  PE.imp (pe_not ha) fun σ H Q ⟨M, ρ, S, Λ, d, S', R, RE, h, q⟩ => by
    obtain ⟨k, h1, rfl⟩ := not_split h
    exact tE_of R RE h1 fun v1 H1 Λ1 s1 R1 r1 => ⟨k, bl_of r1, q _ _ _ s1 R1 (.bl _)⟩
theorem st_not (ha : PT X a (tT fa)) : PT X (.UnaryOp .Not a pos) (tT (fNot fa)) :=
  PT.imp (pt_not ha) fun σ H Q ⟨M, ρ, S, Λ, d, S', R, RE, h, q⟩ => by
    obtain ⟨k, h1, e⟩ := not_split h
    cases e
    exact ⟨M, ρ, S, Λ, k, S', R, RE, h1, fun H1 Λ1 s1 R1 => q _ _ s1 R1⟩
abbrev fIte (fc fa fb : Env → Store → Option (D × Store)) : Env → Store → Option (D × Store) := fun ρ S => (fc ρ S).bind fun x => match x.1 with
    | .bl k => if k = true then fa ρ x.2 else fb ρ x.2
    | _ => none
theorem ite_split {ρ : Env} {S S' : Store} {d : D} (h : fIte fc fa fb ρ S = some (d, S')) : ∃ k S1, fc ρ S = some (.bl k, S1) ∧ (k = true ∧ fa ρ S1 = some (d, S') ∨ k = false ∧ fb ρ S1 = some (d, S')) := by
  simp only [fIte, Option.bind_eq_some_iff] at h
  obtain ⟨⟨x, S1⟩, h1, h⟩ := h
  split at h <;> first | contradiction | skip
  rename_i k e
  cases k with
  | true =>
    rw [if_pos rfl] at h
    exact ⟨true, S1, by rw [h1]; simp only at e; rw [e], .inl ⟨rfl, h⟩⟩
  | false =>
    rw [if_neg Bool.false_ne_true] at h
    exact ⟨false, S1, by rw [h1]; simp only at e; rw [e], .inr ⟨rfl, h⟩⟩
theorem se_ite (hc : PT X c (tT fc)) (ha : PE X a (tE fa)) (hb : PE X b (tE fb)) : PE X (.IfExp c a b pos) (tE (fIte fc fa fb)) :=
  PE.imp (pe_ifExp hc ha hb) fun σ H Q ⟨M, ρ, S, Λ, d, S', R, RE, h, q⟩ => by
    obtain ⟨k, S1, h1, h⟩ := ite_split h
    refine ⟨M, ρ, S, Λ, k, S1, R, RE, h1, fun H1 Λ1 s1 R1 => ?_⟩
    rcases h with ⟨rfl, h⟩ | ⟨rfl, h⟩
    · exact iteT (tE_of R1 (RE.step R s1) h fun v2 H2 Λ2 s2 R2 r2 => q _ _ _ (s1.trans s2) R2 r2)
    · exact iteF (tE_of R1 (RE.step R s1) h fun v2 H2 Λ2 s2 R2 r2 => q _ _ _ (s1.trans s2) R2 r2)
theorem pt_ife {tc ta tb : TT} (hc : PT X c tc) (ha : PT X a ta) (hb : PT X b tb) : PT X (.IfExp c a b pos) (fun σ H Q => tc σ H fun k H1 => if k = true then ta σ H1 Q else tb σ H1 Q) := by
  refine ⟨fun pins s σ H Q I h => ?_⟩
  show wpAny _ _ (isTrue c X.env (eval c X.env) >>= fun k => if k = true then isTrue a X.env (eval a X.env) else isTrue b X.env (eval b X.env)) _ _ s
  refine wpAny_bind (thn (hc.run pins s σ H _ I h) fun k s1 ⟨H1, I1, q1⟩ => ?_)
  cases k with
  | true => exact ha.run pins s1 σ H1 Q I1 q1
  | false => exact hb.run pins s1 σ H1 Q I1 q1
theorem st_ite (hc : PT X c (tT fc)) (ha : PT X a (tT fa)) (hb : PT X b (tT fb)) : PT X (.IfExp c a b pos) (tT (fIte fc fa fb)) :=
  PT.imp (pt_ife hc ha hb) fun σ H Q ⟨M, ρ, S, Λ, d, S', R, RE, h, q⟩ => by
    obtain ⟨k, S1, h1, h⟩ := ite_split h
    refine ⟨M, ρ, S, Λ, k, S1, R, RE, h1, fun H1 Λ1 s1 R1 => ?_⟩
    rcases h with ⟨rfl, h⟩ | ⟨rfl, h⟩
    · exact iteT ⟨M, ρ, S1, Λ1, d, S', R1, RE.step R s1, h, fun H2 Λ2 s2 R2 => q _ _ (s1.trans s2) R2⟩
    · exact iteF ⟨M, ρ, S1, Λ1, d, S', R1, RE.step R s1, h, fun H2 Λ2 s2 R2 => q _ _ (s1.trans s2) R2⟩
/-- an expression with a bool's value, as a test -/
theorem st_val {e : Expr} {f : Env → Store → Option (D × Store)} (h : PE X e (tE f)) (he : ∀ whole, isTrue e X.env whole = (do let v ← whole; standAt e.pos; holding [v] (truthy v))) : PT X e (tT f) :=
  PT.imp (pt_val h he) fun σ H Q h => tT_tE h

/-! ### argument lists, displays -/
theorem sa_nil {f : Env → Store → Option (List D × Store)} (hf : ∀ ρ S ds S', f ρ S = some (ds, S') → ds = [] ∧ S' = S) : PA X [] (tA f) :=
  PA.imp pa_nil fun σ H Q ⟨M, ρ, S, Λ, ds, S', R, RE, h, q⟩ => by
    obtain ⟨rfl, rfl⟩ := hf _ _ _ _ h
    exact q _ _ _ Step.refl R .nil
theorem sa_cons {es : List Expr} {g : Env → Store → Option (List D × Store)} (ha : PE X a (tE fa)) (hr : PA X es (tA g)) (hs : starEach (a :: es) X.env = (false, eval a X.env) :: starEach es X.env) :
    PA X (a :: es) (tA fun ρ S => (fa ρ S).bind fun x => (g ρ x.2).map fun y => (x.1 :: y.1, y.2)) :=
  PA.imp (pa_cons ha hr hs) fun σ H Q ⟨M, ρ, S, Λ, ds, S', R, RE, h, q⟩ => by
    simp only [Option.bind_eq_some_iff, Option.map_eq_some_iff, Prod.mk.injEq] at h
    obtain ⟨⟨x, S1⟩, h1, ⟨y, S2⟩, h2, rfl, rfl⟩ := h
    exact tE_of R RE h1 fun v1 H1 Λ1 s1 R1 r1 => ⟨M, ρ, S1, Λ1, y, S2, R1, RE.step R s1, h2, fun vs H2 Λ2 s2 R2 r2 => q _ _ _ (s1.trans s2) R2 (.cons (r1.step R1 s2) r2)⟩
variable {es : List Expr} {g : Env → Store → Option (List D × Store)}
theorem se_tup {x1 : Nat} (h : PA X es (tA g)) : PE X (.Tuple es x1 pos) (tE fun ρ S => (g ρ S).bind fun x => if x.1.length ≤ line then some (.tup x.1, x.2) else none) :=
  PE.imp (pe_tup h) fun σ H Q ⟨M, ρ, S, Λ, d, S', R, RE, h, q⟩ => by
    simp only [Option.bind_eq_some_iff] at h
    obtain ⟨⟨x, S1⟩, h1, h⟩ := h
    split at h <;> first | contradiction | skip
    rename_i hl
    simp only [Option.some.injEq, Prod.mk.injEq] at h
    obtain ⟨rfl, rfl⟩ := h
    refine ⟨M, ρ, S, Λ, x, S1, R, RE, h1, fun vs H1 Λ1 s1 R1 r1 => ⟨by rw [← r1.length, ← line_eq]; exact hl, fun p hp => ?_⟩⟩
    have sm := same_upd (o := .tup vs) hp
    exact q _ _ Λ1 (s1.trans (Step.same sm)) (R1.same sm) (.tup upd_same (r1.step R1 (Step.same sm)))
theorem se_lst (k : Bool) (h : PA X es (tA g)) : PE X (.List es pos) (tE fun ρ S => (g ρ S).bind fun x => if x.1.length ≤ line then some (fin k (.new (.lv x.1)) x.2) else none) :=
  PE.imp (pe_lst h) fun σ H Q ⟨M, ρ, S, Λ, d, S', R, RE, h, q⟩ => by
    simp only [Option.bind_eq_some_iff] at h
    obtain ⟨⟨x, S1⟩, h1, h⟩ := h
    split at h <;> first | contradiction | skip
    rename_i hl
    simp only [Option.some.injEq] at h
    refine ⟨M, ρ, S, Λ, x, S1, R, RE, h1, fun vs H1 Λ1 s1 R1 r1 => ⟨by rw [← r1.length, ← line_eq]; exact hl, fun p hp => ?_⟩⟩
    have pr : PRk M Λ1 (.new (.lv x)) H1 Q := by
      refine fin_prk (k := k) (fun _ _ _ => .inl (by simp)) R1 fun v H' Λ' s3 R3 r3 => ?_
      rw [h] at R3 r3
      exact q _ _ _ (s1.trans s3) R3 r3
    exact pr.new_same hp (.lst r1)

/-! ### subscripts -/
theorem se_sub (hu : X.A.units + 64 < cLine) (ha : PE X a (tE fa)) (hb : PE X b (tE fb)) (hs : PlainIx b) : PE X (.Subscript a b pos) (tE fun ρ S => (fa ρ S).bind fun x => (fb ρ x.2).bind fun y => (itemS x.1 y.1 y.2).map fun d => (d, y.2)) :=
  PE.imp (pe_ix (itemR hu) ha hb hs) fun σ H Q ⟨M, ρ, S, Λ, d, S', R, RE, h, q⟩ => by
    simp only [Option.bind_eq_some_iff, Option.map_eq_some_iff, Prod.mk.injEq] at h
    obtain ⟨⟨x, S1⟩, h1, ⟨y, S2⟩, h2, r, h3, rfl, rfl⟩ := h
    exact tE_of R RE h1 fun v1 H1 Λ1 s1 R1 r1 => tE_of R1 (RE.step R s1) h2 fun v2 H2 Λ2 s2 R2 r2 => ⟨M, Λ2, S2, x, y, r, R2, r1.step R1 s2, r2, h3, fun v r3 => q _ _ _ (s1.trans s2) R2 r3⟩
/-- a slice's part, by the evaluator -/
def tO (g : Env → Store → Option (List D × Store)) : TO := fun σ H Q => ∃ M ρ S Λ ds S' o l, RelS M Λ S H ∧ RelE M Λ H ρ σ ∧ g ρ S = some (ds, S') ∧ one? ds = some o ∧ bound? o = some l ∧ ∀ H' Λ', Step Λ H Λ' H' → RelS M Λ' S' H' → Q l H'
theorem PO.imp {X : Cx} {e : Option Expr} {t t' : TO} (h : PO X e t) (i : ∀ σ H Q, t' σ H Q → t σ H Q) : PO X e t' := ⟨fun pins s σ H Q I q => h.run pins s σ H Q I (i σ H Q q)⟩
theorem so_none {g : Env → Store → Option (List D × Store)} (hf : ∀ ρ S ds S', g ρ S = some (ds, S') → ds = [] ∧ S' = S) : PO X none (tO g) :=
  PO.imp po_none fun σ H Q ⟨M, ρ, S, Λ, ds, S', o, l, R, RE, h, h1, h2, q⟩ => by
    obtain ⟨rfl, rfl⟩ := hf _ _ _ _ h
    cases h1
    cases h2
    exact q _ _ Step.refl R
theorem so_some {g : Env → Store → Option (List D × Store)} (ha : PE X a (tE fa)) (hf : ∀ ρ S ds S', g ρ S = some (ds, S') → ∃ d, ds = [d] ∧ fa ρ S = some (d, S')) : PO X (some a) (tO g) :=
  PO.imp (po_some ha) fun σ H Q ⟨M, ρ, S, Λ, ds, S', o, l, R, RE, h, h1, h2, q⟩ => by
    obtain ⟨d, rfl, h3⟩ := hf _ _ _ _ h
    cases h1
    unfold bound? at h2
    split at h2 <;> first | contradiction | skip
    rename_i i e
    cases e
    cases h2
    exact tE_of R RE h3 fun v H1 Λ1 s1 R1 r1 => ⟨i, int_of r1, q _ _ s1 R1⟩
theorem se_slc {lo hi : Option Expr} {gl gh : Env → Store → Option (List D × Store)} {p2 : Pos} (ha : PE X a (tE fa)) (hl : PO X lo (tO gl)) (hh : PO X hi (tO gh)) :
    PE X (.Subscript a (.Slice lo hi none p2) pos) (tE fun ρ S => (fa ρ S).bind fun x => (gl ρ x.2).bind fun l => (gh ρ l.2).bind fun h =>
      (one? l.1).bind fun l1 => (one? h.1).bind fun h1 => (bound? l1).bind fun l2 => (bound? h1).bind fun h2 => (slcS x.1 l2 h2 h.2).map fun r => fin false r h.2) :=
  PE.imp (pe_slice slcR ha hl hh) fun σ H Q ⟨M, ρ, S, Λ, d, S', R, RE, h, q⟩ => by
    simp only [Option.bind_eq_some_iff, Option.map_eq_some_iff] at h
    obtain ⟨⟨x, S1⟩, h1, ⟨l, S2⟩, h2, ⟨u, S3⟩, h3, l1, e1, u1, e2, l2, e3, u2, e4, r, h4, e⟩ := h
    refine tE_of R RE h1 fun v1 H1 Λ1 s1 R1 r1 => ⟨M, ρ, S1, Λ1, l, S2, l1, l2, R1, RE.step R s1, h2, e1, e3, fun H2 Λ2 s2 R2 => ⟨M, ρ, S2, Λ2, u, S3, u1, u2, R2, (RE.step R s1).step R1 s2, h3, e2, e4, fun H3 Λ3 s3 R3 => ?_⟩⟩
    refine ⟨M, Λ3, S3, x, r, R3, (r1.step R1 s2).step R2 s3, h4, fin_prk (k := false) (fun t ks vs => .inl fun z => ?_) R3 fun v H' Λ' s4 R4 r4 => ?_⟩
    · subst z
      unfold slcS at h4
      split at h4 <;> first | (split at h4 <;> simp at h4; done) | simp at h4
    · rw [e] at R4 r4
      exact q v H' Λ' (s1.trans (s2.trans (s3.trans s4))) R4 r4
theorem se_rev {k : Nat} {p1 p2 p3 : Pos} (ha : PE X a (tE fa)) : PE X (.Subscript a (.Slice none none (some (.UnaryOp .USub (.Constant (.int 1) k p1) p2)) p3) pos) (tE fun ρ S => (fa ρ S).bind fun x => (revS x.1 x.2).map fun r => fin false r x.2) :=
  PE.imp (pe_revL ha) fun σ H Q ⟨M, ρ, S, Λ, d, S', R, RE, h, q⟩ => by
    simp only [Option.bind_eq_some_iff, Option.map_eq_some_iff] at h
    obtain ⟨⟨x, S1⟩, h1, r, h2, e⟩ := h
    simp only [revS, Option.map_eq_some_iff] at h2
    obtain ⟨xs, h2, rfl⟩ := h2
    refine tE_of R RE h1 fun v1 H1 Λ1 s1 R1 r1 => ?_
    obtain ⟨a', vs, rfl, e2, r2⟩ := asL_rv R1 r1 h2
    refine ⟨a', vs, rfl, .of e2, fun p hp => ?_⟩
    have pr : PRk M Λ1 (.new (.lv xs.reverse)) H1 Q := by
      refine fin_prk (k := false) (fun _ _ _ => .inl (by simp)) R1 fun v H' Λ' s3 R3 r3 => ?_
      rw [e] at R3 r3
      exact q _ _ _ (s1.trans s3) R3 r3
    exact pr.new_same hp (.lst r2.reverse)

/-! ### calls -/
theorem OkX.units65 {G : Sig} {Φ : Calls} {n : Nat} (O : OkX G Φ n X) : X.A.units + 65 < cLine := by have := O.room.un; omega
theorem OkX.units {G : Sig} {Φ : Calls} {n : Nat} (O : OkX G Φ n X) : X.A.units + 64 < cLine := O.room.units
theorem se_call {G : Sig} {Φ : Calls} {n : Nat} (O : OkX G Φ n X) {f : Str} {ps : List Str} (hf : G.fns.lookup f = some ps) (hg : Gl X f) (hdb : (f == ("__debug__" : Str)) = false) {p : Pos} {e : Expr} (ha : PA X (e :: es) (tA g)) (hn : (e :: es).length = ps.length)
    (he : starEach (e :: es) X.env = (false, eval e X.env) :: starEach es X.env) (hpl : (backTo pos (starEach es X.env)).any (·.1) = false) (hlen : ∀ ρ S ds S', g ρ S = some (ds, S') → ds.length = (e :: es).length) :
    PE X (.Call (.Name f p) (e :: es) [] pos) (tE fun ρ S => (g ρ S).bind fun x => Φ f x.1 x.2) := by
  obtain ⟨a, fd, h1, h2, h3, h4⟩ := O.fn f ps hf
  refine PE.imp (peG (pos := pos) (p := p) h4 ⟨O.room, O.c0⟩ hg h1 h2 h3 .nil pass0 ha hdb he hpl) fun σ H Q ⟨M, ρ, S, Λ, d, S', R, RE, h, q⟩ => ?_
  simp only [Option.bind_eq_some_iff] at h
  obtain ⟨⟨x, S1⟩, h5, h6⟩ := h
  refine ⟨M, ρ, S, Λ, x, S1, R, RE, h5, fun vs H1 Λ1 s1 R1 r1 => ⟨M, Λ1, S1, x, d, S', R1, by rw [List.append_nil]; exact r1, by rw [hlen _ _ _ _ h5, hn], h6, fun v H2 Λ2 s2 R2 r2 => q _ _ _ (s1.trans s2) R2 r2⟩⟩
theorem se_call0 {G : Sig} {Φ : Calls} {n : Nat} (O : OkX G Φ n X) {f : Str} (hf : G.fns.lookup f = some []) (hg : Gl X f) (hdb : (f == ("__debug__" : Str)) = false) {p : Pos} :
    PE X (.Call (.Name f p) [] [] pos) (tE fun ρ S => Φ f [] S) := by
  obtain ⟨a, fd, h1, h2, h3, h4⟩ := O.fn f [] hf
  refine PE.imp (peG0 (pos := pos) (p := p) h4 ⟨O.room, O.c0⟩ hg h1 h2 h3 .nil pass0 hdb) fun σ H Q ⟨M, ρ, S, Λ, d, S', R, RE, h, q⟩ => ?_
  exact ⟨M, Λ, S, [], d, S', R, .nil, rfl, h, fun v H2 Λ2 s2 R2 r2 => q _ _ _ s2 R2 r2⟩
end
end Pd

/-! Pd9: built-in functions, methods. -/
namespace Pd
open PySem PySem.Spec PyProof.Rows L2

section
variable {M : Addr → Prop} {Λ Λ' : List Addr} {H H' : Hp} {S S' : Store} {d : D} {v : V} {Q : VK} {X : Cx} {ρ : Env} {σ : L2.St}

/-! ### a new thing, locked where it is made -/
/-- as it is, or locked -/
def lockQ (Q : VK) : VK := fun v H => Q v H ∨ ∃ a u, v = .ref a ∧ H a = some u ∧ Mut (some u) ∧ ∀ od, Q v (upd H a (.frz od u))
theorem pe_locked {e : Expr} {t : TE} (h : PE X e t) : PE X e (fun σ H Q => t σ H (lockQ Q)) := ⟨fun pins s σ H Q I q =>
  thn (h.run pins s σ H _ I q) fun u s1 ⟨x, H1, I1, r1, q1⟩ => by
    rcases q1 with q1 | ⟨a, w, rfl, e1, mu, q1⟩
    · exact ⟨x, H1, I1, r1, q1⟩
    · obtain ⟨od, I2⟩ := Inv.lock I1 e1 mu
      exact ⟨_, _, I2, r1, q1 od⟩⟩
theorem fin_prkL {r : PR} {k : Bool} (R : RelS M Λ S H) (q : ∀ v H' Λ', Step Λ H Λ' H' → RelS M Λ' (fin k r S).2 H' → RV M Λ' H' (fin k r S).1 v → Q v H') : PRk M Λ r H (lockQ Q) := by
  cases r with
  | val d => exact fun v H1 s r => .inl (q v H1 Λ (Step.same s) (R.same s) r)
  | new c =>
    intro a H1 ho s hn r hm
    have R1 := R.same s
    cases k with
    | true =>
      obtain ⟨z1, z2, z3⟩ := adopt R1 hn r
      exact .inl (q _ _ _ ((Step.same s).trans z3) z1 z2)
    | false =>
      have go : ∀ {t : Bool} {ks : List DK} {ds : List D}, RO M Λ H1 (.dv t ks ds) ho → c = .dv t ks ds → Mut (some ho) → lockQ Q (.ref a) (upd H1 a ho) := fun r' ec mu => by
        refine .inr ⟨a, ho, rfl, upd_same, mu, fun od => ?_⟩
        rw [upd_upd]
        obtain ⟨z1, z2, z3⟩ := freezeD (o := od) R1 hn r'
        subst ec
        exact q _ _ _ ((Step.same s).trans z3) z1 z2
      cases r with
      | lst r =>
        obtain ⟨z1, z2, z3⟩ := freeze R1 hn r
        exact .inl (q _ _ _ ((Step.same s).trans z3) z1 z2)
      | dK k1 r1 => exact go (.dK k1 r1) rfl trivial
      | dT k1 r1 => exact go (.dT k1 r1) rfl trivial
      | lk _ => exact hm.elim

/-! ### dict(..) -/
theorem dput_KK {k : DK} {kk : Key} (hk : KK [k] [kk]) {e : D} {v : V} (re : RV M Λ H e v) {ks : List DK} {ds : List D} {kvs : List (Key × V)} (h1 : KK ks (kvs.map (·.1))) (h2 : RVs M Λ H ds (kvs.map (·.2))) :
    KK (dPut k e ks ds).1 ((putK kvs kk v).map (·.1)) ∧ RVs M Λ H (dPut k e ks ds).2 ((putK kvs kk v).map (·.2)) := by
  have hd : dkK k = some kk := by cases hk <;> rfl
  have ha := KK_any (k := k) hd h1
  unfold dPut putK
  rw [ha]
  split
  · rename_i hc
    rw [map_fst_put]
    exact ⟨h1, KK_putV hd re h1 h2⟩
  · rename_i hc
    rw [List.map_append, List.map_append]
    exact ⟨KK.snoc hk h1, h2.append (.cons re .nil)⟩
theorem pairs_rv : ∀ {xs : List D} {vs : List V} {ps : List (DK × D)}, RVs M Λ H xs vs → pairsOf xs = some ps →
    ∃ (as : List Addr) (kvs : List (Key × V)), vs = as.map V.ref ∧ Paired (fun p kv => SqT X.K H p [kV kv.1, kv.2]) as kvs ∧ KK (ps.map (·.1)) (kvs.map (·.1)) ∧ RVs M Λ H (ps.map (·.2)) (kvs.map (·.2))
  | [], _, _, h, e => by
    cases h
    cases e
    exact ⟨[], [], rfl, .nil, .nil, .nil⟩
  | x :: xs, [], _, h, e => nomatch h
  | x :: xs, _ :: _, ps, .cons h r, e => by
    unfold pairsOf at e
    split at e <;> first | contradiction | skip
    all_goals
      rename_i e0 <;> first | (cases e0; done) | skip
      simp only [Option.map_eq_some_iff] at e
      obtain ⟨ps', e1, rfl⟩ := e
      cases e0
      obtain ⟨as, kvs, rfl, p1, k1, r1⟩ := pairs_rv r e1
      obtain ⟨a, ws, rfl, ha, rr⟩ := tup_of h
      cases rr with
      | cons ra rr =>
        cases rr with
        | cons rb rr =>
          cases rr
          first
            | (obtain rfl := int_of ra; exact ⟨a :: as, (.inl _, _) :: kvs, rfl, .cons (.of ha) p1, .i k1, .cons rb r1⟩)
            | (obtain ⟨o1, rfl⟩ := okS_of ra; exact ⟨a :: as, (.inr _, _) :: kvs, rfl, .cons (.of ha) p1, .s o1 k1, .cons rb r1⟩)
theorem fold_rv : ∀ {ps : List (DK × D)} {kvs : List (Key × V)} {acc : List DK × List D} {acc' : List (Key × V)}, KK (ps.map (·.1)) (kvs.map (·.1)) → RVs M Λ H (ps.map (·.2)) (kvs.map (·.2)) →
    KK acc.1 (acc'.map (·.1)) → RVs M Λ H acc.2 (acc'.map (·.2)) → KK (foldPut ps acc).1 ((mergeK acc' kvs).map (·.1)) ∧ RVs M Λ H (foldPut ps acc).2 ((mergeK acc' kvs).map (·.2))
  | [], [], _, _, _, _, h1, h2 => ⟨h1, h2⟩
  | [], _ :: _, _, _, h, _, _, _ => by cases h
  | _ :: _, [], _, _, h, _, _, _ => by have := h.len; simp at this
  | (k, e) :: ps, (kk, v) :: kvs, acc, acc', h, r, h1, h2 => by
    simp only [List.map_cons] at h r
    cases r with
    | cons re rs =>
      have hk : KK [k] [kk] ∧ KK (ps.map (·.1)) (kvs.map (·.1)) := by
        cases h with
        | i h => exact ⟨.i .nil, h⟩
        | s o h => exact ⟨.s o .nil, h⟩
      obtain ⟨z1, z2⟩ := dput_KK hk.1 re h1 h2
      have z := fold_rv (ps := ps) (kvs := kvs) (acc := dPut k e acc.1 acc.2) (acc' := putK acc' kk v) hk.2 rs z1 z2
      exact z
theorem bltr_dict (hc : X.calm = true) : CallR X (.type "dict") (rPs (bltS .dict)) := by
  refine CallR.imp (CallR.or (call_dictP hc) call_dictD) fun vs H Q ⟨M, Λ, S, ds, r, R, rs, h, k⟩ => ?_
  unfold bltS at h
  split at h <;> first | contradiction | skip
  rename_i x _ e
  cases rs with
  | cons rx rr =>
    cases rr
    split at h
    · rename_i xs ex
      simp only [Option.map_eq_some_iff] at h
      obtain ⟨ps, e1, rfl⟩ := h
      obtain ⟨a, ws, rfl, ha, rw⟩ := asL_rv R rx ex
      obtain ⟨as, kvs, rfl, p1, k1, r1⟩ := pairs_rv (X := X) rw e1
      obtain ⟨z1, z2⟩ := fold_rv (acc := ([], [])) (acc' := []) k1 r1 .nil .nil
      exact .inl ⟨a, as, kvs, rfl, .of ha, p1, fun p hp => k.new_same hp (.dK z1 z2)⟩
    · split at h <;> first | contradiction | skip
      rename_i ks ws ed
      cases h
      obtain ⟨a, rfl, D0⟩ := asDk_rv R rx ed
      rcases D0 with ⟨_, kvs, e1, e2, e3⟩ | ⟨e0, _⟩
      · exact .inr ⟨a, kvs, rfl, e1, fun p hp => k.new_same hp (.dK e2 e3)⟩
      · cases e0

/-! ### built-in functions -/
def bltNm : Blt → Str
  | .len => "len" | .abs => "abs" | .int => "int" | .list => "list" | .tuple => "tuple" | .dict => "dict" | .sum => "sum" | .sum2 => "sum" | .min => "min" | .max => "max" | .all => "all" | .any => "any"
  | .sorted => "sorted" | .range => "range" | .isinst => "isinstance" | .repr => "repr" | .str => "str"
def bltV : Blt → Value ⊕ String
  | .len => .inr "len" | .abs => .inr "abs" | .int => .inl (.type "int") | .list => .inl (.type "list") | .tuple => .inl (.type "tuple") | .dict => .inl (.type "dict") | .sum => .inr "sum" | .sum2 => .inr "sum"
  | .min => .inr "min" | .max => .inr "max" | .all => .inr "all" | .any => .inr "any" | .sorted => .inr "sorted" | .range => .inl (.type "range") | .isinst => .inr "isinstance" | .repr => .inr "repr" | .str => .inl (.type "str")
def bltT : Blt → Option String
  | .int => some "int" | .list => some "list" | .tuple => some "tuple" | .dict => some "dict" | .range => some "range" | .str => some "str"
  | _ => none
def bltB : Blt → String
  | .len => "len" | .abs => "abs" | .sum => "sum" | .sum2 => "sum" | .min => "min" | .max => "max" | .all => "all" | .any => "any" | .sorted => "sorted" | .isinst => "isinstance" | .repr => "repr"
  | _ => ""
def bltVal (b : Blt) : Value := match bltT b with
  | some t => .type t
  | none => .builtin (bltB b)
theorem boot_blt (b : Blt) : bootBuiltins (bltNm b) = some (bltVal b) := by cases b <;> decide +kernel
theorem blt_name (b : Blt) : bltNm b ≠ "__name__" ∧ (bltNm b == ("__debug__" : Str)) = false ∧ bltNm b ∈ bltNames := by cases b <;> decide +kernel
theorem blt_none {f : Value} {g : List D → Store → Option PR} (h : ∀ ds S, g ds S = none) : CallR X f (rPs g) := fun pins s σ H xs us Q I r ⟨M, Λ, S, ds, r', R, rs, e, k⟩ => by
  rw [h] at e; cases e
theorem bltC (hc : X.calm = true) (hg0 : Calm0 X.A) (hu : X.A.units + 64 < cLine) (b : Blt) : CallR X (bltVal b) (rPs (bltS b)) := by
  cases b with
  | len => exact bltr_len
  | abs => exact bltr_abs
  | int => exact bltr_int
  | list => exact bltr_list hc
  | tuple => exact bltr_tuple
  | dict => exact bltr_dict hc
  | sum => exact bltr_sum hc
  | min => exact bltr_min hc hu
  | max => exact bltr_max hc hu
  | all => exact bltr_all hc
  | any => exact bltr_any hc
  | sorted => exact bltr_sorted hc hu
  | isinst => exact bltr_isinst
  | sum2 => exact blt_none fun _ _ => rfl
  | range => exact blt_none fun _ _ => rfl
  | repr => exact bltr_repr hu hg0
  | str => exact blt_none fun _ _ => rfl
variable {e : Expr} {es : List Expr} {g : Env → Store → Option (List D × Store)} {fa fb : Env → Store → Option (D × Store)} {pos p : Pos}
theorem se_blt (b : Blt) (k : Bool) (hc : X.calm = true) (hg0 : Calm0 X.A) (hu : X.A.units + 64 < cLine) (hg : Gl X (bltNm b)) (hm : X.mg (bltNm b) = none) (ha : PA X (e :: es) (tA g))
    (he : starEach (e :: es) X.env = (false, eval e X.env) :: starEach es X.env) (hpl : (backTo pos (starEach es X.env)).any (·.1) = false) :
    PE X (.Call (.Name (bltNm b) p) (e :: es) [] pos) (tE fun ρ S => (g ρ S).bind fun x => (bltS b x.1 x.2).map fun r => fin k r x.2) := by
  have main : PE X (.Call (.Name (bltNm b) p) (e :: es) [] pos) (tCB (rPs (bltS b)) (tA g)) := by
    have hC := bltC hc hg0 hu b
    have hB := boot_blt b
    obtain ⟨h1, h2, _⟩ := blt_name b
    unfold bltVal at hC hB
    split at hB
    · rename_i t et
      rw [et] at hC
      exact pe_callTy hC hg hm hB ha h1 h2 he hpl
    · rename_i et
      rw [et] at hC
      exact pe_callB hC hg hm hB ha h1 h2 he hpl
  refine PE.imp (pe_locked main) fun σ H Q ⟨M, ρ, S, Λ, d, S', R, RE, h, q⟩ => ?_
  simp only [Option.bind_eq_some_iff, Option.map_eq_some_iff] at h
  obtain ⟨⟨x, S1⟩, h1, r, h2, e⟩ := h
  refine ⟨M, ρ, S, Λ, x, S1, R, RE, h1, fun vs H1 Λ1 s1 R1 r1 => ⟨M, Λ1, S1, x, r, R1, r1, h2, fin_prkL (k := k) R1 fun v H' Λ' s2 R2 r2 => ?_⟩⟩
  rw [e] at R2 r2
  exact q _ _ _ (s1.trans s2) R2 r2

/-- a type's name -/
theorem se_ty {n : String} {x : Str} (hg : Gl X x) (hm : X.mg x = none) (hv : bootBuiltins x = some (.type n)) (hn : x ≠ "__name__") (hd : (x == ("__debug__" : Str)) = false) {f : Env → Store → Option (D × Store)}
    (hf : ∀ ρ S d' S', f ρ S = some (d', S') → d' = .ty n ∧ S' = S) : PE X (.Name x pos) (tE f) :=
  se_const (d := .ty n) (pe_bltn (v := .ty n) hg hm hv rfl hn hd) (fun _ _ _ => .ty n) hf
theorem rg_rv (a b : Int) : RVs M Λ H (intL a (b - a).toNat) (rgV a b) := by
  unfold intL rgV
  have go : ∀ l : List Nat, RVs M Λ H (l.map fun i : Nat => D.int (a + (i : Int))) (l.map fun i : Nat => V.int (a + (i : Int))) := by
    intro l
    induction l with
    | nil => exact .nil
    | cons x l ih => exact .cons (.int _) ih
  exact go _
theorem intL_len (a : Int) (n : Nat) : (intL a n).length = n := by simp [intL]
/-- list(range(..)) -/
theorem se_lrg1 (k : Bool) {p2 pos2 : Pos} (hc : X.calm = true) (hg : Gl X "list") (hm : X.mg "list" = none) (hg2 : Gl X "range") (hm2 : X.mg "range" = none) (ha : PE X e (tE fa))
    (na : starEach [e] X.env = (false, eval e X.env) :: starEach [] X.env) (nb : starEach [.Call (.Name "range" p2) [e] [] pos2] X.env = (false, eval (.Call (.Name "range" p2) [e] [] pos2) X.env) :: starEach [] X.env)
    {f : Env → Store → Option (D × Store)} (hf : ∀ ρ S d S', f ρ S = some (d, S') → ∃ x S1 xs, fa ρ S = some (x, S1) ∧ rangeS [x] = some xs ∧ xs.length ≤ line ∧ fin k (.new (.lv xs)) S1 = (d, S')) :
    PE X (.Call (.Name "list" p) [.Call (.Name "range" p2) [e] [] pos2] [] pos) (tE f) := by
  refine PE.imp (pe_locked (pe_listRg hc hg hm (prg_1 hg2 hm2 ha na) nb)) fun σ H Q ⟨M, ρ, S, Λ, d, S', R, RE, h, q⟩ => ?_
  obtain ⟨x, S1, xs, h1, h2, hl, e⟩ := hf _ _ _ _ h
  refine tE_of R RE h1 fun v1 H1 Λ1 s1 R1 r1 => ?_
  unfold rangeS at h2
  split at h2 <;> first | contradiction | skip
  · rename_i j ej
    simp only [List.cons.injEq, and_true] at ej
    subst ej
    split at h2 <;> first | contradiction | skip
    rename_i hb
    cases h2
    rw [intL_len] at hl
    refine ⟨j, int_of r1, ⟨by omega, by omega, by omega, by omega, by unfold line at hl; simpa using hl⟩, fun a ha => ?_⟩
    have pr : PRk M Λ1 (.new (.lv (intL 0 j.toNat))) H1 (lockQ Q) := fin_prkL (k := k) R1 fun v H' Λ' s2 R2 r2 => by
      rw [e] at R2 r2
      exact q _ _ _ (s1.trans s2) R2 r2
    refine pr.new_same ha (.lst ?_)
    have := rg_rv (M := M) (Λ := Λ1) (H := H1) 0 j
    simpa using this
  · rename_i ej
    cases ej
theorem se_lrg2 (k : Bool) {e2 : Expr} {p2 pos2 : Pos} (hc : X.calm = true) (hg : Gl X "list") (hm : X.mg "list" = none) (hg2 : Gl X "range") (hm2 : X.mg "range" = none) (ha : PE X e (tE fa)) (hb : PE X e2 (tE fb))
    (na : starEach [e, e2] X.env = (false, eval e X.env) :: starEach [e2] X.env) (na2 : starEach [e2] X.env = (false, eval e2 X.env) :: starEach [] X.env) (nh : (backTo pos2 (starEach [e2] X.env)).any (·.1) = false)
    (nb : starEach [.Call (.Name "range" p2) [e, e2] [] pos2] X.env = (false, eval (.Call (.Name "range" p2) [e, e2] [] pos2) X.env) :: starEach [] X.env)
    {f : Env → Store → Option (D × Store)} (hf : ∀ ρ S d S', f ρ S = some (d, S') → ∃ x S1 y S2 xs, fa ρ S = some (x, S1) ∧ fb ρ S1 = some (y, S2) ∧ rangeS [x, y] = some xs ∧ xs.length ≤ line ∧ fin k (.new (.lv xs)) S2 = (d, S')) :
    PE X (.Call (.Name "list" p) [.Call (.Name "range" p2) [e, e2] [] pos2] [] pos) (tE f) := by
  refine PE.imp (pe_locked (pe_listRg hc hg hm (prg_2 hg2 hm2 ha hb na na2 nh) nb)) fun σ H Q ⟨M, ρ, S, Λ, d, S', R, RE, h, q⟩ => ?_
  obtain ⟨x, S1, y, S2, xs, h1, h1', h2, hl, e⟩ := hf _ _ _ _ h
  refine tE_of R RE h1 fun v1 H1 Λ1 s1 R1 r1 => tE_of R1 (RE.step R s1) h1' fun v2 H2 Λ2 s2 R2 r2 => ?_
  unfold rangeS at h2
  split at h2 <;> first | contradiction | skip
  · rename_i j ej
    cases ej
  · rename_i i j ej
    simp only [List.cons.injEq, and_true] at ej
    obtain ⟨rfl, rfl⟩ := ej
    split at h2 <;> first | contradiction | skip
    rename_i hb
    cases h2
    rw [intL_len] at hl
    refine ⟨i, j, int_of r1, int_of r2, ⟨by omega, by omega, by omega, by omega, hl⟩, fun a ha => ?_⟩
    have pr : PRk M Λ2 (.new (.lv (intL i (j - i).toNat))) H2 (lockQ Q) := fin_prkL (k := k) R2 fun v H' Λ' s3 R3 r3 => by
      rw [e] at R3 r3
      exact q _ _ _ (s1.trans (s2.trans s3)) R3 r3
    exact pr.new_same ha (.lst (rg_rv i j))
/-- {} -/
theorem se_dct (k t : Bool) {f : Env → Store → Option (D × Store)} (hf : ∀ ρ S d S', f ρ S = some (d, S') → fin k (.new (.dv t [] [])) S = (d, S')) : PE X (.Dict [] [] pos) (tE f) := by
  cases t with
  | false =>
    refine PE.imp (pe_locked pe_dnewK) fun σ H Q ⟨M, ρ, S, Λ, d, S', R, RE, h, q⟩ => ?_
    have e := hf _ _ _ _ h
    intro a ha
    have pr : PRk M Λ (.new (.dv false [] [])) H (lockQ Q) := fin_prkL (k := k) R fun v H' Λ' s2 R2 r2 => by
      rw [e] at R2 r2
      exact q _ _ _ s2 R2 r2
    exact pr.new_same ha (.dK (kvs := []) .nil .nil)
  | true =>
    refine PE.imp (pe_locked pe_dnewT) fun σ H Q ⟨M, ρ, S, Λ, d, S', R, RE, h, q⟩ => ?_
    have e := hf _ _ _ _ h
    intro a ha
    have pr : PRk M Λ (.new (.dv true [] [])) H (lockQ Q) := fin_prkL (k := k) R fun v H' Λ' s2 R2 r2 => by
      rw [e] at R2 r2
      exact q _ _ _ s2 R2 r2
    exact pr.new_same ha (.dT (kvs := []) .nil .nil)
end
end Pd

/-! Pd10: methods. -/
namespace Pd
open PySem PySem.Spec PyProof.Rows L2

section
variable {M : Addr → Prop} {Λ Λ' : List Addr} {H H' : Hp} {S S' : Store} {d : D} {v : V} {Q : VK} {X : Cx} {ρ : Env} {σ : L2.St}

theorem joinL_eq (a : List Nat) : ∀ ys : List (List Nat), TL.joinL a ys = joinL a ys
  | [] => rfl
  | [x] => rfl
  | x :: y :: r => by
    show x ++ (a ++ TL.joinL a (y :: r)) = x ++ a ++ joinL a (y :: r)
    rw [joinL_eq a (y :: r), List.append_assoc]
theorem okS_join {a : List Nat} (ha : okS a) : ∀ {ys : List (List Nat)}, (∀ c ∈ ys, okS c) → okS (joinL a ys)
  | [], _ => fun _ h => by cases h
  | [x], h => h x List.mem_cons_self
  | x :: y :: r, h => okS_app (okS_app (h x List.mem_cons_self) ha) (okS_join ha fun c hc => h c (List.mem_cons_of_mem _ hc))
/-- what a method's rule promises -/
def rM (m : Mth) : V → List V → Hp → VK → Prop := fun x vs H Q => ∃ M Λ S d ds d' S', RelS M Λ S H ∧ RV M Λ H d x ∧ RVs M Λ H ds vs ∧ mthS m d ds S = some (d', S') ∧
  ∀ v H' Λ', Step Λ H Λ' H' → RelS M Λ' S' H' → RV M Λ' H' d' v → Q v H'
theorem mtr_join : MtR X "str.join" (rM .join) := by
  refine MtR.imp mt_join fun x vs H Q ⟨M, Λ, S, d, ds, d', S', R, rx, rs, h, q⟩ => ?_
  unfold mthS at h
  split at h <;> first | contradiction | skip
  rename_i a y _
  simp only [Option.bind_eq_some_iff] at h
  obtain ⟨xs, h1, ys, h2, h3⟩ := h
  split at h3 <;> first | contradiction | skip
  rename_i hl
  cases h3
  obtain ⟨oa, rfl⟩ := okS_of rx
  obtain ⟨u, rfl, ru⟩ := rvs1 rs
  obtain ⟨p, ws, rfl, hp, rw'⟩ := asSq_rv (K := X.K) R ru h1
  obtain ⟨e1, o2⟩ := strsOf_rv rw' h2
  subst e1
  refine ⟨_, p, ys.map sOf, rfl, rfl, ?_, ?_, ?_⟩
  · rcases hp with hp | hp
    · exact .inl (.of hp)
    · exact .inr hp
  · rw [List.map_map, List.length_map, len_sOf]
    unfold line at hl
    have e : ((fun x : Str => x.length) ∘ sOf) = List.length := by funext c; exact len_sOf c
    show (List.map ((fun x : Str => x.length) ∘ sOf) ys).sum + _ ≤ _
    rw [e]
    exact hl
  · have e : Txt.join (sOf a) (ys.map sOf) = sOf (joinL a ys) := by rw [← joinL_eq]; exact SX.join_S a ys
    rw [e]
    exact q _ _ _ Step.refl R (.str (okS_join oa o2))
theorem cnt_count (c : Nat) (l : List Nat) : Txt.count (sOf l) ⟨#[c]⟩ = (l.count c : Nat) := by
  have h := count_cnt (sOf l) c
  rw [h]
  show cnt c l = _
  clear h
  induction l with
  | nil => rfl
  | cons x r ih =>
    rw [cnt_cons, ih, List.count_cons]
    by_cases e : x = c
    · subst e
      simp only [if_pos, beq_self_eq_true]
      omega
    · rw [if_neg e, if_neg (by simpa using e)]
      omega
theorem mtr_count : MtR X "str.count" (rM .count) := by
  refine MtR.imp mt_count fun x vs H Q ⟨M, Λ, S, d, ds, d', S', R, rx, rs, h, q⟩ => ?_
  unfold mthS at h
  split at h <;> first | contradiction | skip
  rename_i a c _
  cases h
  obtain ⟨oa, rfl⟩ := okS_of rx
  obtain ⟨u, rfl, ru⟩ := rvs1 rs
  obtain ⟨oc, rfl⟩ := okS_of ru
  refine ⟨_, _, rfl, rfl, ?_⟩
  have e := cnt_count c a
  rw [show Txt.count (sOf a) (sOf [c]) = _ from e]
  exact q _ _ _ Step.refl R (.int _)
theorem ref_lst (R : RelS M Λ S H) {l : Nat} {x : V} {xs : List D} (rx : RV M Λ H (.ref l) x) (e : S[l]? = some (.lv xs)) : ∃ a vs, x = .ref a ∧ Λ[l]? = some a ∧ H a = some (.lst vs) ∧ RVs M Λ H xs vs := by
  obtain ⟨a, rfl, ea⟩ := ref_of rx
  obtain ⟨ho, e2, r⟩ := R.st _ _ _ e ea
  cases r with
  | lst r => exact ⟨a, _, rfl, ea, e2, r⟩
theorem mtr_append : MtR X "list.append" (rM .append) := by
  refine MtR.imp mt_append fun x vs H Q ⟨M, Λ, S, d, ds, d', S', R, rx, rs, h, q⟩ => ?_
  unfold mthS at h
  split at h <;> first | contradiction | skip
  rename_i l y _
  split at h <;> first | contradiction | skip
  rename_i xs ex
  split at h <;> first | contradiction | skip
  rename_i hl
  cases h
  obtain ⟨a, ws, rfl, ea, eh, rw'⟩ := ref_lst R rx ex
  obtain ⟨u, rfl, ru⟩ := rvs1 rs
  refine ⟨a, ws, u, rfl, rfl, eh, by rw [← rw'.length, ← line_eq]; exact hl, ?_⟩
  obtain ⟨z1, z2⟩ := write R ea (c' := .lv (xs ++ [y])) (ho' := .lst (ws ++ [u])) (.lst (rw'.append (.cons ru .nil))) (fun o u z => by rw [eh] at z; cases z)
  exact q _ _ _ z2 z1 .non
theorem mtr_extend : MtR X "list.extend" (rM .extend) := by
  refine MtR.imp mt_extend fun x vs H Q ⟨M, Λ, S, d, ds, d', S', R, rx, rs, h, q⟩ => ?_
  unfold mthS at h
  split at h <;> first | contradiction | skip
  rename_i l y _
  split at h <;> first | contradiction | skip
  rename_i xs ys ex ey
  split at h <;> first | contradiction | skip
  rename_i hl
  cases h
  obtain ⟨a, ws, rfl, ea, eh, rw'⟩ := ref_lst R rx ex
  obtain ⟨u, rfl, ru⟩ := rvs1 rs
  obtain ⟨b, us, rfl, eb, rb⟩ := asL_rv R ru ey
  refine ⟨a, b, ws, us, rfl, rfl, eh, eb, by rw [← rw'.length, ← rb.length, ← line_eq]; exact hl, ?_⟩
  obtain ⟨z1, z2⟩ := write R ea (c' := .lv (xs ++ ys)) (ho' := .lst (ws ++ us)) (.lst (rw'.append rb)) (fun o u z => by rw [eh] at z; cases z)
  exact q _ _ _ z2 z1 .non
theorem RVs.dropLast {ds : List D} {vs : List V} (r : RVs M Λ H ds vs) : RVs M Λ H ds.dropLast vs.dropLast := by
  rw [List.dropLast_eq_take, List.dropLast_eq_take, r.length]
  exact r.take _
theorem RVs.eraseIdx : ∀ {ds : List D} {vs : List V} (k : Nat), RVs M Λ H ds vs → RVs M Λ H (ds.eraseIdx k) (vs.eraseIdx k)
  | _, _, _, .nil => .nil
  | _, _, 0, .cons _ t => t
  | _, _, k + 1, .cons h t => .cons h (RVs.eraseIdx k t)
theorem mtr_pop : MtR X "list.pop" (rM .pop) := by
  refine MtR.imp mt_pop fun x vs H Q ⟨M, Λ, S, d, ds, d', S', R, rx, rs, h, q⟩ => ?_
  unfold mthS at h
  split at h <;> first | contradiction | skip
  split at h <;> first | contradiction | skip
  rename_i xs ex
  simp only [Option.map_eq_some_iff, Prod.mk.injEq] at h
  obtain ⟨y, ey, rfl, rfl⟩ := h
  obtain ⟨a, ws, rfl, ea, eh, rw'⟩ := ref_lst R rx ex
  cases rs
  obtain ⟨u, eu, ru⟩ := rw'.get ey
  refine ⟨a, ws, u, rfl, rfl, eh, by rw [← rw'.length]; exact eu, ?_⟩
  obtain ⟨z1, z2⟩ := write R ea (c' := .lv xs.dropLast) (ho' := .lst ws.dropLast) (.lst rw'.dropLast) (fun o u z => by rw [eh] at z; cases z)
  exact q _ _ _ z2 z1 (ru.step R z2)
theorem mtr_popi : MtR X "list.pop" (rM .popi) := by
  refine MtR.imp mt_popAt fun x vs H Q ⟨M, Λ, S, d, ds, d', S', R, rx, rs, h, q⟩ => ?_
  unfold mthS at h
  split at h <;> first | contradiction | skip
  rename_i l i _
  split at h <;> first | contradiction | skip
  rename_i xs ex
  split at h <;> first | contradiction | skip
  rename_i hi
  simp only [Option.bind_eq_some_iff, Option.map_eq_some_iff, Prod.mk.injEq] at h
  obtain ⟨k, ek, y, ey, rfl, rfl⟩ := h
  obtain ⟨a, ws, rfl, ea, eh, rw'⟩ := ref_lst R rx ex
  obtain ⟨w, rfl, rw2⟩ := rvs1 rs
  obtain rfl := int_of rw2
  obtain ⟨u, eu, ru⟩ := rw'.get ey
  refine ⟨a, ws, i, k, u, rfl, rfl, eh, by omega, by omega, by rw [← rw'.length]; exact (ixN_seq ek).1, eu, ?_⟩
  obtain ⟨z1, z2⟩ := write R ea (c' := .lv (xs.eraseIdx k)) (ho' := .lst (ws.eraseIdx k)) (.lst (rw'.eraseIdx k)) (fun o u z => by rw [eh] at z; cases z)
  exact q _ _ _ z2 z1 (ru.step R z2)

theorem findIdx_at {p : D → Bool} : ∀ {xs : List D} {j : Nat}, xs.findIdx? p = some j → ∃ z, xs[j]? = some z ∧ p z = true ∧ ∀ (m : Nat) (z' : D), m < j → xs[m]? = some z' → p z' = false
  | [], j, h => by simp at h
  | x :: xs, j, h => by
    rw [List.findIdx?_cons] at h
    split at h
    · rename_i hx
      cases h
      exact ⟨x, rfl, hx, fun m z' hm _ => absurd hm (Nat.not_lt_zero _)⟩
    · rename_i hx
      simp only [Option.map_eq_some_iff] at h
      obtain ⟨i, h, rfl⟩ := h
      obtain ⟨z, h1, h2, h3⟩ := findIdx_at h
      refine ⟨z, by simpa using h1, h2, fun m z' hm e => ?_⟩
      cases m with
      | zero => cases e; simpa using hx
      | succ m => exact h3 m z' (by omega) (by simpa using e)
theorem mtr_lindex (hu : X.A.units + 65 < cLine) : MtR X "list.index" (rM .lindex) := by
  refine MtR.imp (mt_indexD hu) fun x vs H Q ⟨M, Λ, S, d, ds, d', S', R, rx, rs, h, q⟩ => ?_
  rcases ds with _ | ⟨y, _ | ⟨y2, ds⟩⟩
  · cases d <;> cases h
  rotate_left
  · cases d <;> cases h
  have h : ((asL S d).bind fun xs => if okd 12 (top S y) && xs.all (okd 11) then (xs.findIdx? fun z => PyData.eqv (py z) (py (top S y))).map fun j => ((.int (j : Nat) : D), S) else none) = some (d', S') := by cases d <;> exact h
  simp only [Option.bind_eq_some_iff] at h
  obtain ⟨xs, h1, h2⟩ := h
  split at h2 <;> try (cases h2; done)
  rename_i hc
  simp only [Bool.and_eq_true, List.all_eq_true] at hc
  simp only [Option.map_eq_some_iff, Prod.mk.injEq] at h2
  obtain ⟨j, h2, rfl, rfl⟩ := h2
  obtain ⟨u, rfl, ru⟩ := rvs1 rs
  obtain ⟨a, ws, rfl, ea, rw'⟩ := asL_rv R rx h1
  obtain ⟨y1, y2, y3⟩ := top_dp (K := X.K) R ru hc.1
  obtain ⟨z, g1, g2, g3⟩ := findIdx_at h2
  obtain ⟨b1, b2⟩ := okds (okd_of 11) rw' hc.2
  have gp : ∀ m : Nat, (pys xs)[m]? = (xs[m]?).map py := fun m => by rw [pys_map, List.getElem?_map]
  refine ⟨a, u, py (top S y), pys xs, j, py z, rfl, rfl, .lst (.of ea) (dps_of (dp_of 11) rw' hc.2), y1, shaped_of (n := 12) (by rw [PyData.canLay0]; exact b1) (by rw [PyData.depth]; omega) (by decide), shaped_of y2 y3 (by decide), by rw [gp, g1]; rfl, g2, fun m z' hm e => ?_, q _ _ _ Step.refl R (.int _)⟩
  rw [gp, Option.map_eq_some_iff] at e
  obtain ⟨w, e, rfl⟩ := e
  exact g3 m w hm e
theorem mtr_get (hu : X.A.units + 65 < cLine) : MtR X "dict.get" (rM .get) := by
  intro pins s σ H x xs v us Q I rx rs h
  obtain ⟨M, Λ, S, d, ds, d', S', R, rx', rs', h, q⟩ := h
  unfold mthS at h
  split at h <;> first | contradiction | skip
  simp only [Option.bind_eq_some_iff] at h
  obtain ⟨⟨t, ks, vs⟩, h1, kk, h2, h3⟩ := h
  split at h3 <;> try (cases h3; done)
  rename_i h4
  cases h3
  obtain ⟨a, rfl, D0⟩ := asDk_rv R rx' h1
  obtain ⟨y, z, rfl, ry, rz⟩ := rvs2 rs'
  cases rs with
  | @cons _ u1 _ _ r1 rs =>
    cases rs with
    | @cons _ u2 _ _ r2 rs =>
      cases rs
      obtain rfl : v = Value.ref a := rx
      rcases dget_rv D0 ry h2 h4 with ⟨q1, q2⟩ | ⟨d1, v1, q1, q2, r1'⟩
      · rw [q1] at q
        exact d_get2 (by omega) I q2 r1 r2 fun w' s' I' rw' => ⟨_, H, I', rw', q _ _ _ Step.refl R rz⟩
      · rw [q1] at q
        exact d_get2 (by omega) I q2 r1 r2 fun w' s' I' rw' => ⟨_, H, I', rw', q _ _ _ Step.refl R r1'⟩
/-! ### the methods together -/
def mthNm : Mth → Str
  | .join => "join" | .count => "count" | .index => "index" | .append => "append" | .extend => "extend" | .pop => "pop" | .popi => "pop" | .get => "get" | .get1 => "get" | .endswith => "endswith" | .update => "update" | .items => "items" | .lindex => "index"
def mthId : Mth → String
  | .join => "str.join" | .count => "str.count" | .index => "str.index" | .append => "list.append" | .extend => "list.extend" | .pop => "list.pop" | .popi => "list.pop" | .get => "dict.get" | .get1 => "dict.get" | .endswith => "str.endswith" | .update => "dict.update" | .items => "dict.items" | .lindex => "list.index"
theorem plain_mth (m : Mth) : PlainAttrs (mthTy m) := by
  cases m <;> first | exact PySem.F.plainAttrs_str | exact PySem.F.plainAttrs_list | exact PySem.F.plainAttrs_dict
def mthHave : Mth → Bool
  | .join | .count | .append | .extend | .pop | .popi | .lindex | .get => true
  | _ => false
theorem slot_mth (m : Mth) (h : mthHave m = true) : Slot (mthTy m) (mthNm m) (mthId m) ∧ typeOf (.builtin (mthId m)) = pure (.type "method_descriptor") := by
  cases m <;> first | cases h | skip
  · exact ⟨PySem.F.slot_str_join, PySem.F.type_str_join⟩
  · exact ⟨PySem.F.slot_str_count, PySem.F.type_str_count⟩
  · exact ⟨PySem.F.slot_list_append, PySem.F.type_list_append⟩
  · exact ⟨PySem.F.slot_list_extend, PySem.F.type_list_extend⟩
  · exact ⟨PySem.F.slot_list_pop, PySem.F.type_list_pop⟩
  · exact ⟨PySem.F.slot_list_pop, PySem.F.type_list_pop⟩
  · exact ⟨PySem.F.slot_dict_get, PySem.F.type_dict_get⟩
  · exact ⟨PySem.F.slot_list_index, PySem.F.type_list_index⟩
theorem mtr_all (hu : X.A.units + 65 < cLine) (m : Mth) (h : mthHave m = true) : MtR X (mthId m) (rM m) := by
  cases m <;> first | cases h | skip
  · exact mtr_join
  · exact mtr_count
  · exact mtr_append
  · exact mtr_extend
  · exact mtr_pop
  · exact mtr_popi
  · exact mtr_get hu
  · exact mtr_lindex hu
/-- a receiver's type; a dict may be locked -/
def tyG (K : PySem.W.Frag) (T : String) (x : V) (H : Hp) : Prop := tyV K T x H ∨ (T = "dict" ∧ ∃ a, x = .ref a ∧ IsD H a)
theorem tyG_is {pins : List (Addr × Obj)} {s : Shared} {T : String} {x : V} {v : Value} (I : Inv X pins σ H s) (r : RelV x v) (ty : tyG X.K T x H) : s.TypeIs v T ∧ ∀ a, v = .ref a → ∃ ob, s.heap.get? a = some ob ∧ ob.dict = none := by
  rcases ty with ty | ⟨rfl, a, rfl, d⟩
  · exact tyV_is I r ty
  · obtain rfl : v = Value.ref a := r
    obtain ⟨t1, t2, _⟩ := isD_at I d
    exact ⟨t1, t2⟩
theorem rcv_ty (m : Mth) (h : mthHave m = true) (R : RelS M Λ S H) {x : V} (rx : RV M Λ H d x) (e : tyOf S d = some (mthTy m)) : tyG X.K (mthTy m) x H := by
  have dk : mthTy m = "dict" → tyG X.K (mthTy m) x H := fun em => by
    rw [em] at e
    refine .inr ⟨em, ?_⟩
    cases rx with
    | @dct a o t ks ds ho e1 _ _ r =>
      cases t with
      | true => simp [tyOf] at e
      | false =>
        cases r with
        | dK _ _ => exact ⟨a, rfl, .inl ⟨_, .inr ⟨o, e1⟩⟩⟩
    | @ref l a e1 =>
      simp only [tyOf] at e
      split at e <;> first | (simp at e; done) | skip
      · rename_i q
        obtain ⟨ho, e2, r⟩ := R.st _ _ _ q e1
        cases r with
        | dK _ _ => exact ⟨a, rfl, .inl ⟨_, .inl e2⟩⟩
        | dT _ _ => exact ⟨a, rfl, .inr ⟨_, .inl e2⟩⟩
      · rename_i q
        obtain ⟨ho, e2, r⟩ := R.st _ _ _ q e1
        cases r with
        | lk r =>
          cases r with
          | dK _ _ => exact ⟨a, rfl, .inl ⟨_, .inr ⟨_, e2⟩⟩⟩
    | _ => simp [tyOf] at e
  refine (Classical.em (mthTy m = "dict")).elim dk fun hnd => .inl ?_
  have st : mthTy m = "str" → tyV X.K (mthTy m) x H := fun em => by
    rw [em] at e ⊢
    cases rx with
    | str _ => rfl
    | @dct _ _ t _ _ _ _ _ _ _ => cases t <;> simp [tyOf] at e
    | ref _ => simp only [tyOf] at e; split at e <;> simp at e
    | _ => simp [tyOf] at e
  have ls : mthTy m = "list" → tyV X.K (mthTy m) x H := fun em => by
    rw [em] at e ⊢
    cases rx with
    | lst e1 _ _ _ => exact .inl ⟨rfl, _, .of e1⟩
    | scr e1 e2 =>
      obtain ⟨a, ea, z⟩ := scr_of (K := X.K) (RV.scr (M := M) e1 e2)
      cases ea
      exact .inl ⟨rfl, _, z⟩
    | @dct _ _ t _ _ _ _ _ _ _ => cases t <;> simp [tyOf] at e
    | @ref l a e1 =>
      simp only [tyOf] at e
      split at e <;> first | (simp at e; done) | skip
      rename_i q
      obtain ⟨ho, e2, r⟩ := R.st _ _ _ q e1
      cases r with
      | lst r => exact .inl ⟨rfl, _, .of e2⟩
    | _ => simp [tyOf] at e
  cases m <;> simp only [mthHave, Bool.false_eq_true] at h <;> first | exact st rfl | exact ls rfl | exact absurd rfl hnd
def tBMG0 (K : PySem.W.Frag) (T : String) (r : V → List V → Hp → VK → Prop) (to : TE) : TE := fun σ H Q => to σ H fun x H1 => tyG K T x H1 ∧ r x [] H1 Q
def tBMG (K : PySem.W.Frag) (T : String) (r : V → List V → Hp → VK → Prop) (to : TE) (t : TA) : TE := fun σ H Q => to σ H fun x H1 => tyG K T x H1 ∧ t σ H1 fun xs H2 => r x xs H2 Q
theorem pe_bmG0 {o : Expr} {to : TE} {name : Str} {apos cpos : Pos} {T id : String} {r : V → List V → Hp → VK → Prop} (pa : PlainAttrs T) (slot : Slot T name id) (hty : typeOf (.builtin id) = pure (.type "method_descriptor")) (hm : MtR X id r) (ho : PE X o to)
    (hbase : attributeBase o name X.env (eval o X.env) = eval o X.env) (hline : (apos.endLine == cpos.line) = true) : PE X (.Call (.Attribute o name apos) [] [] cpos) (tBMG0 X.K T r to) := by
  refine ⟨fun pins s σ H Q I h => ?_⟩
  refine wpAny_Call_method0_late hbase hline (thn (ho.run pins s σ H _ I h) fun v s1 ⟨x, H1, I1, r1, ty, q1⟩ => ?_)
  obtain ⟨h1, h2⟩ := tyG_is I1 r1 ty
  exact ⟨T, id, pa, slot, hty, h1, h2, Calls.callWith_builtin rfl (PySem.evalArgs_none (hm pins s1 σ H1 x [] v [] Q I1 r1 .nil q1))⟩
theorem pe_bmG {o e : Expr} {es : List Expr} {to : TE} {t : TA} {name : Str} {apos cpos : Pos} {T id : String} {r : V → List V → Hp → VK → Prop} (pa : PlainAttrs T) (slot : Slot T name id) (hty : typeOf (.builtin id) = pure (.type "method_descriptor")) (hm : MtR X id r) (ho : PE X o to) (ha : PA X (e :: es) t)
    (hbase : attributeBase o name X.env (eval o X.env) = eval o X.env)
    (hfew : ((backTo cpos (starEach (e :: es) X.env)).all (fun x => !x.1) && (backToKw cpos (keywordEach [] X.env)).all (fun x => x.1.isSome)
      && decide ((e :: es).length + ([] : List Keyword).length + (if ([] : List Keyword).isEmpty then 0 else 1) < 30)) = true)
    (hline : (apos.endLine == cpos.line) = true) (hs : starEach (e :: es) X.env = (false, eval e X.env) :: starEach es X.env) (hplain : (backTo cpos (starEach es X.env)).any (·.1) = false) :
    PE X (.Call (.Attribute o name apos) (e :: es) [] cpos) (tBMG X.K T r to t) := by
  refine ⟨fun pins s σ H Q I h => ?_⟩
  refine wpAny_Call_method_late hbase hfew hline rfl (thn (ho.run pins s σ H _ I h) fun v s1 ⟨x, H1, I1, r1, ty, q1⟩ => ?_)
  obtain ⟨h1, h2⟩ := tyG_is I1 r1 ty
  refine ⟨T, id, pa, slot, hty, h1, h2, ?_⟩
  have hA := ha.run cpos pins s1 σ H1 _ I1 q1
  rw [hs] at hA ⊢
  refine Calls.callWith_builtin (by show (false || (backTo cpos (starEach es X.env)).any (·.1)) = false; rw [hplain] <;> rfl) (Calls.evalArgs_plain ?_)
  exact thn hA fun us s2 ⟨vs, H2, I2, r2, q2⟩ => hm pins s2 σ H2 x vs v us Q I2 r1 r2 q2
variable {e o : Expr} {es : List Expr} {g : Env → Store → Option (List D × Store)} {fo : Env → Store → Option (D × Store)} {apos cpos : Pos}
theorem se_mth (hu : X.A.units + 65 < cLine) (m : Mth) (hm : mthHave m = true) (ho : PE X o (tE fo)) (ha : PA X (e :: es) (tA g))
    (hbase : attributeBase o (mthNm m) X.env (eval o X.env) = eval o X.env)
    (hfew : ((backTo cpos (starEach (e :: es) X.env)).all (fun x => !x.1) && (backToKw cpos (keywordEach [] X.env)).all (fun x => x.1.isSome)
      && decide ((e :: es).length + ([] : List Keyword).length + (if ([] : List Keyword).isEmpty then 0 else 1) < 30)) = true)
    (hline : (apos.endLine == cpos.line) = true) (hs : starEach (e :: es) X.env = (false, eval e X.env) :: starEach es X.env) (hplain : (backTo cpos (starEach es X.env)).any (·.1) = false) :
    PE X (.Call (.Attribute o (mthNm m) apos) (e :: es) [] cpos) (tE fun ρ S => (fo ρ S).bind fun x => if tyOf x.2 x.1 = some (mthTy m) then (g ρ x.2).bind fun y => mthS m x.1 y.1 y.2 else none) := by
  obtain ⟨h1, h2⟩ := slot_mth m hm
  refine PE.imp (pe_bmG (plain_mth m) h1 h2 (mtr_all hu m hm) ho ha hbase hfew hline hs hplain) fun σ H Q ⟨M, ρ, S, Λ, d, S', R, RE, h, q⟩ => ?_
  simp only [Option.bind_eq_some_iff] at h
  obtain ⟨⟨x, S1⟩, e1, h⟩ := h
  split at h <;> first | contradiction | skip
  rename_i et
  simp only [Option.bind_eq_some_iff] at h
  obtain ⟨⟨y, S2⟩, e2, h⟩ := h
  refine tE_of R RE e1 fun v1 H1 Λ1 s1 R1 r1 => ⟨rcv_ty m hm R1 r1 et, M, ρ, S1, Λ1, y, S2, R1, RE.step R s1, e2, fun vs H2 Λ2 s2 R2 r2 => ⟨M, Λ2, S2, x, y, d, S', R2, r1.step R1 s2, r2, h, fun v H3 Λ3 s3 R3 r3 => q _ _ _ (s1.trans (s2.trans s3)) R3 r3⟩⟩
theorem se_mth0 (hu : X.A.units + 65 < cLine) (m : Mth) (hm : mthHave m = true) (ho : PE X o (tE fo))
    (hbase : attributeBase o (mthNm m) X.env (eval o X.env) = eval o X.env) (hline : (apos.endLine == cpos.line) = true) :
    PE X (.Call (.Attribute o (mthNm m) apos) [] [] cpos) (tE fun ρ S => (fo ρ S).bind fun x => if tyOf x.2 x.1 = some (mthTy m) then mthS m x.1 [] x.2 else none) := by
  obtain ⟨h1, h2⟩ := slot_mth m hm
  refine PE.imp (pe_bmG0 (plain_mth m) h1 h2 (mtr_all hu m hm) ho hbase hline) fun σ H Q ⟨M, ρ, S, Λ, d, S', R, RE, h, q⟩ => ?_
  simp only [Option.bind_eq_some_iff] at h
  obtain ⟨⟨x, S1⟩, e1, h⟩ := h
  split at h <;> first | contradiction | skip
  rename_i et
  exact tE_of R RE e1 fun v1 H1 Λ1 s1 R1 r1 => ⟨rcv_ty m hm R1 r1 et, M, Λ1, S1, x, [], d, S', R1, r1, .nil, h, fun v H3 Λ3 s3 R3 r3 => q _ _ _ (s1.trans s3) R3 r3⟩
end
end Pd

/-! Pd10b: sorted(d.items()). -/
namespace Pd
open PySem PySem.Spec PyProof.Rows L2

section
variable {M : Addr → Prop} {Λ Λ' : List Addr} {H H' : Hp} {S S' : Store} {d : D} {v : V} {Q : VK} {X : Cx} {ρ : Env} {σ : L2.St}
theorem items_laid2 {pins : List (Addr × Obj)} {s : Shared} {h' : Heap} {tk : Nat} {kvs : List (Key × V)} {vs : List (Key × Value)} {as : List Addr} (I : Inv X pins σ H s) (kv : KV kvs vs)
    (hk : ∀ b o, s.heap.get? b = some o → h'.get? b = some o) (hl : as.length = vs.length) (hG : PySem.W.KdxG (mixKind X.prog X.w) vs s.heap.objs.size h' as) :
    ∃ H' : Hp, (∀ b o, H b = some o → H' b = some o) ∧ Paired (fun (t : Addr) (q : Key × V) => H' t = some (.tup [kV q.1, q.2])) as kvs ∧ Inv X pins σ H' { s with heap := h', toks := tk } := by
  have lk : kvs.length = vs.length := Paired.length kv
  have nd : as.Nodup := List.Pairwise.imp (fun {a b} (h : a < b) => Nat.ne_of_lt h) hG.rise
  have new : ∀ t ∈ as, H t = none := fun t ht => I.hok.fresh (Nat.le_of_lt (hG.above t ht))
  have atP := LiI.putT_at as kvs H (by omega) nd
  have off : ∀ b, b ∉ as → LiI.putT H as kvs b = H b := fun b h1 => LiI.putT_off as kvs _ h1
  have low : ∀ b o, s.heap.get? b = some o → b ∉ as := fun b o e => fun z => absurd (Heap.lt_size e) (Nat.not_lt.mpr (Nat.le_of_lt (hG.above b z)))
  have kp : ∀ b u, H b = some u → LiI.putT H as kvs b = some u := fun b u e => by
    rw [off b (fun z => by rw [new b z] at e; cases e)]
    exact e
  refine ⟨LiI.putT H as kvs, kp, atP, ?_⟩
  refine I.call' (ch := []) rfl ⟨fun b o q _ _ _ => hk b o q, fun b o q _ _ _ => ⟨o.slots, hk b o q⟩, fun b o q n _ => ?_, fun b o q _ => ⟨o, hk b o q⟩, fun b xs q => kp b _ q, fun b o u q => kp b _ q, fun b ps q => ⟨#[], by rw [kp b _ q]; simp⟩⟩ (fun b u q => ?_) I.bare fun b z => by simp at z
  · rw [off b (low b o q)]
    exact n
  · by_cases hb : b ∈ as
    · obtain ⟨j, pk, e1, e2, e3⟩ := LiI.paired_ix atP hb
      rw [e3] at q
      cases q
      obtain ⟨key, k, x, f1, f2, f3⟩ := hG.pairs j b e1
      obtain ⟨qv, g1, g2, g3⟩ := LiI.paired_get kv e2
      rw [f1] at g1
      cases g1
      have rk : RelV (kV pk.1) key := by
        rw [g2]
        exact relV_key (show keyIs k key = true from f2)
      exact ⟨by show 2 ≤ sizeLine; decide, [key, x], .cons rk (.cons g3 .nil), ⟨_, f3, rfl, _, rfl⟩⟩
    · rw [off b hb] at q
      exact (I.hok b u q).stay (fun d v _ y => hk d v y) (fun d y => kp d _ y) fun d xs y => kp d _ y
theorem items_rvs : ∀ {ks : List DK} {ds : List D} {kvs : List (Key × V)} {as : List Addr}, KK ks (kvs.map (·.1)) → RVs M Λ H ds (kvs.map (·.2)) → Paired (fun (t : Addr) (q : Key × V) => H t = some (.tup [kV q.1, q.2])) as kvs → RVs M Λ H (itemsL ks ds) (as.map V.ref)
  | ks, ds, [], as, h, r, p => by
    cases p
    cases h
    cases r
    exact .nil
  | ks, ds, q :: kvs, as, h, r, p => by
    cases p with
    | cons e p =>
      simp only [List.map_cons] at h r
      cases r with
      | cons r rs =>
        obtain ⟨w1, w2⟩ := q
        cases h with
        | i h => exact .cons (.tup e (.cons (.int _) (.cons r .nil))) (items_rvs h rs p)
        | s o h => exact .cons (.tup e (.cons (.str o) (.cons r .nil))) (items_rvs h rs p)
theorem itemsL_len : ∀ {ks : List DK} {ds : List D}, ks.length = ds.length → (itemsL ks ds).length = ks.length
  | [], [], _ => rfl
  | [], _ :: _, h => by cases h
  | _ :: _, [], h => by cases h
  | k :: ks, d :: ds, h => by rw [itemsL, List.length_cons, List.length_cons, itemsL_len (Nat.succ.inj h)]
/-- sorted(e.items()) -/
theorem se_sit {e : Expr} {fo : Env → Store → Option (D × Store)} {p apos cpos pos : Pos} (hc : X.calm = true) (hu : X.A.units + 64 < cLine) (he : PE X e (tE fo)) (hg : Gl X "sorted") (hm : X.mg "sorted" = none)
    (hbase : attributeBase e "items" X.env (eval e X.env) = eval e X.env) (hline : (apos.endLine == cpos.line) = true) :
    PE X (.Call (.Name "sorted" p) [.Call (.Attribute e "items" apos) [] [] cpos] [] pos) (tE fun ρ S => (fo ρ S).bind fun x => (sitS x.1 x.2).map fun d => (d, x.2)) := by
  have hs : starEach [.Call (.Attribute e "items" apos) [] [] cpos] X.env = (false, eval (.Call (.Attribute e "items" apos) [] [] cpos) X.env) :: starEach [] X.env := rfl
  refine ⟨fun pins s σ H Q I hq => ?_⟩
  obtain ⟨M, ρ, S, Λ, d, S', R, RE, h, q⟩ := hq
  simp only [Option.bind_eq_some_iff, Option.map_eq_some_iff, Prod.mk.injEq] at h
  obtain ⟨⟨x, S1⟩, h1, d', h2, rfl, rfl⟩ := h
  unfold sitS at h2
  split at h2 <;> try (cases h2; done)
  rename_i ks ds ed
  split at h2 <;> try (cases h2; done)
  rename_i hcc
  cases h2
  refine wpAny_Call_Name_kw (ld_blt I hg hm (by decide +kernel : bootBuiltins "sorted" = some (.builtin "sorted")) ?_)
  refine PyProof.Rows.callWith_builtin1 ?_ hs rfl
  rw [hs]
  show wpAny _ _ (spliced ((false, eval (.Call (.Attribute e "items" apos) [] [] cpos) X.env) :: backTo pos (starEach [] X.env))) _ _ s
  refine Calls.spliced_cons ?_
  refine wpAny_Call_method (T := "dict") (id := "dict.items") hbase rfl hline F.plainAttrs_dict F.slot_dict_items F.type_dict_items (thn (he.run pins s σ H (fun v H1 => ∃ Λ1, Step Λ H Λ1 H1 ∧ RelS M Λ1 S1 H1 ∧ RV M Λ1 H1 x v) I ⟨M, ρ, S, Λ, x, S1, R, RE, h1, fun v H1 Λ1 s1 R1 r1 => ⟨Λ1, s1, R1, r1⟩⟩) fun u s1 ⟨v, H1, I1, rx, Λ1, st1, R1, r1⟩ => ?_)
  obtain ⟨a, rfl, D0⟩ := asDk_rv R1 r1 ed
  obtain rfl : u = Value.ref a := rx
  rcases D0 with ⟨_, kvs, hd, k1, k2⟩ | ⟨z, _⟩
  rotate_left
  · cases z
  obtain ⟨hz, hs0, vs, kv, hdo⟩ := dk_rd I1.hok hd
  obtain ⟨ep, hat⟩ := hdo.dictAt
  have lk : kvs.length = vs.length := Paired.length kv
  have lkk : ks.length = kvs.length := by rw [k1.len, List.length_map]
  have lds : ds.length = kvs.length := by rw [k2.length, List.length_map]
  have hz' : vs.length ≤ sizeLine := by
    simp only [Bool.and_eq_true, decide_eq_true_eq] at hcc
    rw [← lk, ← lkk, ← line_eq]
    exact hcc.2
  have I2 : Inv X pins σ H1 { s1 with heap := s1.heap.push { cls := .type "dict_items", data := .fields #[.ref a] } } := I1.kept (t' := s1.toks) fun b ob q => Heap.get?_push_of_some _ q
  refine ⟨hdo.typeIs, hdo.mapOf.noDict, ?_⟩
  show wpAny _ _ (callWith cpos (.builtin "dict.items") [.ref a] [] []) _ X.xe s1
  refine method_meetsIn F.slot_dict_items F.entry_dict_items rfl (PySem.evalArgs_none ⟨rfl, hdo.typeIs, F.args_dict_items_1 _, _, meets_dict_items (mixKind X.prog X.w) a hs0, ⟨vs, hdo⟩, ?_⟩)
  refine Calls.spliced_nil ?_
  refine sorted_any (M := M) (Λ := Λ1) (xs := itemsL ks ds) (F := fun H' => ∀ b o, H1 b = some o → H' b = some o) hu (by rw [itemsL_len (by omega)]; exact hcc) (fun QL E hq => ?_) fun H2 b ho hF hn r hm => ?_
  · refine PySem.W.kdx_collect (knd := mixKind X.prog X.w) (kvs := vs) (ep := ep) (I1.ok.hd hc) ⟨_, Heap.get?_push_size _ rfl, rfl, rfl⟩ (hat.push _) hz' fun h' tk as hk hl hG => ?_
    obtain ⟨H', g1, g2, J⟩ := items_laid2 (tk := tk) I2 kv hk hl hG
    refine hq h' tk (as.map Value.ref) (as.map V.ref) H' J (items_rvs k1 (k2.step R1 (Step.same g1)) g2) (LiI.vals_refs as) ?_ g1
    rw [List.length_map, itemsL_len (by omega), hl]
    omega
  · cases r with
    | lst r =>
      obtain ⟨z1, z2, z3⟩ := freeze (R1.same hF) hn r
      exact q _ _ _ (st1.trans ((Step.same hF).trans z3)) z1 z2
end
end Pd

/-! Pd11: what is walked. -/
namespace Pd
open PySem PySem.Spec PyProof.Rows L2

section
variable {K : PySem.W.Frag} {M : Addr → Prop} {Λ Λ' Λ1 : List Addr} {H H' H1 : Hp} {S S' : Store} {d : D} {v : V} {Q : VK} {X : Cx} {ρ ρ' : Env} {σ : L2.St}
/-- with one more object in the making -/
def more (M : Addr → Prop) (D0 : Addr) : Addr → Prop := fun a => M a ∨ a = D0

/-! ### an object in the making is changed -/
/-- H' differs from H at D0 alone, which nothing told depends on -/
structure Off (M : Addr → Prop) (Λ : List Addr) (H : Hp) (D0 : Addr) (H' : Hp) : Prop where
  out : D0 ∉ Λ
  at0 : H D0 = none ∨ M D0 ∧ ∃ u, H D0 = some u ∧ isMut u
  same : ∀ a, a ≠ D0 → H' a = H a
theorem Off.keep {D0 : Addr} (o : Off M Λ H D0 H') {a : Addr} {u : HO} (e : H a = some u) (h : ¬ isMut u ∨ ¬ M a) : H' a = some u := by
  have hne : a ≠ D0 := by
    intro z
    subst z
    rcases o.at0 with q | ⟨q1, w, q2, q3⟩
    · rw [q] at e; cases e
    · rcases h with h | h
      · rw [q2] at e; cases e; exact h q3
      · exact h q1
  rw [o.same a hne]
  exact e
mutual
theorem RV.off {D0 : Addr} (o : Off M Λ H D0 H') : ∀ {d : D} {v : V}, RV M Λ H d v → RV M Λ H' d v
  | _, _, .non => .non
  | _, _, .bl b => .bl b
  | _, _, .int i => .int i
  | _, _, .str h => .str h
  | _, _, .ty n => .ty n
  | _, _, .tup h r => .tup (o.keep h (.inl (by intro z; exact z))) (RVs.off o r)
  | _, _, .lst e h m r => .lst (o.keep e (.inr m)) h m (RVs.off o r)
  | _, _, .dct e h m r => .dct (o.keep e (.inr m)) h m (RO.off o r)
  | _, _, .ref h => .ref h
  | _, _, .scr e h => .scr (o.keep e (.inl (by intro z; exact z))) h
theorem RVs.off {D0 : Addr} (o : Off M Λ H D0 H') : ∀ {ds : List D} {vs : List V}, RVs M Λ H ds vs → RVs M Λ H' ds vs
  | _, _, .nil => .nil
  | _, _, .cons h r => .cons (RV.off o h) (RVs.off o r)
theorem RO.off {D0 : Addr} (o : Off M Λ H D0 H') : ∀ {d : D} {ho : HO}, RO M Λ H d ho → RO M Λ H' d ho
  | _, _, .lst r => .lst (RVs.off o r)
  | _, _, .dK k r => .dK k (RVs.off o r)
  | _, _, .dT k r => .dT k (RVs.off o r)
  | _, _, .lk r => .lk (RO.off o r)
end
theorem RelS.off {D0 : Addr} (R : RelS M Λ S H) (o : Off M Λ H D0 H') (h0 : ∃ u, H' D0 = some u) : RelS M Λ S H' := by
  refine ⟨R.len, R.nd, R.nm, fun a h => ?_, fun l c a e1 e2 => ?_⟩
  · by_cases z : a = D0
    · subst z; exact h0
    · obtain ⟨u, e⟩ := R.mt a h
      exact ⟨u, by rw [o.same a z]; exact e⟩
  · obtain ⟨ho, e3, r⟩ := R.st l c a e1 e2
    refine ⟨ho, ?_, r.off o⟩
    rw [o.same a (fun z => o.out (z ▸ List.mem_of_getElem? e2))]
    exact e3
theorem RelE.off {D0 : Addr} (R : RelE M Λ H ρ σ) (o : Off M Λ H D0 H') : RelE M Λ H' ρ σ :=
  ⟨R.1, fun i d e => let ⟨v, e1, r⟩ := R.2 i d e; ⟨v, e1, r.off o⟩⟩
/-! ### one more in the making -/
mutual
theorem RV.more {D0 : Addr} (h0 : H D0 = none) : ∀ {d : D} {v : V}, RV M Λ H d v → RV (Pd.more M D0) Λ H d v
  | _, _, .non => .non
  | _, _, .bl b => .bl b
  | _, _, .int i => .int i
  | _, _, .str h => .str h
  | _, _, .ty n => .ty n
  | _, _, .tup h r => .tup h (RVs.more h0 r)
  | _, _, .lst e h m r => .lst e h (fun z => z.elim m fun z => by subst z; rw [h0] at e; cases e) (RVs.more h0 r)
  | _, _, .dct e h m r => .dct e h (fun z => z.elim m fun z => by subst z; rw [h0] at e; cases e) (RO.more h0 r)
  | _, _, .ref h => .ref h
  | _, _, .scr e h => .scr e h
theorem RVs.more {D0 : Addr} (h0 : H D0 = none) : ∀ {ds : List D} {vs : List V}, RVs M Λ H ds vs → RVs (Pd.more M D0) Λ H ds vs
  | _, _, .nil => .nil
  | _, _, .cons h r => .cons (RV.more h0 h) (RVs.more h0 r)
theorem RO.more {D0 : Addr} (h0 : H D0 = none) : ∀ {d : D} {ho : HO}, RO M Λ H d ho → RO (Pd.more M D0) Λ H d ho
  | _, _, .lst r => .lst (RVs.more h0 r)
  | _, _, .dK k r => .dK k (RVs.more h0 r)
  | _, _, .dT k r => .dT k (RVs.more h0 r)
  | _, _, .lk r => .lk (RO.more h0 r)
end
theorem off_new {D0 : Addr} (R : RelS M Λ S H) (h0 : H D0 = none) (u : HO) : Off M Λ H D0 (upd H D0 u) := ⟨(R.fresh h0).1, .inl h0, fun a h => upd_ne h⟩
theorem RV.begin {D0 : Addr} {u : HO} (R : RelS M Λ S H) (h0 : H D0 = none) (r : RV M Λ H d v) : RV (Pd.more M D0) Λ (upd H D0 u) d v := (r.more h0).off ⟨(R.fresh h0).1, .inl h0, fun a h => upd_ne h⟩
theorem RVs.begin {ds : List D} {vs : List V} {D0 : Addr} {u : HO} (R : RelS M Λ S H) (h0 : H D0 = none) (r : RVs M Λ H ds vs) : RVs (Pd.more M D0) Λ (upd H D0 u) ds vs := (r.more h0).off ⟨(R.fresh h0).1, .inl h0, fun a h => upd_ne h⟩
theorem RelE.begin {D0 : Addr} {u : HO} (R : RelS M Λ S H) (h0 : H D0 = none) (r : RelE M Λ H ρ σ) : RelE (Pd.more M D0) Λ (upd H D0 u) ρ σ :=
  ⟨r.1, fun i d e => let ⟨v, e1, r'⟩ := r.2 i d e; ⟨v, e1, r'.begin R h0⟩⟩
theorem RelS.begin {D0 : Addr} (R : RelS M Λ S H) (h0 : H D0 = none) (u : HO) : RelS (Pd.more M D0) Λ S (upd H D0 u) := by
  have o := off_new R h0 u
  refine ⟨R.len, R.nd, fun a h z => z.elim (R.nm a h) fun z => (R.fresh h0).1 (z ▸ h), fun a h => ?_, fun l c a e1 e2 => ?_⟩
  · by_cases z : a = D0
    · subst z; exact ⟨u, upd_same⟩
    · rcases h with h | h
      · obtain ⟨w, e⟩ := R.mt a h
        exact ⟨w, by rw [upd_ne z]; exact e⟩
      · exact absurd h z
  · obtain ⟨ho, e3, r⟩ := R.st l c a e1 e2
    refine ⟨ho, ?_, (r.more h0).off ⟨(R.fresh h0).1, .inl h0, fun a h => upd_ne h⟩⟩
    rw [upd_ne (ne_of_none e3 h0)]
    exact e3
/-! ### it is made -/
mutual
theorem RV.less {D0 : Addr} : ∀ {d : D} {v : V}, RV (Pd.more M D0) Λ H d v → RV M Λ H d v
  | _, _, .non => .non
  | _, _, .bl b => .bl b
  | _, _, .int i => .int i
  | _, _, .str h => .str h
  | _, _, .ty n => .ty n
  | _, _, .tup h r => .tup h (RVs.less r)
  | _, _, .lst e h m r => .lst e h (fun z => m (.inl z)) (RVs.less r)
  | _, _, .dct e h m r => .dct e h (fun z => m (.inl z)) (RO.less r)
  | _, _, .ref h => .ref h
  | _, _, .scr e h => .scr e h
theorem RVs.less {D0 : Addr} : ∀ {ds : List D} {vs : List V}, RVs (Pd.more M D0) Λ H ds vs → RVs M Λ H ds vs
  | _, _, .nil => .nil
  | _, _, .cons h r => .cons (RV.less h) (RVs.less r)
theorem RO.less {D0 : Addr} : ∀ {d : D} {ho : HO}, RO (Pd.more M D0) Λ H d ho → RO M Λ H d ho
  | _, _, .lst r => .lst (RVs.less r)
  | _, _, .dK k r => .dK k (RVs.less r)
  | _, _, .dT k r => .dT k (RVs.less r)
  | _, _, .lk r => .lk (RO.less r)
end
theorem RelS.less {D0 : Addr} (R : RelS (Pd.more M D0) Λ S H) : RelS M Λ S H :=
  ⟨R.len, R.nd, fun a h z => R.nm a h (.inl z), fun a h => R.mt a (.inl h), fun l c a e1 e2 => let ⟨ho, e3, r⟩ := R.st l c a e1 e2; ⟨ho, e3, r.less⟩⟩
theorem Step.updM {D0 : Addr} {u : HO} (s : Step Λ H Λ' H') (h0 : H D0 = none) : Step Λ H Λ' (upd H' D0 u) := by
  refine ⟨s.ext, fun a o e h => ?_, fun a o e => ?_, fun a o u e => ?_⟩
  · rw [upd_ne (ne_of_none e h0)]
    exact s.keep a o e h
  · rw [upd_ne (ne_of_none e h0)]
    exact s.there a o e
  · rw [upd_ne (ne_of_none e h0)]
    exact s.frz a o u e
/-- made, and it will not change -/
theorem made_lv {D0 : Addr} (R : RelS (Pd.more M D0) Λ S H) (hm : ¬ M D0) {xs : List D} {vs : List V} (e : H D0 = some (.lst vs)) (r : RVs (Pd.more M D0) Λ H xs vs) : RelS M Λ S H ∧ RV M Λ H (.lv xs) (.ref D0) :=
  ⟨R.less, .lst e (fun z => R.nm D0 z (.inr rfl)) hm r.less⟩
/-- made, and it may change -/
theorem made_ref {Λ0 : List Addr} {H0 : Hp} {D0 : Addr} (R : RelS (Pd.more M D0) Λ S H) (hm : ¬ M D0) (s : Step Λ0 H0 Λ H) (h0 : H0 D0 = none) {c : D} {ho : HO} (e : H D0 = some ho) (r : RO (Pd.more M D0) Λ H c ho) (hmu : isMut ho) :
    RelS M (Λ ++ [D0]) (S ++ [c]) H ∧ RV M (Λ ++ [D0]) H (.ref S.length) (.ref D0) ∧ Step Λ0 H0 (Λ ++ [D0]) H := by
  have hn : D0 ∉ Λ := fun z => R.nm D0 z (.inr rfl)
  have R' := R.less
  -- what is told of the others does not need the new one
  have lift : ∀ {d : D} {v : V}, RV (Pd.more M D0) Λ H d v → RV M (Λ ++ [D0]) H d v := fun {d v} h => by
    refine (RV.rec (M := Pd.more M D0) (Λ := Λ) (H := H) (motive_1 := fun d v _ => RV M (Λ ++ [D0]) H d v) (motive_2 := fun d v _ => RVs M (Λ ++ [D0]) H d v) (motive_3 := fun d v _ => RO M (Λ ++ [D0]) H d v) ?_ ?_ ?_ ?_ ?_ ?_ ?_ ?_ ?_ ?_ ?_ ?_ ?_ ?_ ?_ ?_ h)
    · exact .non
    · exact fun b => .bl b
    · exact fun i => .int i
    · exact fun h => .str h
    · exact fun n => .ty n
    · exact fun h _ r => .tup h r
    · exact fun e h m _ r => .lst e (fun z => (List.mem_append.mp z).elim h fun z => m (.inr (List.mem_singleton.mp z))) (fun z => m (.inl z)) r
    · exact fun e h m _ r => .dct e (fun z => (List.mem_append.mp z).elim h fun z => m (.inr (List.mem_singleton.mp z))) (fun z => m (.inl z)) r
    · exact fun h => .ref (by rw [List.getElem?_append_left (List.getElem?_eq_some_iff.mp h).1]; exact h)
    · intro a o ns e2 h2
      refine .scr e2 fun z => (List.mem_append.mp z).elim h2 fun z => ?_
      rw [List.mem_singleton.mp z] at e2
      rw [e] at e2
      cases e2
      exact hmu.elim
    · exact .nil
    · exact fun _ _ h r => .cons h r
    · exact fun _ r => .lst r
    · exact fun k _ r => .dK k r
    · exact fun k _ r => .dT k r
    · exact fun _ r => .lk r
  have lifts : ∀ {ds : List D} {vs : List V}, RVs (Pd.more M D0) Λ H ds vs → RVs M (Λ ++ [D0]) H ds vs := fun {ds} => by
    induction ds with
    | nil => intro vs h; cases h; exact .nil
    | cons d ds ih => intro vs h; cases h with | cons h r => exact .cons (lift h) (ih r)
  have lifto : ∀ {c : D} {ho : HO}, RO (Pd.more M D0) Λ H c ho → RO M (Λ ++ [D0]) H c ho := fun h => by
    cases h with
    | lst r => exact .lst (lifts r)
    | dK k r => exact .dK k (lifts r)
    | dT k r => exact .dT k (lifts r)
    | lk r => cases r with
      | dK k r => exact .lk (.dK k (lifts r))
      | dT k r => exact .lk (.dT k (lifts r))
  refine ⟨⟨by simp [R.len], ?_, fun b hb => ?_, R'.mt, fun l c' b e1 e2 => ?_⟩, .ref ?_, ⟨?_, fun a o q h => s.keep a o q fun z => h ?_, s.there, s.frz⟩⟩
  · rw [List.nodup_append]
    refine ⟨R.nd, by simp, fun x hx y hy z => ?_⟩
    rw [List.mem_singleton.mp hy] at z
    exact hn (z ▸ hx)
  · rcases List.mem_append.mp hb with z | z
    · exact R'.nm b z
    · rw [List.mem_singleton.mp z]; exact hm
  · by_cases hl : l < S.length
    · rw [List.getElem?_append_left hl] at e1
      rw [List.getElem?_append_left (by rw [← R.len]; exact hl)] at e2
      obtain ⟨ho', e3, r'⟩ := R.st l c' b e1 e2
      exact ⟨ho', e3, lifto r'⟩
    · have hl2 : l = S.length := by
        have := (List.getElem?_eq_some_iff.mp e1).1
        simp at this
        omega
      subst hl2
      rw [List.getElem?_append_right (Nat.le_refl _)] at e1
      rw [R.len, List.getElem?_append_right (Nat.le_refl _)] at e2
      simp at e1 e2
      subst e1; subst e2
      exact ⟨ho, e, lifto r⟩
  · rw [R.len, List.getElem?_append_right (Nat.le_refl _)]
    simp
  · obtain ⟨n, rfl, hn'⟩ := s.ext
    exact ⟨n ++ [D0], by simp, fun a ha => (List.mem_append.mp ha).elim (hn' a) fun z => by rw [List.mem_singleton.mp z]; exact h0⟩
  · exact z
end
end Pd

/-! Pd12: iterators by the evaluator. -/
namespace Pd
open PySem PySem.Spec PyProof.Rows L2

section
variable {K : PySem.W.Frag} {M : Addr → Prop} {Λ Λ' Λ1 : List Addr} {H H' H1 : Hp} {S S' : Store} {d : D} {v : V} {Q : VK} {X : Cx} {ρ ρ' : Env} {σ : L2.St}
/-- the i-th turn -/
def nextW : W → Nat → Store → Option (Option D)
  | .fix xs, i, _ => some xs[i]?
  | .dyn l, i, S => nxD l i S
/-- what an iterator needs through its turns: things that lie there, objects that do not change -/
structure Fx (M : Addr → Prop) (Λ : List Addr) (H : Hp) (ds : List D) (vs : List V) (fs : List (Addr × HO)) : Prop where
  rv : RVs M Λ H ds vs
  fz : ∀ p ∈ fs, H p.1 = some p.2
  nm : ∀ p ∈ fs, ¬ isMut p.2
theorem Fx.step {ds : List D} {vs : List V} {fs : List (Addr × HO)} (F0 : Fx M Λ H ds vs fs) (R : RelS M Λ S H) (s : Step Λ H Λ' H') : Fx M Λ' H' ds vs fs :=
  ⟨F0.rv.step R s, fun p hp => by
    by_cases hf : isFrz p.2
    · have h1 := F0.fz p hp
      revert h1 hf
      cases e : p.2 <;> intro hf h1 <;> first | exact hf.elim | exact s.frz _ _ _ h1
    · exact s.keep _ _ (F0.fz p hp) (R.tup_out (.inl (F0.fz p hp)) (F0.nm p hp) hf), F0.nm⟩
theorem Fx.off {ds : List D} {vs : List V} {fs : List (Addr × HO)} {D0 : Addr} (F0 : Fx M Λ H ds vs fs) (o : Off M Λ H D0 H') : Fx M Λ H' ds vs fs :=
  ⟨F0.rv.off o, fun p hp => o.keep (F0.fz p hp) (.inl (F0.nm p hp)), F0.nm⟩
theorem Fx.begin {ds : List D} {vs : List V} {fs : List (Addr × HO)} {D0 : Addr} {u : HO} (F0 : Fx M Λ H ds vs fs) (R : RelS M Λ S H) (h0 : H D0 = none) : Fx (Pd.more M D0) Λ (upd H D0 u) ds vs fs :=
  ⟨F0.rv.begin R h0, fun p hp => by rw [upd_ne (ne_of_none (F0.fz p hp) h0)]; exact F0.fz p hp, F0.nm⟩
theorem Fx.only {ds : List D} {vs : List V} (h : RVs M Λ H ds vs) : Fx M Λ H ds vs [] := ⟨h, fun _ z => (List.not_mem_nil z).elim, fun _ z => (List.not_mem_nil z).elim⟩
theorem Fx.fixed {a : Addr} {u : HO} (h : H a = some u) (hn : ¬ isMut u) : Fx M Λ H [] [] [(a, u)] := ⟨.nil, fun p hp => by rw [List.mem_singleton.mp hp]; exact h, fun p hp => by rw [List.mem_singleton.mp hp]; exact hn⟩
def JOk (J : L2.It) (w : W) (ds : List D) (vs : List V) (fs : List (Addr × HO)) : Prop := ∀ (M : Addr → Prop) (Λ : List Addr) (S : Store) (H : Hp) (i : Nat), RelS M Λ S H → Fx M Λ H ds vs fs → (∀ xs, w = .fix xs → i ≤ xs.length) →
  (nextW w i S = some none → J.stop i H) ∧ ∀ d, nextW w i S = some (some d) → J.go i H ∧ ∀ x H', J.yld i H x H' → Same H H' ∧ RV M Λ H' d x
def tI (f : Env → Store → Option (W × Store)) : TI := fun σ H R => ∃ M ρ S Λ w S', RelS M Λ S H ∧ RelE M Λ H ρ σ ∧ f ρ S = some (w, S') ∧
  ∀ J H' Λ' ds vs fs, Step Λ H Λ' H' → RelS M Λ' S' H' → Fx M Λ' H' ds vs fs → JOk J w ds vs fs → R J H'
theorem none_get {α : Type} {xs : List α} {i : Nat} (h : xs[i]? = none) : xs.length ≤ i := List.getElem?_eq_none_iff.mp h
theorem JOk.fix {J : L2.It} {xs : List D} {ds : List D} {vs : List V} {fs : List (Addr × HO)} (h : ∀ (M : Addr → Prop) (Λ : List Addr) (S : Store) (H : Hp), RelS M Λ S H → Fx M Λ H ds vs fs →
    J.stop xs.length H ∧ ∀ (i : Nat) (d : D), xs[i]? = some d → J.go i H ∧ ∀ x H', J.yld i H x H' → Same H H' ∧ RV M Λ H' d x) : JOk J (.fix xs) ds vs fs := fun M Λ S H i R F0 hi => by
  obtain ⟨h1, h2⟩ := h M Λ S H R F0
  refine ⟨fun e => ?_, fun d e => h2 i d (by simpa [nextW] using e)⟩
  have e' : xs[i]? = none := by simpa [nextW] using e
  have hle : xs.length ≤ i := none_get e'
  have : i = xs.length := Nat.le_antisymm (hi xs rfl) hle
  rw [this]
  exact h1
theorem sign_rv {c : Nat} {cs : List Nat} (h : okS cs) (hc : c ∈ cs) : RV M Λ H (.str [c]) (.str ⟨#[c]⟩) := .str (c := [c]) fun x hx => by rw [List.mem_singleton.mp hx]; exact h c hc
theorem KK.at : ∀ {ks : List DK} {js : List Key} {n : Nat} {k : DK}, KK ks js → ks[n]? = some k → ∃ j, js[n]? = some j ∧ ∀ M Λ H, RV M Λ H (dkD k) (kV j)
  | _, _, n, _, h, e => by
    induction h generalizing n with
    | nil => simp at e
    | i h ih =>
      cases n with
      | zero => cases e; exact ⟨_, rfl, fun _ _ _ => .int _⟩
      | succ n => exact ih _ e
    | s o h ih =>
      cases n with
      | zero => cases e; exact ⟨_, rfl, fun _ _ _ => .str o⟩
      | succ n => exact ih _ e
theorem KT.at : ∀ {ks : List DK} {js : List (List Key)} {n : Nat} {k : DK}, KT ks js → ks[n]? = some k → ∃ l, k = .t l ∧ (∀ x ∈ l, okK x) ∧ js[n]? = some (l.map keyS)
  | _, _, n, _, h, e => by
    induction h generalizing n with
    | nil => simp at e
    | t o h ih =>
      cases n with
      | zero => cases e; exact ⟨_, rfl, o, rfl⟩
      | succ n => exact ih _ e
theorem jok_str {c : List Nat} (h : okS c) : JOk (Its (sOf c)) (.fix (c.map fun c => .str [c])) [] [] [] := JOk.fix fun M Λ S H R F0 => by
  refine ⟨?_, fun i d e => ?_⟩
  · show (sOf c).cps.size ≤ _
    simp
  · rw [List.getElem?_map, Option.map_eq_some_iff] at e
    obtain ⟨z, e, rfl⟩ := e
    refine ⟨?_, fun x H' y => ?_⟩
    · show i < (sOf c).cps.size
      simpa using (List.getElem?_eq_some_iff.mp e).1
    · obtain ⟨rfl, w, e2, rfl⟩ := y
      have : (sOf c).cps[i]? = c[i]? := by simp
      rw [this, e] at e2
      cases e2
      exact ⟨Same.refl _, sign_rv h (List.mem_of_getElem? e)⟩
theorem at_rv {xs : List D} {vs : List V} (r : RVs M Λ H xs vs) {i : Nat} {d : D} (e : xs[i]? = some d) : ∃ v, vs[i]? = some v ∧ RV M Λ H d v := r.get e
theorem jok_lv {xs : List D} {a : Addr} : JOk (Itl K a) (.fix xs) [.lv xs] [.ref a] [] := JOk.fix fun M Λ S H R F0 => by
  obtain ⟨v, ev, r⟩ := rvs1 F0.rv
  cases ev
  cases r with
  | lst e _ _ r =>
    refine ⟨⟨_, .of e, Nat.le_of_eq r.length.symm⟩, fun i d ed => ?_⟩
    obtain ⟨w, ew, rw'⟩ := r.get ed
    refine ⟨⟨_, w, .of e, ew⟩, fun x H' y => ?_⟩
    obtain ⟨rfl, y⟩ := y
    have := y _ (.of e)
    rw [ew] at this
    cases this
    exact ⟨Same.refl _, rw'⟩
theorem jok_tup {xs : List D} {a : Addr} : JOk (Itt K a) (.fix xs) [.tup xs] [.ref a] [] := JOk.fix fun M Λ S H R F0 => by
  obtain ⟨v, ev, r⟩ := rvs1 F0.rv
  cases ev
  cases r with
  | tup e r =>
    refine ⟨⟨_, .of e, Nat.le_of_eq r.length.symm⟩, fun i d ed => ?_⟩
    obtain ⟨w, ew, rw'⟩ := r.get ed
    refine ⟨⟨_, w, .of e, ew⟩, fun x H' y => ?_⟩
    obtain ⟨rfl, y⟩ := y
    have := y _ (.of e)
    rw [ew] at this
    cases this
    exact ⟨Same.refl _, rw'⟩
theorem jok_scr {ns : List Int} {a : Addr} : JOk (Itl K a) (.fix (ns.map .int)) [.scr ns] [.ref a] [] := JOk.fix fun M Λ S H R F0 => by
  obtain ⟨v, ev, r⟩ := rvs1 F0.rv
  cases ev
  obtain ⟨b, eb, hq⟩ := scr_of (K := K) r
  cases eb
  have rr := ints_rv (M := M) (Λ := Λ) (H := H) ns
  refine ⟨⟨_, hq, Nat.le_of_eq rr.length.symm⟩, fun i d ed => ?_⟩
  obtain ⟨w, ew, rw'⟩ := rr.get ed
  refine ⟨⟨_, w, hq, ew⟩, fun x H' y => ?_⟩
  obtain ⟨rfl, y⟩ := y
  have := y _ hq
  rw [ew] at this
  cases this
  exact ⟨Same.refl _, rw'⟩
theorem jok_ref {l : Nat} {a : Addr} : JOk (Itl K a) (.dyn l) [.ref l] [.ref a] [] := fun M Λ S H i R F0 _ => by
  obtain ⟨v, ev, r⟩ := rvs1 F0.rv
  cases ev
  refine ⟨fun e => ?_, fun d e => ?_⟩
  all_goals
    simp only [nextW, nxD] at e
    split at e <;> first | (cases e; done) | skip
    rename_i xs ex
    simp only [Option.some.injEq] at e
    obtain ⟨b, ws, eb, ea, eh, rw'⟩ := ref_lst R r ex
    cases eb
  · refine ⟨_, .of eh, ?_⟩
    rw [← rw'.length]
    exact none_get e
  · obtain ⟨w, ew, r2⟩ := rw'.get e
    refine ⟨⟨_, w, .of eh, ew⟩, fun x H' y => ?_⟩
    obtain ⟨rfl, y⟩ := y
    have := y _ (.of eh)
    rw [ew] at this
    cases this
    exact ⟨Same.refl _, r2⟩
theorem jok_dK {ks : List DK} {kvs : List (Key × V)} {a : Addr} {o : Obj} (h : KK ks (kvs.map (·.1))) : JOk (Itk a o kvs) (.fix (ks.map dkD)) [] [] [(a, .frz o (.dK kvs))] := JOk.fix fun M Λ S H R F0 => by
  have e := F0.fz _ List.mem_cons_self
  have hl := h.len
  rw [List.length_map] at hl
  refine ⟨⟨e, by rw [List.length_map, hl]; exact Nat.le_refl _⟩, fun i d ed => ?_⟩
  rw [List.getElem?_map, Option.map_eq_some_iff] at ed
  obtain ⟨k, ek, rfl⟩ := ed
  obtain ⟨j, ej, rj⟩ := h.at ek
  refine ⟨⟨e, by rw [← hl]; exact (List.getElem?_eq_some_iff.mp ek).1⟩, fun x H' y => ?_⟩
  obtain ⟨rfl, k', v', e2, rfl⟩ := y
  rw [List.getElem?_map, e2] at ej
  cases ej
  exact ⟨Same.refl _, rj _ _ _⟩
theorem jok_dT {ks : List DK} {kvs : List (List Key × V)} {a : Addr} {o : Obj} (h : KT ks (kvs.map (·.1))) : JOk (Itkt a o kvs) (.fix (ks.map dkD)) [] [] [(a, .frz o (.dT kvs))] := JOk.fix fun M Λ S H R F0 => by
  have e := F0.fz _ List.mem_cons_self
  have hl := h.len
  rw [List.length_map] at hl
  refine ⟨⟨e, by rw [List.length_map, hl]; exact Nat.le_refl _⟩, fun i d ed => ?_⟩
  rw [List.getElem?_map, Option.map_eq_some_iff] at ed
  obtain ⟨k, ek, rfl⟩ := ed
  obtain ⟨l, rfl, ol, ej⟩ := h.at ek
  refine ⟨⟨e, by rw [← hl]; exact (List.getElem?_eq_some_iff.mp ek).1⟩, fun x H' y => ?_⟩
  obtain ⟨rfl, k', v', q, e2, rfl, e3⟩ := y
  rw [List.getElem?_map, e2] at ej
  cases ej
  exact ⟨Same.refl _, .tup e3 (items_rv ol)⟩
variable {e : Expr} {es : List Expr} {fe fa fb : Env → Store → Option (D × Store)} {g : Env → Store → Option (List D × Store)} {pos p : Pos} {tg : Expr}
theorem si_of (he : PE X e (tE fe)) : PI X tg e (tI fun ρ S => (fe ρ S).bind fun x => (walkOf x.2 x.1).map fun w => (w, x.2)) := by
  refine PI.imp (PI.or (PI.or (pi_str he) (pi_list he)) (PI.or (pi_tup he) (pi_keys he))) fun σ H Rr ⟨M, ρ, S, Λ, w, S', R, RE, h, q⟩ => ?_
  simp only [Option.bind_eq_some_iff, Option.map_eq_some_iff, Prod.mk.injEq] at h
  obtain ⟨⟨d, S1⟩, h1, w', h2, rfl, rfl⟩ := h
  simp only at h2 q
  cases d with
  | str c =>
    simp only [walkOf, walkS, Option.map_some, Option.some.injEq] at h2
    subst h2
    refine .inl (.inl (tE_of R RE h1 fun v H1 Λ1 s1 R1 r1 => ?_))
    obtain ⟨o, rfl⟩ := okS_of r1
    exact ⟨_, rfl, q _ _ _ [] [] [] s1 R1 (Fx.only (.nil)) (jok_str o)⟩
  | scr ns =>
    simp only [walkOf, walkS, Option.map_some, Option.some.injEq] at h2
    subst h2
    refine .inl (.inr (tE_of R RE h1 fun v H1 Λ1 s1 R1 r1 => ?_))
    obtain ⟨a, rfl, z⟩ := scr_of (K := X.K) r1
    exact ⟨a, rfl, ⟨_, z⟩, q _ _ _ [.scr ns] [.ref a] [] s1 R1 (Fx.only (.cons r1 .nil)) jok_scr⟩
  | lv xs =>
    simp only [walkOf, walkS, Option.map_some, Option.some.injEq] at h2
    subst h2
    refine .inl (.inr (tE_of R RE h1 fun v H1 Λ1 s1 R1 r1 => ?_))
    obtain ⟨a, ws, rfl, z, _⟩ := asL_rv R1 r1 (xs := xs) rfl
    exact ⟨a, rfl, ⟨_, .of z⟩, q _ _ _ [.lv xs] [.ref a] [] s1 R1 (Fx.only (.cons r1 .nil)) jok_lv⟩
  | tup xs =>
    simp only [walkOf, walkS, Option.map_some, Option.some.injEq] at h2
    subst h2
    refine .inr (.inl (tE_of R RE h1 fun v H1 Λ1 s1 R1 r1 => ?_))
    obtain ⟨a, ws, rfl, z, _⟩ := tup_of r1
    exact ⟨a, rfl, ⟨_, .of z⟩, q _ _ _ [.tup xs] [.ref a] [] s1 R1 (Fx.only (.cons r1 .nil)) jok_tup⟩
  | ref l =>
    simp only [walkOf] at h2
    split at h2 <;> first | (cases h2; done) | skip
    · rename_i xs ex
      cases h2
      refine .inl (.inr (tE_of R RE h1 fun v H1 Λ1 s1 R1 r1 => ?_))
      obtain ⟨a, ws, rfl, _, z, _⟩ := ref_lst R1 r1 ex
      exact ⟨a, rfl, ⟨_, .of z⟩, q _ _ _ [.ref l] [.ref a] [] s1 R1 (Fx.only (.cons r1 .nil)) jok_ref⟩
    · rename_i ks ex
      cases h2
      refine .inr (.inr (tE_of R RE h1 fun v H1 Λ1 s1 R1 r1 => ?_))
      obtain ⟨a, rfl, ea⟩ := ref_of r1
      obtain ⟨ho, e2, r⟩ := R1.st _ _ _ ex ea
      cases r with
      | lk r => cases r with
        | dK k r => exact ⟨a, _, rfl, .inl ⟨_, e2, q _ _ _ [] [] [(a, _)] s1 R1 (Fx.fixed e2 fun z => z) (jok_dK k)⟩⟩
        | dT k r => exact ⟨a, _, rfl, .inr ⟨_, e2, q _ _ _ [] [] [(a, _)] s1 R1 (Fx.fixed e2 fun z => z) (jok_dT k)⟩⟩
  | dv t ks vs =>
    simp only [walkOf, Option.some.injEq] at h2
    subst h2
    refine .inr (.inr (tE_of R RE h1 fun v H1 Λ1 s1 R1 r1 => ?_))
    cases r1 with
    | @dct a o _ _ _ ho e1 _ _ r =>
      cases r with
      | dK k r => exact ⟨a, o, rfl, .inl ⟨_, e1, q _ _ _ [] [] [(a, _)] s1 R1 (Fx.fixed e1 fun z => z) (jok_dK k)⟩⟩
      | dT k r => exact ⟨a, o, rfl, .inr ⟨_, e1, q _ _ _ [] [] [(a, _)] s1 R1 (Fx.fixed e1 fun z => z) (jok_dT k)⟩⟩
  | non => simp [walkOf, walkS] at h2
  | bl b => simp [walkOf, walkS] at h2
  | int i => simp [walkOf, walkS] at h2
  | ty n => simp [walkOf, walkS] at h2
  | lk n => simp [walkOf, walkS] at h2
theorem jok_range (lo : Int) (n : Nat) : JOk (Itr lo n) (.fix (intL lo n)) [] [] [] := JOk.fix fun M Λ S H R F0 => by
  refine ⟨?_, fun i d e => ?_⟩
  · show n ≤ _
    rw [intL_len]
    exact Nat.le_refl _
  · unfold intL at e
    rw [List.getElem?_map, Option.map_eq_some_iff] at e
    obtain ⟨z, e, rfl⟩ := e
    have hl := (List.getElem?_eq_some_iff.mp e).1
    rw [List.length_range] at hl
    rw [List.getElem?_range hl] at e
    cases e
    refine ⟨hl, fun x H' y => ?_⟩
    obtain ⟨rfl, rfl⟩ := y
    exact ⟨Same.refl _, .int _⟩
theorem si_range1 (hg : Gl X "range") (hm : X.mg "range" = none) (ha : PA X [e] (tA g)) (hs : starEach [e] X.env = [(false, eval e X.env)]) (hlen : ∀ ρ S ds S', g ρ S = some (ds, S') → ds.length = 1) :
    PI X tg (.Call (.Name "range" p) [e] [] pos) (tI fun ρ S => (g ρ S).bind fun x => (rangeS x.1).map fun xs => (.fix xs, x.2)) := by
  refine PI.imp (pi_range1 hg hm ha hs) fun σ H Rr ⟨M, ρ, S, Λ, w, S', R, RE, h, q⟩ => ?_
  simp only [Option.bind_eq_some_iff, Option.map_eq_some_iff, Prod.mk.injEq] at h
  obtain ⟨⟨x, S1⟩, h1, xs, h2, rfl, rfl⟩ := h
  have hl := hlen _ _ _ _ h1
  simp only at h2 q
  refine ⟨M, ρ, S, Λ, x, S1, R, RE, h1, fun vs H1 Λ1 s1 R1 r1 => ?_⟩
  unfold rangeS at h2
  split at h2 <;> first | contradiction | skip
  · split at h2 <;> first | contradiction | skip
    rename_i j hj
    cases h2
    obtain ⟨u, rfl, ru⟩ := rvs1 r1
    obtain rfl := int_of ru
    exact ⟨j, rfl, by omega, by omega, q _ _ _ [] [] [] s1 R1 (Fx.only (.nil)) (jok_range _ _)⟩
  · simp at hl
theorem si_range2 {e2 : Expr} (hg : Gl X "range") (hm : X.mg "range" = none) (ha : PA X [e, e2] (tA g)) (hs : starEach [e, e2] X.env = [(false, eval e X.env), (false, eval e2 X.env)]) (hs2 : starEach [e2] X.env = [(false, eval e2 X.env)])
    (hlen : ∀ ρ S ds S', g ρ S = some (ds, S') → ds.length = 2) :
    PI X tg (.Call (.Name "range" p) [e, e2] [] pos) (tI fun ρ S => (g ρ S).bind fun x => (rangeS x.1).map fun xs => (.fix xs, x.2)) := by
  refine PI.imp (pi_range2 hg hm ha hs hs2) fun σ H Rr ⟨M, ρ, S, Λ, w, S', R, RE, h, q⟩ => ?_
  simp only [Option.bind_eq_some_iff, Option.map_eq_some_iff, Prod.mk.injEq] at h
  obtain ⟨⟨x, S1⟩, h1, xs, h2, rfl, rfl⟩ := h
  have hl := hlen _ _ _ _ h1
  simp only at h2 q
  refine ⟨M, ρ, S, Λ, x, S1, R, RE, h1, fun vs H1 Λ1 s1 R1 r1 => ?_⟩
  unfold rangeS at h2
  split at h2 <;> first | contradiction | skip
  · simp at hl
  · split at h2 <;> first | contradiction | skip
    rename_i i j hj
    cases h2
    obtain ⟨u, w, rfl, ru, rw'⟩ := rvs2 r1
    obtain rfl := int_of ru
    obtain rfl := int_of rw'
    exact ⟨i, j, rfl, ⟨by omega, by omega, by omega, by omega⟩, q _ _ _ [] [] [] s1 R1 (Fx.only (.nil)) (jok_range _ _)⟩
/-! ### enumerate, zip -/
/-- what is walked there, as it stays -/
structure SrcOk (K : PySem.W.Frag) (c : Src) (xs : List D) (ds : List D) (vs : List V) : Prop where
  has : ∀ (M : Addr → Prop) (Λ : List Addr) (S : Store) (H : Hp), RelS M Λ S H → RVs M Λ H ds vs → ∃ ws, c.has K H ws ∧ RVs M Λ H xs ws
theorem srcv_of (R : RelS M Λ S H) (r : RV M Λ H d v) {xs : List D} (h : walkS d = some xs) {Rr : (Tok → Src) → Prop} (k : ∀ c, (∀ t, SrcOk K (c t) xs [d] [v]) → Rr c) : SrcV K v H Rr := by
  unfold walkS at h
  split at h <;> first | contradiction | skip
  · rename_i z
    cases h
    obtain ⟨o, rfl⟩ := okS_of r
    exact k _ fun t => ⟨fun M Λ S H R rs => ⟨_, rfl, signs_rv o⟩⟩
  · rename_i ns
    cases h
    obtain ⟨a, rfl, z⟩ := scr_of (K := K) r
    exact .inl ⟨⟨_, z⟩, k _ fun t => ⟨fun M Λ S H R rs => by
      obtain ⟨u, eu, ru⟩ := rvs1 rs
      cases eu
      obtain ⟨b, eb, z⟩ := scr_of (K := K) ru
      cases eb
      exact ⟨_, z, ints_rv ns⟩⟩⟩
  · rename_i ys
    cases h
    obtain ⟨a, ws, rfl, z, _⟩ := tup_of r
    exact .inr ⟨⟨_, .of z⟩, k _ fun t => ⟨fun M Λ S H R rs => by
      obtain ⟨u, eu, ru⟩ := rvs1 rs
      cases eu
      obtain ⟨b, ws, eb, z, rr⟩ := tup_of ru
      cases eb
      exact ⟨_, .of z, rr⟩⟩⟩
  · rename_i ys
    cases h
    obtain ⟨a, ws, rfl, z, _⟩ := asL_rv R r (xs := _) rfl
    exact .inl ⟨⟨_, .of z⟩, k _ fun t => ⟨fun M Λ S H R rs => by
      obtain ⟨u, eu, ru⟩ := rvs1 rs
      cases eu
      obtain ⟨b, ws, eb, z, rr⟩ := asL_rv R ru (xs := _) rfl
      cases eb
      exact ⟨_, .of z, rr⟩⟩⟩
theorem enumL_get : ∀ (xs : List D) (n i : Nat), (enumL n xs)[i]? = (xs[i]?).map fun x => D.tup [.int ((n + i : Nat) : Int), x]
  | [], n, i => by simp [enumL]
  | x :: xs, n, 0 => by simp [enumL]
  | x :: xs, n, i + 1 => by
    simp only [enumL, List.getElem?_cons_succ]
    rw [enumL_get xs (n + 1) i]
    congr 1
    funext y
    rw [Nat.add_assoc, Nat.add_comm 1 i]
theorem enumL_len : ∀ (xs : List D) (n : Nat), (enumL n xs).length = xs.length
  | [], _ => rfl
  | x :: xs, n => by simp [enumL, enumL_len xs (n + 1)]
theorem zipL_get : ∀ (xs ys : List D) (i : Nat) (d : D), (zipL xs ys)[i]? = some d → ∃ x y, xs[i]? = some x ∧ ys[i]? = some y ∧ d = .tup [x, y]
  | [], _, i, d, h => by simp [zipL] at h
  | _ :: _, [], i, d, h => by simp [zipL] at h
  | x :: xs, y :: ys, 0, d, h => by
    simp only [zipL, List.getElem?_cons_zero, Option.some.injEq] at h
    exact ⟨x, y, rfl, rfl, h.symm⟩
  | x :: xs, y :: ys, i + 1, d, h => zipL_get xs ys i d (by simpa [zipL] using h)
theorem zipL_len : ∀ (xs ys : List D), (zipL xs ys).length = min xs.length ys.length
  | [], _ => by simp [zipL]
  | _ :: _, [] => by simp [zipL]
  | x :: xs, y :: ys => by
    simp only [zipL, List.length_cons, zipL_len xs ys]
    omega
theorem jok_enum {c : Src} {xs ds : List D} {vs : List V} (h : SrcOk K c xs ds vs) : JOk (ItE K c) (.fix (enumL 0 xs)) ds vs [] := JOk.fix fun M Λ S H R F0 => by
  obtain ⟨ws, hw, rw'⟩ := h.has M Λ S H R F0.rv
  refine ⟨⟨ws, hw, by rw [enumL_len, rw'.length]⟩, fun i d e => ?_⟩
  rw [enumL_get, Option.map_eq_some_iff] at e
  obtain ⟨x, ex, rfl⟩ := e
  obtain ⟨u, eu, ru⟩ := rw'.get ex
  refine ⟨⟨ws, u, hw, eu⟩, fun v H' y => ?_⟩
  obtain ⟨T0, x', rfl, hn, rfl, y⟩ := y
  have := y ws hw
  rw [eu] at this
  cases this
  have sm := same_upd (o := .tup [.int (i : Nat), u]) hn
  refine ⟨sm, .tup upd_same (.cons ?_ (.cons (ru.step R (Step.same sm)) .nil))⟩
  rw [Nat.zero_add]
  exact .int _
theorem jok_zip {c1 c2 : Src} {xs ys d1 d2 : List D} {v1 v2 : List V} (h1 : SrcOk K c1 xs d1 v1) (h2 : SrcOk K c2 ys d2 v2) (hl : d1.length = v1.length) : JOk (ItZ K c1 c2) (.fix (zipL xs ys)) (d1 ++ d2) (v1 ++ v2) [] := JOk.fix fun M Λ S H R F0 => by
  have r1 : RVs M Λ H d1 v1 := by
    have := F0.rv.take d1.length
    rw [List.take_left, hl, List.take_left] at this
    exact this
  have r2 : RVs M Λ H d2 v2 := by
    have := F0.rv.drop d1.length
    rw [List.drop_left, hl, List.drop_left] at this
    exact this
  obtain ⟨ws, hw, rw'⟩ := h1.has M Λ S H R r1
  obtain ⟨us, hu, ru'⟩ := h2.has M Λ S H R r2
  refine ⟨⟨ws, us, hw, hu, by rw [zipL_len, rw'.length, ru'.length]⟩, fun i d e => ?_⟩
  obtain ⟨x, y, ex, ey, rfl⟩ := zipL_get _ _ _ _ e
  obtain ⟨p, ep, rp⟩ := rw'.get ex
  obtain ⟨q, eq, rq⟩ := ru'.get ey
  refine ⟨⟨ws, us, p, q, hw, hu, ep, eq⟩, fun v H' y => ?_⟩
  obtain ⟨T0, x', y', rfl, hn, rfl, y⟩ := y
  obtain ⟨z1, z2⟩ := y ws us hw hu
  rw [ep] at z1
  rw [eq] at z2
  cases z1
  cases z2
  have sm := same_upd (o := .tup [p, q]) hn
  exact ⟨sm, .tup upd_same (.cons (rp.step R (Step.same sm)) (.cons (rq.step R (Step.same sm)) .nil))⟩
variable {tpos : Pos} {elts : List Expr} {kk : Nat}
theorem si_enum (hg : Gl X "enumerate") (hm : X.mg "enumerate" = none) (ha : PA X [e] (tA g)) (hs : starEach [e] X.env = [(false, eval e X.env)]) {f : Env → Store → Option (W × Store)}
    (hf : ∀ ρ S w S', f ρ S = some (w, S') → ∃ x xs, g ρ S = some ([x], S') ∧ walkS x = some xs ∧ w = .fix (enumL 0 xs)) :
    PI X (.Tuple elts kk tpos) (.Call (.Name "enumerate" p) [e] [] pos) (tI f) := by
  refine PI.imp (pi_enumS hg hm ha hs) fun σ H Rr ⟨M, ρ, S, Λ, w, S', R, RE, h, q⟩ => ?_
  obtain ⟨x, xs, h1, h2, rfl⟩ := hf _ _ _ _ h
  refine ⟨M, ρ, S, Λ, _, S', R, RE, h1, fun vs H1 Λ1 s1 R1 r1 => ?_⟩
  obtain ⟨u, rfl, ru⟩ := rvs1 r1
  exact ⟨u, rfl, srcv_of R1 ru h2 fun c hc t => q _ _ _ [x] [u] [] s1 R1 (Fx.only r1) (jok_enum (hc t))⟩
theorem si_zip {e2 : Expr} (hg : Gl X "zip") (hm : X.mg "zip" = none) (ha : PA X [e, e2] (tA g)) (hs : starEach [e, e2] X.env = (false, eval e X.env) :: starEach [e2] X.env) (hpl : (backTo pos (starEach [e2] X.env)).any (·.1) = false) {f : Env → Store → Option (W × Store)}
    (hf : ∀ ρ S w S', f ρ S = some (w, S') → ∃ x xs y ys, g ρ S = some ([x, y], S') ∧ walkS x = some xs ∧ walkS y = some ys ∧ w = .fix (zipL xs ys)) :
    PI X (.Tuple elts kk tpos) (.Call (.Name "zip" p) [e, e2] [] pos) (tI f) := by
  refine PI.imp (pi_zipS hg hm ha hs hpl) fun σ H Rr ⟨M, ρ, S, Λ, w, S', R, RE, h, q⟩ => ?_
  obtain ⟨x, xs, y, ys, h1, h2, h3, rfl⟩ := hf _ _ _ _ h
  refine ⟨M, ρ, S, Λ, _, S', R, RE, h1, fun vs H1 Λ1 s1 R1 r1 => ?_⟩
  obtain ⟨u, w, rfl, ru, rw'⟩ := rvs2 r1
  exact ⟨u, w, rfl, srcv_of R1 ru h2 fun c1 hc1 t1 => srcv_of R1 rw' h3 fun c2 hc2 t2 => q _ _ _ [x, y] [u, w] [] s1 R1 (Fx.only r1) (jok_zip (d1 := [x]) (v1 := [u]) (hc1 t1) (hc2 t2) rfl)⟩
end
end Pd

/-! Pd13: targets, list comprehensions. -/
namespace Pd
open PySem PySem.Spec PyProof.Rows L2

section
variable {K : PySem.W.Frag} {M : Addr → Prop} {Λ Λ' Λ1 : List Addr} {H H' H1 : Hp} {S S' : Store} {d : D} {v : V} {Q : VK} {X : Cx} {ρ ρ' : Env} {σ σ' : L2.St}
/-! ### slots -/
theorem RelE.set (R : RelE M Λ H ρ σ) (r : RV M Λ H d v) (i : Nat) : RelE M Λ H (ρ.set i (some d)) (σ.set i (some v)) := by
  refine ⟨by simp [R.1], fun j e h => ?_⟩
  by_cases z : i = j
  · subst z
    rw [List.getElem?_set] at h
    simp only [if_true] at h
    split at h
    · rename_i hl
      cases h
      exact ⟨v, by rw [List.getElem?_set]; simp [← R.1, hl], r⟩
    · cases h
  · rw [List.getElem?_set_ne z] at h ⊢
    exact R.2 j e h
theorem RelE.wipe (R : RelE M Λ H ρ σ) : ∀ vs : List Nat, RelE M Λ H (wipeE ρ vs) (wipe σ vs)
  | [] => R
  | v :: vs => by
    have ih := RelE.wipe R vs
    refine ⟨by simp [wipeE, L2.wipe, ih.1], fun j e h => ?_⟩
    unfold wipeE at h
    unfold L2.wipe
    by_cases z : v = j
    · subst z
      rw [List.getElem?_set] at h
      simp only [if_true] at h
      split at h <;> cases h
    · rw [List.getElem?_set_ne z] at h ⊢
      exact ih.2 j e h
theorem wipe_set_out {i : Nat} {w : Option V} : ∀ {vs : List Nat}, wipe (σ.set i w) vs = if i ∈ vs then wipe σ vs else (wipe σ vs).set i w
  | [] => by simp [L2.wipe]
  | v :: vs => by
    unfold L2.wipe
    rw [wipe_set_out (vs := vs)]
    by_cases h : i ∈ vs
    · simp [h]
    · by_cases z : i = v
      · subst z
        simp [h]
      · rw [if_neg h, if_neg (by simp [z, h]), List.set_comm _ _ z]
theorem wipe_in {i : Nat} {w : Option V} {vs : List Nat} (h : i ∈ vs) : wipe (σ.set i w) vs = wipe σ vs := by rw [wipe_set_out, if_pos h]
theorem wipe_twice_sub : ∀ {us vs : List Nat}, (∀ u ∈ us, u ∈ vs) → wipe (wipe σ us) vs = wipe σ vs
  | [], _, _ => rfl
  | u :: us, vs, h => by
    show wipe ((wipe σ us).set u none) vs = _
    rw [wipe_in (h u List.mem_cons_self), wipe_twice_sub fun x hx => h x (List.mem_cons_of_mem _ hx)]
theorem wipe_twice (vs : List Nat) : wipe (wipe σ vs) vs = wipe σ vs := wipe_twice_sub fun _ h => h
/-! ### targets -/
def tgSlots : Tg → List Nat
  | .nm i => [i]
  | .tp is => is
def tG (g : Tg) : TG := fun x σ H N => ∃ M Λ S ρ d ρ', RelS M Λ S H ∧ RelE M Λ H ρ σ ∧ RV M Λ H d x ∧ bindTg g d ρ = some ρ' ∧
  ∀ σ', RelE M Λ H ρ' σ' → (∀ vs, (∀ i ∈ tgSlots g, i ∈ vs) → wipe σ' vs = wipe σ vs) → N σ' H
def tGs (is : List Nat) : TGs := fun xs σ H N => ∃ M Λ S ρ ds ρ', RelS M Λ S H ∧ RelE M Λ H ρ σ ∧ RVs M Λ H ds xs ∧ setAll ρ is ds = some ρ' ∧
  ∀ σ', RelE M Λ H ρ' σ' → (∀ vs, (∀ i ∈ is, i ∈ vs) → wipe σ' vs = wipe σ vs) → N σ' H
theorem PG.imp {X : Cx} {e : Expr} {t t' : TG} (h : PG X e t) (i : ∀ v σ H Q, t' v σ H Q → t v σ H Q) : PG X e t' := ⟨fun pins s σ H v u Q I r q => h.run pins s σ H v u Q I r (i v σ H Q q)⟩
theorem PGs.imp {X : Cx} {e : List Expr} {t t' : TGs} (h : PGs X e t) (i : ∀ v σ H Q, t' v σ H Q → t v σ H Q) : PGs X e t' := ⟨fun pins s σ H v u Q I r q => h.run pins s σ H v u Q I r (i v σ H Q q)⟩
theorem sg_name {i : Nat} {x : Str} {pos : Pos} (hN : X.N.Nodup) (hi : X.N[i]? = some x) (hx : Loc X.env.scope x) (hf : X.fn x = true ∨ X.env.scope.names.lookup x = some .local) : PG X (.Name x pos) (tG (.nm i)) :=
  PG.imp (pg_name hN hi hx hf) fun v σ H N ⟨M, Λ, S, ρ, d, ρ', R, RE, r, h, q⟩ => by
    cases h
    exact q _ (RE.set r i) fun vs hv => wipe_in (hv i List.mem_cons_self)
theorem sgs_nil : PGs X [] (tGs []) := PGs.imp pgs_nil fun vs σ H N ⟨M, Λ, S, ρ, ds, ρ', R, RE, r, h, q⟩ => by
  cases ds with
  | nil => cases r; cases h; exact ⟨rfl, q _ RE fun _ _ => rfl⟩
  | cons _ _ => cases h
theorem sgs_cons {i : Nat} {is : List Nat} {x : Str} {pos : Pos} {es : List Expr} (hN : X.N.Nodup) (hi : X.N[i]? = some x) (hx : Loc X.env.scope x) (hf : X.fn x = true ∨ X.env.scope.names.lookup x = some .local) (h : PGs X es (tGs is))
    (hs : (assignEach (.Name x pos :: es) X.env).map (·.2) = assign (.Name x pos) X.env :: (assignEach es X.env).map (·.2)) : PGs X (.Name x pos :: es) (tGs (i :: is)) :=
  PGs.imp (pgs_cons (pg_name hN hi hx hf) h hs) fun vs σ H N ⟨M, Λ, S, ρ, ds, ρ', R, RE, r, h, q⟩ => by
    cases ds with
    | nil => cases h
    | cons d ds =>
      cases r with
      | @cons _ v _ vr r1 r2 =>
        refine ⟨v, vr, rfl, M, Λ, S, _, ds, ρ', R, RE.set r1 i, r2, h, fun σ' RE' hw => q _ RE' fun us hu => ?_⟩
        rw [hw us fun j hj => hu j (List.mem_cons_of_mem _ hj), wipe_in (hu i List.mem_cons_self)]
theorem setAll_len : ∀ {is : List Nat} {ds : List D} {ρ ρ' : Env}, setAll ρ is ds = some ρ' → ds.length = is.length
  | [], [], _, _, _ => rfl
  | [], _ :: _, _, _, h => by cases h
  | _ :: _, [], _, _, h => by cases h
  | i :: is, d :: ds, _, _, h => by rw [List.length_cons, List.length_cons, setAll_len (is := is) (ds := ds) h]
theorem sg_tup {es : List Expr} {is : List Nat} {k : Nat} {pos : Pos} (hc : X.calm = true) (h : PGs X es (tGs is)) (hn : (assignEach es X.env).length = is.length) (hst : (assignEach es X.env).findIdx? (·.1) = none) : PG X (.Tuple es k pos) (tG (.tp is)) :=
  PG.imp (pg_tup hc h hn hst) fun v σ H N ⟨M, Λ, S, ρ, d, ρ', R, RE, r, h, q⟩ => by
    cases d with
    | tup ds =>
      obtain ⟨a, vs, rfl, ea, rs⟩ := tup_of r
      exact ⟨a, vs, rfl, .of ea, by rw [← rs.length]; exact setAll_len h, M, Λ, S, ρ, ds, ρ', R, RE, rs, h, q⟩
    | _ => cases h

/-! ### tests -/
def tTs (f : Env → Store → Option (Bool × Store)) : TT := fun σ H Q => ∃ M ρ S Λ b S', RelS M Λ S H ∧ RelE M Λ H ρ σ ∧ f ρ S = some (b, S') ∧ ∀ H' Λ', Step Λ H Λ' H' → RelS M Λ' S' H' → Q b H'
theorem PTs.imp {X : Cx} {e : List Expr} {t t' : TT} (h : PTs X e t) (i : ∀ σ H Q, t' σ H Q → t σ H Q) : PTs X e t' := ⟨fun pins s σ H Q I q => h.run pins s σ H Q I (i σ H Q q)⟩
theorem sts_nil {f : Env → Store → Option (Bool × Store)} (hf : ∀ ρ S b S', f ρ S = some (b, S') → b = true ∧ S' = S) : PTs X [] (tTs f) := PTs.imp pts_nil fun σ H Q ⟨M, ρ, S, Λ, b, S', R, RE, h, q⟩ => by
  obtain ⟨rfl, rfl⟩ := hf _ _ _ _ h
  exact q H Λ Step.refl R
theorem sts_one {c : Expr} {fc : Env → Store → Option (D × Store)} {f : Env → Store → Option (Bool × Store)} (h : PT X c (tT fc)) (hf : ∀ ρ S b S', f ρ S = some (b, S') → fc ρ S = some (.bl b, S')) : PTs X [c] (tTs f) :=
  PTs.imp (pts_one h) fun σ H Q ⟨M, ρ, S, Λ, b, S', R, RE, h, q⟩ => ⟨M, ρ, S, Λ, b, S', R, RE, hf _ _ _ _ h, q⟩

/-! ### a walk by turns -/
theorem runG_fix {α : Type} {f : D → Store → Option (Option α × Store)} {xs : List D} : ∀ (n : Nat) (i : Nat) (S : Store) (r : List α × Store), (xs.drop i).length = n → runFix f (xs.drop i) S = some r → runG (nextW (.fix xs)) f (n + 1) i S = some r
  | 0, i, S, r, hn, h => by
    have e : xs.drop i = [] := List.eq_nil_of_length_eq_zero hn
    rw [e] at h
    cases h
    have e' : xs[i]? = none := by
      have h1 : (xs.drop i)[0]? = xs[i]? := by rw [List.getElem?_drop]; rfl
      rw [← h1, e]
      rfl
    unfold runG
    simp only [nextW, e']
  | n + 1, i, S, r, hn, h => by
    cases e : xs.drop i with
    | nil => rw [e] at hn; cases hn
    | cons d ds =>
      have e' : xs[i]? = some d := by
        have h1 : (xs.drop i)[0]? = xs[i]? := by rw [List.getElem?_drop]; rfl
        rw [← h1, e]
        rfl
      have e2 : xs.drop (i + 1) = ds := by
        rw [← List.drop_drop, e]
        rfl
      rw [e] at h hn
      simp only [runFix, Option.bind_eq_some_iff, Option.map_eq_some_iff] at h
      obtain ⟨q, h1, w, h2, h3⟩ := h
      unfold runG
      simp only [nextW, e', h1, Option.bind_some]
      rw [runG_fix n (i + 1) q.2 w (by rw [e2]; simpa using hn) (by rw [e2]; exact h2)]
      simp only [Option.map_some, h3]
theorem runW_runG {α : Type} {fu : Nat} {f : D → Store → Option (Option α × Store)} {w : W} {S : Store} {r : List α × Store} (h : runW fu f w S = some r) : ∃ n, runG (nextW w) f n 0 S = some r := by
  cases w with
  | fix xs => exact ⟨_, runG_fix (xs := xs) xs.length 0 S r rfl h⟩
  | dyn l => exact ⟨fu, h⟩

/-! ### list comprehensions -/
variable {tg iter elt : Expr} {ifs : List Expr} {scope : Scope} {own : List (Str × Nat)} {pos : Pos} {fi : Env → Store → Option (W × Store)} {ft : Env → Store → Option (Bool × Store)} {fe : Env → Store → Option (D × Store)} {g : Tg}
def turnF (g : Tg) (vs : List Nat) (ft : Env → Store → Option (Bool × Store)) (fe : Env → Store → Option (D × Store)) (ρ : Env) : D → Store → Option (Option D × Store) := fun d S1 =>
  (bindTg g d (wipeE ρ vs)).bind fun ρ1 => (ft ρ1 S1).bind fun t => if t.1 then (fe ρ1 t.2).map fun y => (some y.1, y.2) else some (none, t.2)
theorem lc_read (fu : Nat) (k : Bool) {vs0 : List Nat} (hsl : ∀ i ∈ tgSlots g, i ∈ vs0) {σ : L2.St} {H : Hp} {Q : VK}
    (h : tE (fun ρ S => (fi ρ S).bind fun w => (runW fu (turnF g vs0 ft fe ρ) w.1 w.2).bind fun r => if r.1.length ≤ line then some (fin k (.new (.lv r.1)) r.2) else none) σ H Q) :
    tLc (tI fi) (tG g) (tTs ft) (tE fe) vs0 σ H Q := by
  obtain ⟨M, ρ, S, Λ, d, S', R, RE, h, q⟩ := h
  simp only [Option.bind_eq_some_iff] at h
  obtain ⟨⟨w, S1⟩, h1, ⟨total, S2⟩, h2, h3⟩ := h
  split at h3 <;> first | contradiction | skip
  rename_i hl
  simp only [Option.some.injEq] at h3 hl
  obtain ⟨n0, h2⟩ := runW_runG h2
  refine ⟨M, ρ, S, Λ, w, S1, R, RE, h1, fun J H1 Λ1 ds vs fs s1 R1 F1 jok D0 hD => ?_⟩
  have hM : ¬ M D0 := (R1.fresh hD).2
  have o0 := off_new R1 hD (.lst [])
  refine ⟨fun i m H => ∃ Λ2 S3 acc ys r, RelS (more M D0) Λ2 S3 H ∧ RelE (more M D0) Λ2 H ρ σ ∧ Fx (more M D0) Λ2 H ds vs fs ∧ H D0 = some (.lst acc) ∧ RVs (more M D0) Λ2 H ys acc ∧ Step Λ1 H1 Λ2 H ∧ (∀ xs, w = .fix xs → i ≤ xs.length) ∧
    runG (nextW w) (turnF g vs0 ft fe ρ) m i S3 = some (r, S2) ∧ ys ++ r = total, ⟨n0, Λ1, S1, [], [], total, R1.begin hD _, (RE.step R s1).begin R1 hD, F1.begin R1 hD, upd_same, .nil, (Step.refl).updM hD, fun _ _ => Nat.zero_le _, h2, rfl⟩, ?_⟩
  rintro i m H2 ⟨Λ2, S3, acc, ys, r, R2, RE2, F2, eD, ry, s2, hi2, hr, ht2⟩
  have jk := jok _ _ _ _ i R2 F2 hi2
  cases m with
  | zero => cases hr
  | succ n =>
    unfold runG at hr
    split at hr
    · cases hr
    · rename_i en
      simp only [Option.some.injEq, Prod.mk.injEq] at hr
      obtain ⟨rfl, rfl⟩ := hr
      refine .inl ⟨jk.1 en, ?_⟩
      rw [List.append_nil] at ht2
      subst ht2
      have st : Step Λ H Λ2 H2 := s1.trans s2
      cases k with
      | false =>
        obtain ⟨z1, z2⟩ := made_lv R2 hM eD ry
        cases h3
        exact q _ _ _ st z1 z2
      | true =>
        have hD0 : H D0 = none := by
          cases e : H D0 with
          | none => rfl
          | some u =>
            obtain ⟨o', e'⟩ := s1.there _ _ e
            rw [hD] at e'; cases e'
        obtain ⟨z1, z2, z3⟩ := made_ref R2 hM st hD0 (c := .lv ys) eD (.lst ry) trivial
        cases h3
        exact q _ _ _ z3 z1 z2
    · rename_i d' en
      obtain ⟨j1, j2⟩ := jk.2 _ en
      simp only [Option.bind_eq_some_iff, Option.map_eq_some_iff] at hr
      obtain ⟨⟨o, S4⟩, hf, ⟨r', S5⟩, hr', e5⟩ := hr
      simp only [Prod.mk.injEq] at e5
      obtain ⟨e5, rfl⟩ := e5
      refine .inr ⟨j1, fun H => ∃ Λ2 S3 acc ys r, RelS (more M D0) Λ2 S3 H ∧ RelE (more M D0) Λ2 H ρ σ ∧ Fx (more M D0) Λ2 H ds vs fs ∧ H D0 = some (.lst acc) ∧ RVs (more M D0) Λ2 H ys acc ∧ Step Λ1 H1 Λ2 H ∧ (∀ xs, w = .fix xs → i + 1 ≤ xs.length) ∧
        runG (nextW w) (turnF g vs0 ft fe ρ) n (i + 1) S3 = some (r, S5) ∧ ys ++ r = total, fun H' hn => ⟨n, Nat.lt_succ_self n, hn⟩, fun x H3 y => ?_⟩
      obtain ⟨sm, rx⟩ := j2 x H3 y
      have hi3 : ∀ xs, w = .fix xs → i + 1 ≤ xs.length := fun xs ew => by
        subst ew
        simp only [nextW, Option.some.injEq] at en
        exact (List.getElem?_eq_some_iff.mp en).1
      have R3 := R2.same sm
      have RE3 := RE2.step R2 (Step.same sm)
      have F3 := F2.step R2 (Step.same sm)
      have s3 := s2.trans (Step.same sm)
      have ry3 := ry.step R2 (Step.same sm)
      have eD3 := sm _ _ eD
      simp only [turnF, Option.bind_eq_some_iff] at hf
      obtain ⟨ρ1, b1, ⟨t, S6⟩, b2, b3⟩ := hf
      refine ⟨more M D0, Λ2, S3, _, d', ρ1, R3, RE3.wipe _, rx, b1, fun σ2 RE4 hw => ⟨?_, more M D0, ρ1, S3, Λ2, t, S6, R3, RE4, b2, fun H4 Λ4 s4 R4 => ?_⟩⟩
      · rw [hw _ hsl, wipe_twice]
      · have hDn : D0 ∉ Λ2 := fun z => R2.nm D0 z (.inr rfl)
        have eD4 := s4.keep _ _ eD3 hDn
        have ry4 := ry3.step R3 s4
        have F4 := F3.step R3 s4
        have RE5 := RE3.step R3 s4
        cases t with
        | true =>
          simp only [if_true, Option.map_eq_some_iff, Prod.mk.injEq] at b3
          obtain ⟨⟨yv, S7⟩, b4, rfl, rfl⟩ := b3
          refine iteT ⟨more M D0, ρ1, S6, Λ4, yv, S7, R4, RE4.step R3 s4, b4, fun v5 H5 Λ5 s5 R5 r5 => ?_⟩
          have hDn4 : D0 ∉ Λ4 := fun z => R4.nm D0 z (.inr rfl)
          have eD5 := s5.keep _ _ eD4 hDn4
          have ry5 := (ry4.step R4 s5)
          simp only at e5
          subst e5
          have ol : Off (more M D0) Λ5 H5 D0 (upd H5 D0 (.lst (acc ++ [v5]))) := ⟨fun z => R5.nm D0 z (.inr rfl), .inr ⟨.inr rfl, _, eD5, trivial⟩, fun a h => upd_ne h⟩
          have hlen : ys.length + 1 ≤ line := by
            have := congrArg List.length ht2
            rw [List.length_append, List.length_cons] at this
            omega
          refine ⟨acc, eD5, by rw [← ry5.length, ← line_eq]; omega, Λ5, S7, acc ++ [v5], ys ++ [yv], r', R5.off ol ⟨_, upd_same⟩, (RE5.step R4 s5).off ol, (F4.step R4 s5).off ol, upd_same, ?_, ?_, hi3, hr', by rw [List.append_assoc]; exact ht2⟩
          · exact (ry5.append (.cons r5 .nil)).off ol
          · exact (s3.trans (s4.trans s5)).updM hD
        | false =>
          simp only [Bool.false_eq_true, if_false, Option.some.injEq, Prod.mk.injEq] at b3
          obtain ⟨rfl, rfl⟩ := b3
          simp only at e5
          subst e5
          exact iteF ⟨Λ4, S6, acc, ys, r', R4, RE5, F4, eD4, ry4, s3.trans s4, hi3, hr', ht2⟩
theorem se_lc (fu : Nat) (k : Bool) (hc : X.calm = true) (hN : X.N.Nodup) (hi : PI X tg iter (tI fi)) (ok : BlkOk X.N X.env.scope scope own)
    (hg : ∀ (s : Shared) (H : Hp) (C : Addr) (cl : List (Str × Addr)) (fp : List Addr), PG (X.blk s H scope (compEnvC scope cl C X.env) fp) tg (tG g)) (ht : ∀ (s : Shared) (H : Hp) (C : Addr) (cl : List (Str × Addr)) (fp : List Addr), PTs (X.blk s H scope (compEnvC scope cl C X.env) fp) ifs (tTs ft))
    (he : ∀ (s : Shared) (H : Hp) (C : Addr) (cl : List (Str × Addr)) (fp : List Addr), PE (X.blk s H scope (compEnvC scope cl C X.env) fp) elt (tE fe)) (hs : ∀ x, foldedSetIterable iter X.env x = pure x) (hsl : ∀ i ∈ tgSlots g, i ∈ own.map (·.2)) :
    PE X (.ListComp elt [⟨tg, iter, ifs, 0⟩] scope pos) (tE fun ρ S => (fi ρ S).bind fun w => (runW fu (turnF g (own.map (·.2)) ft fe ρ) w.1 w.2).bind fun r => if r.1.length ≤ line then some (fin k (.new (.lv r.1)) r.2) else none) := by
  exact PE.imp (pe_lc hc hN hi ok hg ht he hs) fun σ H Q h => lc_read fu k hsl h
/-! ### two generators -/
variable {tg1 iter1 : Expr} {ifs1 : List Expr} {fi1 : Env → Store → Option (W × Store)} {ft1 : Env → Store → Option (Bool × Store)} {g1 : Tg}
def turn2 (fu : Nat) (g : Tg) (vs : List Nat) (ft : Env → Store → Option (Bool × Store)) (fi1 : Env → Store → Option (W × Store)) (g1 : Tg) (vs1 : List Nat) (ft1 : Env → Store → Option (Bool × Store)) (fe : Env → Store → Option (D × Store)) (ρ : Env) : D → Store → Option (Option (List D) × Store) := fun d S1 =>
  (bindTg g d (wipeE ρ vs)).bind fun ρ1 => (ft ρ1 S1).bind fun t => if t.1 then (fi1 ρ1 t.2).bind fun w1 => (runW fu (turnF g1 vs1 ft1 fe ρ1) w1.1 w1.2).map fun r => (some r.1, r.2) else some (none, t.2)
theorem lc2_read (fu : Nat) {vs0 vs1 : List Nat} (hsl : ∀ i ∈ tgSlots g, i ∈ vs0) (hsl1 : ∀ i ∈ tgSlots g1, i ∈ vs1) {σ : L2.St} {H : Hp} {Q : VK}
    (h : tE (fun ρ S => (fi ρ S).bind fun w => (runW fu (turn2 fu g vs0 ft fi1 g1 vs1 ft1 fe ρ) w.1 w.2).bind fun r => if r.1.flatten.length ≤ line then some (.lv r.1.flatten, r.2) else none) σ H Q) :
    tLc2 (tI fi) (tG g) (tTs ft) (tI fi1) (tG g1) (tTs ft1) (tE fe) vs0 vs1 σ H Q := by
  obtain ⟨M, ρ, S, Λ, d, S', R, RE, h, q⟩ := h
  simp only [Option.bind_eq_some_iff] at h
  obtain ⟨⟨w, S1⟩, h1, ⟨total, S2⟩, h2, h3⟩ := h
  split at h3 <;> first | contradiction | skip
  rename_i hl
  simp only [Option.some.injEq, Prod.mk.injEq] at h3 hl
  obtain ⟨rfl, rfl⟩ := h3
  obtain ⟨n0, h2⟩ := runW_runG h2
  refine ⟨M, ρ, S, Λ, w, S1, R, RE, h1, fun J H1 Λ1 ds vs fs s1 R1 F1 jok D0 hD => ?_⟩
  have hM : ¬ M D0 := (R1.fresh hD).2
  refine ⟨fun i m H => ∃ Λ2 S3 acc ys r, RelS (more M D0) Λ2 S3 H ∧ RelE (more M D0) Λ2 H ρ σ ∧ Fx (more M D0) Λ2 H ds vs fs ∧ H D0 = some (.lst acc) ∧ RVs (more M D0) Λ2 H ys acc ∧ Step Λ1 H1 Λ2 H ∧ (∀ xs, w = .fix xs → i ≤ xs.length) ∧
    runG (nextW w) (turn2 fu g vs0 ft fi1 g1 vs1 ft1 fe ρ) m i S3 = some (r, S2) ∧ ys ++ r.flatten = total.flatten, ⟨n0, Λ1, S1, [], [], total, R1.begin hD _, (RE.step R s1).begin R1 hD, F1.begin R1 hD, upd_same, .nil, (Step.refl).updM hD, fun _ _ => Nat.zero_le _, h2, rfl⟩, ?_⟩
  rintro i m H2 ⟨Λ2, S3, acc, ys, r, R2, RE2, F2, eD, ry, s2, hi2, hr, ht2⟩
  have jk := jok _ _ _ _ i R2 F2 hi2
  cases m with
  | zero => cases hr
  | succ n =>
    unfold runG at hr
    split at hr
    · cases hr
    · rename_i en
      simp only [Option.some.injEq, Prod.mk.injEq] at hr
      obtain ⟨rfl, rfl⟩ := hr
      refine .inl ⟨jk.1 en, ?_⟩
      rw [List.flatten_nil, List.append_nil] at ht2
      rw [← ht2] at q
      have st : Step Λ H Λ2 H2 := s1.trans s2
      obtain ⟨z1, z2⟩ := made_lv R2 hM eD ry
      exact q _ _ _ st z1 z2
    · rename_i d' en
      obtain ⟨j1, j2⟩ := jk.2 _ en
      simp only [Option.bind_eq_some_iff, Option.map_eq_some_iff] at hr
      obtain ⟨⟨o, S4⟩, hf, ⟨r', S5⟩, hr', e5⟩ := hr
      simp only [Prod.mk.injEq] at e5
      obtain ⟨e5, rfl⟩ := e5
      refine .inr ⟨j1, fun H => ∃ Λ2 S3 acc ys r, RelS (more M D0) Λ2 S3 H ∧ RelE (more M D0) Λ2 H ρ σ ∧ Fx (more M D0) Λ2 H ds vs fs ∧ H D0 = some (.lst acc) ∧ RVs (more M D0) Λ2 H ys acc ∧ Step Λ1 H1 Λ2 H ∧ (∀ xs, w = .fix xs → i + 1 ≤ xs.length) ∧
        runG (nextW w) (turn2 fu g vs0 ft fi1 g1 vs1 ft1 fe ρ) n (i + 1) S3 = some (r, S5) ∧ ys ++ r.flatten = total.flatten, fun H' hn => ⟨n, Nat.lt_succ_self n, hn⟩, fun x H3 y => ?_⟩
      obtain ⟨sm, rx⟩ := j2 x H3 y
      have hi3 : ∀ xs, w = .fix xs → i + 1 ≤ xs.length := fun xs ew => by
        subst ew
        simp only [nextW, Option.some.injEq] at en
        exact (List.getElem?_eq_some_iff.mp en).1
      have R3 := R2.same sm
      have RE3 := RE2.step R2 (Step.same sm)
      have F3 := F2.step R2 (Step.same sm)
      have s3 := s2.trans (Step.same sm)
      have ry3 := ry.step R2 (Step.same sm)
      have eD3 := sm _ _ eD
      simp only [turn2, Option.bind_eq_some_iff] at hf
      obtain ⟨ρ1, b1, ⟨t, S6⟩, b2, b3⟩ := hf
      refine ⟨more M D0, Λ2, S3, _, d', ρ1, R3, RE3.wipe _, rx, b1, fun σ2 RE4 hw => ⟨?_, more M D0, ρ1, S3, Λ2, t, S6, R3, RE4, b2, fun H4 Λ4 s4 R4 => ?_⟩⟩
      · rw [hw _ hsl, wipe_twice]
      · have hDn : D0 ∉ Λ2 := fun z => R2.nm D0 z (.inr rfl)
        have eD4 := s4.keep _ _ eD3 hDn
        have ry4 := ry3.step R3 s4
        have F4 := F3.step R3 s4
        have RE5 := RE3.step R3 s4
        cases t with
        | true =>
          simp only [if_true, Option.bind_eq_some_iff, Option.map_eq_some_iff, Prod.mk.injEq] at b3
          obtain ⟨⟨w1, S7⟩, b4, ⟨r1, S8⟩, b5, rfl, rfl⟩ := b3
          obtain ⟨k0, b5⟩ := runW_runG b5
          simp only at e5 b5
          subst e5
          refine iteT ⟨more M D0, ρ1, S6, Λ4, w1, S7, R4, RE4.step R3 s4, b4, fun J1 H5 Λ5 ds1 us1 fs1 s5 R5 G1 jok1 => ?_⟩
          have hDn4 : D0 ∉ Λ4 := fun z => R4.nm D0 z (.inr rfl)
          refine ⟨fun j k H => ∃ Λ6 S9 acc ys' rr, RelS (more M D0) Λ6 S9 H ∧ RelE (more M D0) Λ6 H ρ σ ∧ RelE (more M D0) Λ6 H ρ1 σ2 ∧ Fx (more M D0) Λ6 H ds vs fs ∧ Fx (more M D0) Λ6 H ds1 us1 fs1 ∧ H D0 = some (.lst acc) ∧ RVs (more M D0) Λ6 H ys' acc ∧ Step Λ1 H1 Λ6 H ∧ (∀ xs, w1 = .fix xs → j ≤ xs.length) ∧
            runG (nextW w1) (turnF g1 vs1 ft1 fe ρ1) k j S9 = some (rr, S8) ∧ ys' ++ rr = ys ++ r1,
            ⟨k0, Λ5, S7, acc, ys, r1, R5, RE5.step R4 s5, (RE4.step R3 s4).step R4 s5, F4.step R4 s5, G1, s5.keep _ _ eD4 hDn4, ry4.step R4 s5, s3.trans (s4.trans s5), fun _ _ => Nat.zero_le _, b5, rfl⟩, ?_⟩
          rintro j k H6 ⟨Λ6, S9, acc6, ys6, rr, R6, RE6, RF6, F6, G6, eD6, ry6, s6, hj6, hr6, ht6⟩
          have jk1 := jok1 _ _ _ _ j R6 G6 hj6
          cases k with
          | zero => cases hr6
          | succ k =>
            unfold runG at hr6
            split at hr6
            · cases hr6
            · rename_i en1
              simp only [Option.some.injEq, Prod.mk.injEq] at hr6
              obtain ⟨rfl, rfl⟩ := hr6
              rw [List.append_nil] at ht6
              exact .inl ⟨jk1.1 en1, Λ6, S9, acc6, ys6, r', R6, RE6, F6, eD6, ry6, s6, hi3, hr', by rw [ht6, ← ht2, List.flatten_cons, List.append_assoc]⟩
            · rename_i d6 en1
              obtain ⟨i1, i2⟩ := jk1.2 _ en1
              simp only [Option.bind_eq_some_iff, Option.map_eq_some_iff] at hr6
              obtain ⟨⟨o6, S10⟩, hf6, ⟨rr', S11⟩, hr7, e7⟩ := hr6
              simp only [Prod.mk.injEq] at e7
              obtain ⟨e7, rfl⟩ := e7
              refine .inr ⟨i1, fun H => ∃ Λ6 S9 acc ys' rr, RelS (more M D0) Λ6 S9 H ∧ RelE (more M D0) Λ6 H ρ σ ∧ RelE (more M D0) Λ6 H ρ1 σ2 ∧ Fx (more M D0) Λ6 H ds vs fs ∧ Fx (more M D0) Λ6 H ds1 us1 fs1 ∧ H D0 = some (.lst acc) ∧ RVs (more M D0) Λ6 H ys' acc ∧ Step Λ1 H1 Λ6 H ∧ (∀ xs, w1 = .fix xs → j + 1 ≤ xs.length) ∧
                runG (nextW w1) (turnF g1 vs1 ft1 fe ρ1) k (j + 1) S9 = some (rr, S11) ∧ ys' ++ rr = ys ++ r1, fun H' hn => ⟨k, Nat.lt_succ_self k, hn⟩, fun x6 H7 y6 => ?_⟩
              obtain ⟨sm6, rx6⟩ := i2 x6 H7 y6
              have hj7 : ∀ xs, w1 = .fix xs → j + 1 ≤ xs.length := fun xs ew => by
                subst ew
                simp only [nextW, Option.some.injEq] at en1
                exact (List.getElem?_eq_some_iff.mp en1).1
              have st6 := Step.same (Λ := Λ6) sm6
              have R7 := R6.same sm6
              have RE7 := RE6.step R6 st6
              have RF7 := RF6.step R6 st6
              have F7 := F6.step R6 st6
              have G7 := G6.step R6 st6
              have ry7 := ry6.step R6 st6
              have eD7 := sm6 _ _ eD6
              simp only [turnF, Option.bind_eq_some_iff] at hf6
              obtain ⟨ρ2, c1, ⟨t6, S12⟩, c2, c3⟩ := hf6
              refine ⟨more M D0, Λ6, S9, _, d6, ρ2, R7, RF7.wipe _, rx6, c1, fun σ3 RE8 hw1 => ⟨?_, more M D0, ρ2, S9, Λ6, t6, S12, R7, RE8, c2, fun H8 Λ8 s8 R8 => ?_⟩⟩
              · rw [hw1 _ hsl1, wipe_twice]
              · have hDn6 : D0 ∉ Λ6 := fun z => R6.nm D0 z (.inr rfl)
                have eD8 := s8.keep _ _ eD7 hDn6
                cases t6 with
                | true =>
                  simp only [if_true, Option.map_eq_some_iff, Prod.mk.injEq] at c3
                  obtain ⟨⟨yv, S13⟩, c4, rfl, rfl⟩ := c3
                  refine iteT ⟨more M D0, ρ2, S12, Λ8, yv, S13, R8, RE8.step R7 s8, c4, fun v9 H9 Λ9 s9 R9 r9 => ?_⟩
                  have hDn8 : D0 ∉ Λ8 := fun z => R8.nm D0 z (.inr rfl)
                  have eD9 := s9.keep _ _ eD8 hDn8
                  have s79 := s8.trans s9
                  have ry9 := ry7.step R7 s79
                  simp only at e7
                  subst e7
                  have ol : Off (more M D0) Λ9 H9 D0 (upd H9 D0 (.lst (acc6 ++ [v9]))) := ⟨fun z => R9.nm D0 z (.inr rfl), .inr ⟨.inr rfl, _, eD9, trivial⟩, fun a h => upd_ne h⟩
                  have hlen : ys6.length + 1 ≤ line := by
                    have e1 := congrArg List.length ht6
                    have e2 := congrArg List.length ht2
                    rw [List.length_append, List.length_append, List.length_cons] at e1
                    rw [List.flatten_cons, List.length_append, List.length_append] at e2
                    omega
                  refine ⟨acc6, eD9, by rw [← ry9.length, ← line_eq]; omega, Λ9, S13, acc6 ++ [v9], ys6 ++ [yv], rr', R9.off ol ⟨_, upd_same⟩, (RE7.step R7 s79).off ol, (RF7.step R7 s79).off ol, (F7.step R7 s79).off ol, (G7.step R7 s79).off ol, upd_same, ?_, ?_, hj7, hr7, by rw [List.append_assoc]; exact ht6⟩
                  · exact (ry9.append (.cons r9 .nil)).off ol
                  · exact ((s6.trans st6).trans s79).updM hD
                | false =>
                  simp only [Bool.false_eq_true, if_false, Option.some.injEq, Prod.mk.injEq] at c3
                  obtain ⟨rfl, rfl⟩ := c3
                  simp only at e7
                  subst e7
                  exact iteF ⟨Λ8, S12, acc6, ys6, rr', R8, RE7.step R7 s8, RF7.step R7 s8, F7.step R7 s8, G7.step R7 s8, eD8, ry7.step R7 s8, (s6.trans st6).trans s8, hj7, hr7, ht6⟩
        | false =>
          simp only [Bool.false_eq_true, if_false, Option.some.injEq, Prod.mk.injEq] at b3
          obtain ⟨rfl, rfl⟩ := b3
          simp only at e5
          subst e5
          exact iteF ⟨Λ4, S6, acc, ys, r', R4, RE5, F4, eD4, ry4, s3.trans s4, hi3, hr', ht2⟩
theorem se_lc2 (fu : Nat) {vs1 : List Nat} (hc : X.calm = true) (hN : X.N.Nodup) (hi : PI X tg iter (tI fi)) (ok : BlkOk X.N X.env.scope scope own) (hv : ∀ i ∈ vs1, i ∈ own.map (·.2))
    (hg : ∀ (s : Shared) (H : Hp) (C : Addr) (cl : List (Str × Addr)) (fp : List Addr), PG (X.blk s H scope (compEnvC scope cl C X.env) fp) tg (tG g)) (ht : ∀ (s : Shared) (H : Hp) (C : Addr) (cl : List (Str × Addr)) (fp : List Addr), PTs (X.blk s H scope (compEnvC scope cl C X.env) fp) ifs (tTs ft))
    (hi1 : ∀ (s : Shared) (H : Hp) (C : Addr) (cl : List (Str × Addr)) (fp : List Addr), PI (X.blk s H scope (compEnvC scope cl C X.env) fp) tg1 iter1 (tI fi1))
    (hg1 : ∀ (s : Shared) (H : Hp) (C : Addr) (cl : List (Str × Addr)) (fp : List Addr), PG (X.blk s H scope (compEnvC scope cl C X.env) fp) tg1 (tG g1)) (ht1 : ∀ (s : Shared) (H : Hp) (C : Addr) (cl : List (Str × Addr)) (fp : List Addr), PTs (X.blk s H scope (compEnvC scope cl C X.env) fp) ifs1 (tTs ft1))
    (he : ∀ (s : Shared) (H : Hp) (C : Addr) (cl : List (Str × Addr)) (fp : List Addr), PE (X.blk s H scope (compEnvC scope cl C X.env) fp) elt (tE fe)) (hs : ∀ x, foldedSetIterable iter X.env x = pure x) (hs1 : ∀ env x, foldedSetIterable iter1 env x = pure x) (hsl : ∀ i ∈ tgSlots g, i ∈ own.map (·.2)) (hsl1 : ∀ i ∈ tgSlots g1, i ∈ vs1) :
    PE X (.ListComp elt [⟨tg, iter, ifs, 0⟩, ⟨tg1, iter1, ifs1, 0⟩] scope pos) (tE fun ρ S => (fi ρ S).bind fun w => (runW fu (turn2 fu g (own.map (·.2)) ft fi1 g1 vs1 ft1 fe ρ) w.1 w.2).bind fun r => if r.1.flatten.length ≤ line then some (.lv r.1.flatten, r.2) else none) :=
  PE.imp (pe_lc2 hc hN hi ok hv hg ht hi1 hg1 ht1 he hs hs1) fun σ H Q h => lc2_read fu hsl hsl1 h
/-- what a walk over a changeable dict needs -/
theorem lkd_at (R : RelS M Λ S H) (RE : RelE M Λ H ρ σ) {i l : Nat} {t : Bool} {ks : List DK} {ws : List D} (hi : ρ[i]? = some (some (.ref l))) (hl : S[l]? = some (.dv t ks ws)) :
    ∃ a ho, Λ[l]? = some a ∧ H a = some ho ∧ RO M Λ H (.dv t ks ws) ho ∧ isMut ho ∧ Mut (some ho) ∧ ∀ od, RelS M Λ (S.set l (.lk (.dv t ks ws))) (upd H a (.frz od ho)) ∧ RelE M Λ (upd H a (.frz od ho)) ρ σ ∧ (S.set l (.lk (.dv t ks ws)))[l]? = some (.lk (.dv t ks ws)) := by
  obtain ⟨v, e1, r1⟩ := RE.2 _ _ hi
  obtain ⟨a, rfl, ea⟩ := ref_of r1
  obtain ⟨ho, e2, r⟩ := R.st _ _ _ hl ea
  have hmu : isMut ho := r.dvMut
  have hMu : Mut (some ho) := by cases r <;> trivial
  have hm : a ∈ Λ := List.mem_of_getElem? ea
  refine ⟨a, ho, ea, e2, r, hmu, hMu, fun od => ⟨?_, RE.oat R hm, ?_⟩⟩
  · have w := (write R ea (c' := .lk (.dv t ks ws)) (ho' := .frz od ho) (.lk r) (fun o u z => by rw [e2] at z; cases z; exact hmu)).1
    exact w
  · rw [List.getElem?_set_self (List.getElem?_eq_some_iff.mp hl).1]
theorem se_lcD (fu : Nat) {i : Nat} {fv : Env → Store → Option (D × Store)} (hfv : ∀ ρ S d, ρ[i]? = some (some d) → fv ρ S = some (d, S)) (hc : X.calm = true) (hN : X.N.Nodup) (hi : PI X tg iter (tI fun ρ S => (fv ρ S).bind fun x => (walkOf x.2 x.1).map fun w => (w, x.2))) (ok : BlkOk X.N X.env.scope scope own)
    (hg : ∀ (s : Shared) (H : Hp) (C : Addr) (cl : List (Str × Addr)) (fp : List Addr), PG (X.blk s H scope (compEnvC scope cl C X.env) fp) tg (tG g)) (ht : ∀ (s : Shared) (H : Hp) (C : Addr) (cl : List (Str × Addr)) (fp : List Addr), PTs (X.blk s H scope (compEnvC scope cl C X.env) fp) ifs (tTs ft))
    (he : ∀ (s : Shared) (H : Hp) (C : Addr) (cl : List (Str × Addr)) (fp : List Addr), PE (X.blk s H scope (compEnvC scope cl C X.env) fp) elt (tE fe)) (hs : ∀ x, foldedSetIterable iter X.env x = pure x) (hsl : ∀ i ∈ tgSlots g, i ∈ own.map (·.2)) :
    PE X (.ListComp elt [⟨tg, iter, ifs, 0⟩] scope pos) (tE fun ρ S => match ρ[i]? with
      | some (some (.ref l)) => match S[l]? with
        | some (.dv t ks ws) => (runFix (turnF g (own.map (·.2)) ft fe ρ) (ks.map dkD) (S.set l (.lk (.dv t ks ws)))).bind fun r => if r.1.length ≤ line then some (.lv r.1, r.2.set l (.dv t ks ws)) else none
        | _ => none
      | _ => none) := by
  refine PE.imp (pe_lock (pe_lc hc hN hi ok hg ht he hs)) fun σ H Q ⟨M, ρ, S, Λ, d, S', R, RE, h, q⟩ => ?_
  dsimp only at h
  split at h <;> first | contradiction | skip
  rename_i l hρ
  split at h <;> first | contradiction | skip
  rename_i t ks ws hS
  simp only [Option.bind_eq_some_iff] at h
  obtain ⟨⟨r, S1⟩, h1, h2⟩ := h
  split at h2 <;> first | contradiction | skip
  rename_i hl
  cases h2
  obtain ⟨a, ho, ea, e2, ro, hmu, hMu, k⟩ := lkd_at R RE hρ hS
  refine ⟨a, ho, e2, hMu, fun od => ?_⟩
  obtain ⟨R1, RE1, g1⟩ := k od
  refine lc_read fu false hsl (fi := fun ρ S => (fv ρ S).bind fun x => (walkOf x.2 x.1).map fun w => (w, x.2)) ⟨M, ρ, _, Λ, .lv r, S1, R1, RE1, ?_, fun v H' Λ' st R' rv => ?_⟩
  · simp only [hfv _ _ _ hρ, Option.bind_some, walkOf, g1, Option.map_some, runW, h1]
    rw [if_pos hl]
    rfl
  · obtain ⟨z1, z2, z3⟩ := unlock R ea e2 ro hmu st R'
    exact ⟨st.frz _ _ _ upd_same, q _ _ _ z2 z1 (rv.oat R' z3 _)⟩
end
end Pd

/-! Pd14: dict comprehensions. -/
namespace Pd
open PySem PySem.Spec PyProof.Rows L2

section
variable {K : PySem.W.Frag} {M : Addr → Prop} {Λ Λ' Λ1 : List Addr} {H H' H1 : Hp} {S S' : Store} {d : D} {v : V} {Q : VK} {X : Cx} {ρ ρ' : Env} {σ σ' : L2.St}
theorem dPut_len (k : DK) (e : D) (ks : List DK) (vs : List D) : (dPut k e ks vs).1.length ≤ ks.length + 1 := by
  unfold dPut
  split
  · exact Nat.le_succ _
  · simp
theorem foldPut_snoc : ∀ (ps : List (DK × D)) (k : DK) (e : D) (acc : List DK × List D), foldPut (ps ++ [(k, e)]) acc = dPut k e (foldPut ps acc).1 (foldPut ps acc).2
  | [], _, _, _ => rfl
  | (j, u) :: ps, k, e, acc => foldPut_snoc ps k e _
theorem foldPut_len : ∀ (ps : List (DK × D)) (acc : List DK × List D), (foldPut ps acc).1.length ≤ acc.1.length + ps.length
  | [], _ => Nat.le_refl _
  | (j, u) :: ps, acc => by
    have h1 := foldPut_len ps (dPut j u acc.1 acc.2)
    have h2 := dPut_len j u acc.1 acc.2
    show (foldPut ps (dPut j u acc.1 acc.2)).1.length ≤ _
    rw [List.length_cons]
    omega
theorem flat_rv {q : DK} (r : RV M Λ H d v) (h : asFlat d = some q) : ∃ kk : Key, v = kV kk ∧ KK [q] [kk] := by
  unfold asFlat at h
  split at h <;> first | contradiction | skip
  · cases h
    obtain rfl := int_of r
    exact ⟨.inl _, rfl, .i .nil⟩
  · cases h
    obtain ⟨o, rfl⟩ := okS_of r
    exact ⟨.inr _, rfl, .s o .nil⟩
/-! ### dict comprehensions -/
variable {tg iter kx vx : Expr} {ifs : List Expr} {scope : Scope} {own : List (Str × Nat)} {pos : Pos} {fi : Env → Store → Option (W × Store)} {ft : Env → Store → Option (Bool × Store)} {fk fe : Env → Store → Option (D × Store)} {g : Tg}
def turnK (g : Tg) (vs : List Nat) (ft : Env → Store → Option (Bool × Store)) (fk fe : Env → Store → Option (D × Store)) (ρ : Env) : D → Store → Option (Option (DK × D) × Store) := fun d S1 =>
  (bindTg g d (wipeE ρ vs)).bind fun ρ1 => (ft ρ1 S1).bind fun t => if t.1 then (fk ρ1 t.2).bind fun y => (fe ρ1 y.2).bind fun z => (asFlat y.1).map fun q => (some (q, z.1), z.2) else some (none, t.2)
theorem dc_read (fu : Nat) (k : Bool) {vs0 : List Nat} (hsl : ∀ i ∈ tgSlots g, i ∈ vs0) {σ : L2.St} {H : Hp} {Q Q' : VK} (hq : ∀ v H, lockQ Q v H → Q' v H)
    (h : tE (fun ρ S => (fi ρ S).bind fun w => (runW fu (turnK g vs0 ft fk fe ρ) w.1 w.2).bind fun r => if r.1.length ≤ line then some (fin k (.new (.dv false (foldPut r.1 ([], [])).1 (foldPut r.1 ([], [])).2)) r.2) else none) σ H Q) :
    tDc (tI fi) (tG g) (tTs ft) (tE fk) (tE fe) vs0 σ H Q' := by
  obtain ⟨M, ρ, S, Λ, d, S', R, RE, h, q⟩ := h
  simp only [Option.bind_eq_some_iff] at h
  obtain ⟨⟨w, S1⟩, h1, ⟨total, S2⟩, h2, h3⟩ := h
  split at h3 <;> first | contradiction | skip
  rename_i hl
  simp only [Option.some.injEq] at h3 hl
  obtain ⟨n0, h2⟩ := runW_runG h2
  refine ⟨M, ρ, S, Λ, w, S1, R, RE, h1, fun J H1 Λ1 ds vs fs s1 R1 F1 jok D0 hD => ?_⟩
  have hM : ¬ M D0 := (R1.fresh hD).2
  have o0 := off_new R1 hD (.dK [])
  refine ⟨fun i m H => ∃ Λ2 S3 acc ys r, RelS (more M D0) Λ2 S3 H ∧ RelE (more M D0) Λ2 H ρ σ ∧ Fx (more M D0) Λ2 H ds vs fs ∧ H D0 = some (.dK acc) ∧ KK (foldPut ys ([], [])).1 (acc.map (·.1)) ∧ RVs (more M D0) Λ2 H (foldPut ys ([], [])).2 (acc.map (·.2)) ∧ Step Λ1 H1 Λ2 H ∧ (∀ xs, w = .fix xs → i ≤ xs.length) ∧
    runG (nextW w) (turnK g (vs0) ft fk fe ρ) m i S3 = some (r, S2) ∧ ys ++ r = total, ⟨n0, Λ1, S1, [], [], total, R1.begin hD _, (RE.step R s1).begin R1 hD, F1.begin R1 hD, upd_same, .nil, .nil, (Step.refl).updM hD, fun _ _ => Nat.zero_le _, h2, rfl⟩, ?_⟩
  rintro i m H2 ⟨Λ2, S3, acc, ys, r, R2, RE2, F2, eD, kk, ry, s2, hi2, hr, ht2⟩
  have jk := jok _ _ _ _ i R2 F2 hi2
  cases m with
  | zero => cases hr
  | succ n =>
    unfold runG at hr
    split at hr
    · cases hr
    · rename_i en
      simp only [Option.some.injEq, Prod.mk.injEq] at hr
      obtain ⟨rfl, rfl⟩ := hr
      refine .inl ⟨jk.1 en, hq _ _ ?_⟩
      rw [List.append_nil] at ht2
      subst ht2
      have st : Step Λ H Λ2 H2 := s1.trans s2
      cases k with
      | false =>
        refine .inr ⟨D0, _, rfl, eD, trivial, fun od => ?_⟩
        have ol : Off (more M D0) Λ2 H2 D0 (upd H2 D0 (.frz od (.dK acc))) := ⟨fun z => R2.nm D0 z (.inr rfl), .inr ⟨.inr rfl, _, eD, trivial⟩, fun a h => upd_ne h⟩
        have z1 := (R2.off ol ⟨_, upd_same⟩).less
        cases h3
        exact q _ _ _ (s1.trans (s2.updM hD)) z1 (.dct upd_same (fun z => R2.nm D0 z (.inr rfl)) hM (.dK kk (ry.off ol).less))
      | true =>
        have hD0 : H D0 = none := by
          cases e : H D0 with
          | none => rfl
          | some u =>
            obtain ⟨o', e'⟩ := s1.there _ _ e
            rw [hD] at e'; cases e'
        obtain ⟨z1, z2, z3⟩ := made_ref R2 hM st hD0 (c := .dv false _ _) eD (.dK kk ry) trivial
        cases h3
        exact .inl (q _ _ _ z3 z1 z2)
    · rename_i d' en
      obtain ⟨j1, j2⟩ := jk.2 _ en
      simp only [Option.bind_eq_some_iff, Option.map_eq_some_iff] at hr
      obtain ⟨⟨o, S4⟩, hf, ⟨r', S5⟩, hr', e5⟩ := hr
      simp only [Prod.mk.injEq] at e5
      obtain ⟨e5, rfl⟩ := e5
      refine .inr ⟨j1, fun H => ∃ Λ2 S3 acc ys r, RelS (more M D0) Λ2 S3 H ∧ RelE (more M D0) Λ2 H ρ σ ∧ Fx (more M D0) Λ2 H ds vs fs ∧ H D0 = some (.dK acc) ∧ KK (foldPut ys ([], [])).1 (acc.map (·.1)) ∧ RVs (more M D0) Λ2 H (foldPut ys ([], [])).2 (acc.map (·.2)) ∧ Step Λ1 H1 Λ2 H ∧ (∀ xs, w = .fix xs → i + 1 ≤ xs.length) ∧
        runG (nextW w) (turnK g (vs0) ft fk fe ρ) n (i + 1) S3 = some (r, S5) ∧ ys ++ r = total, fun H' hn => ⟨n, Nat.lt_succ_self n, hn⟩, fun x H3 y => ?_⟩
      obtain ⟨sm, rx⟩ := j2 x H3 y
      have hi3 : ∀ xs, w = .fix xs → i + 1 ≤ xs.length := fun xs ew => by
        subst ew
        simp only [nextW, Option.some.injEq] at en
        exact (List.getElem?_eq_some_iff.mp en).1
      have R3 := R2.same sm
      have RE3 := RE2.step R2 (Step.same sm)
      have F3 := F2.step R2 (Step.same sm)
      have s3 := s2.trans (Step.same sm)
      have ry3 := ry.step R2 (Step.same sm)
      have eD3 := sm _ _ eD
      simp only [turnK, Option.bind_eq_some_iff] at hf
      obtain ⟨ρ1, b1, ⟨t, S6⟩, b2, b3⟩ := hf
      refine ⟨more M D0, Λ2, S3, _, d', ρ1, R3, RE3.wipe _, rx, b1, fun σ2 RE4 hw => ⟨?_, more M D0, ρ1, S3, Λ2, t, S6, R3, RE4, b2, fun H4 Λ4 s4 R4 => ?_⟩⟩
      · rw [hw _ hsl, wipe_twice]
      · have hDn : D0 ∉ Λ2 := fun z => R2.nm D0 z (.inr rfl)
        have eD4 := s4.keep _ _ eD3 hDn
        have ry4 := ry3.step R3 s4
        have F4 := F3.step R3 s4
        have RE5 := RE3.step R3 s4
        cases t with
        | true =>
          simp only [if_true, Option.bind_eq_some_iff, Option.map_eq_some_iff, Prod.mk.injEq] at b3
          obtain ⟨⟨yk, S7⟩, b4, ⟨yv, S8⟩, b5, qk, b6, rfl, rfl⟩ := b3
          refine iteT ⟨more M D0, ρ1, S6, Λ4, yk, S7, R4, RE4.step R3 s4, b4, fun v5 H5 Λ5 s5 R5 r5 => ⟨more M D0, ρ1, S7, Λ5, yv, S8, R5, (RE4.step R3 s4).step R4 s5, b5, fun v6 H6 Λ6 s6 R6 r6 => ?_⟩⟩
          obtain ⟨kk6, rfl, hkk⟩ := flat_rv r5 b6
          have hDn4 : D0 ∉ Λ4 := fun z => R4.nm D0 z (.inr rfl)
          have hDn5 : D0 ∉ Λ5 := fun z => R5.nm D0 z (.inr rfl)
          have eD6 := s6.keep _ _ (s5.keep _ _ eD4 hDn4) hDn5
          have ry6 := (ry4.step R4 s5).step R5 s6
          simp only at e5
          subst e5
          have ol : Off (more M D0) Λ6 H6 D0 (upd H6 D0 (.dK (putK acc kk6 v6))) := ⟨fun z => R6.nm D0 z (.inr rfl), .inr ⟨.inr rfl, _, eD6, trivial⟩, fun a h => upd_ne h⟩
          have hlen : ys.length + 1 ≤ line := by
            have := congrArg List.length ht2
            rw [List.length_append, List.length_cons] at this
            omega
          have hacc : acc.length < sizeLine := by
            have h1 := kk.len
            have h2 := foldPut_len ys ([], [])
            rw [List.length_map] at h1
            rw [← line_eq]
            simp only [List.length_nil] at h2
            omega
          obtain ⟨z1, z2⟩ := dput_KK hkk r6 kk ry6
          refine ⟨acc, kk6, rfl, eD6, hacc, Λ6, S8, putK acc kk6 v6, ys ++ [(qk, yv)], r', R6.off ol ⟨_, upd_same⟩, ((RE5.step R4 s5).step R5 s6).off ol, ((F4.step R4 s5).step R5 s6).off ol, upd_same, ?_, ?_, ?_, hi3, hr', by rw [List.append_assoc]; exact ht2⟩
          · rw [foldPut_snoc]
            exact z1
          · rw [foldPut_snoc]
            exact z2.off ol
          · exact (s3.trans (s4.trans (s5.trans s6))).updM hD
        | false =>
          simp only [Bool.false_eq_true, if_false, Option.some.injEq, Prod.mk.injEq] at b3
          obtain ⟨rfl, rfl⟩ := b3
          simp only at e5
          subst e5
          exact iteF ⟨Λ4, S6, acc, ys, r', R4, RE5, F4, eD4, kk, ry4, s3.trans s4, hi3, hr', ht2⟩
theorem se_dc (fu : Nat) (k : Bool) (hc : X.calm = true) (hN : X.N.Nodup) (hi : PI X tg iter (tI fi)) (ok : BlkOk X.N X.env.scope scope own)
    (hg : ∀ (s : Shared) (H : Hp) (C : Addr) (cl : List (Str × Addr)) (fp : List Addr), PG (X.blk s H scope (compEnvC scope cl C X.env) fp) tg (tG g)) (ht : ∀ (s : Shared) (H : Hp) (C : Addr) (cl : List (Str × Addr)) (fp : List Addr), PTs (X.blk s H scope (compEnvC scope cl C X.env) fp) ifs (tTs ft))
    (hk : ∀ (s : Shared) (H : Hp) (C : Addr) (cl : List (Str × Addr)) (fp : List Addr), PE (X.blk s H scope (compEnvC scope cl C X.env) fp) kx (tE fk))
    (he : ∀ (s : Shared) (H : Hp) (C : Addr) (cl : List (Str × Addr)) (fp : List Addr), PE (X.blk s H scope (compEnvC scope cl C X.env) fp) vx (tE fe)) (hs : ∀ x, foldedSetIterable iter X.env x = pure x) (hsl : ∀ i ∈ tgSlots g, i ∈ own.map (·.2)) :
    PE X (.DictComp kx vx [⟨tg, iter, ifs, 0⟩] scope pos) (tE fun ρ S => (fi ρ S).bind fun w => (runW fu (turnK g (own.map (·.2)) ft fk fe ρ) w.1 w.2).bind fun r => if r.1.length ≤ line then some (fin k (.new (.dv false (foldPut r.1 ([], [])).1 (foldPut r.1 ([], [])).2)) r.2) else none) :=
  PE.imp (pe_locked (pe_dc hc hN hi ok hg ht hk he hs)) fun σ H Q h => dc_read fu k hsl (fun _ _ z => z) h
/-! ### name = {..}, the name a local, on one line -/
theorem ps_locked {st : Stmt} {t : TS} (h : PS X st t) : PS X st (fun D σ H => t { D with nx := fun σ' H' => D.nx σ' H' ∨ ∃ a u, H' a = some u ∧ Mut (some u) ∧ ∀ od, D.nx σ' (upd H' a (.frz od u)) } σ H) := ⟨fun pins s σ H D I q =>
  thn (h.run pins s σ H _ I q) fun f s1 z => by
    cases f with
    | next =>
      obtain ⟨σ', H', J, q⟩ := z
      rcases q with q | ⟨a, u, e, mu, q⟩
      · exact ⟨σ', H', J, q⟩
      · obtain ⟨od, J2⟩ := Inv.lock J e mu
        exact ⟨σ', _, J2, q od⟩
    | _ => exact z⟩
theorem sw_trueD {gs : List Comprehension} {py : Pos} {y : Str} {l : Nat} {env : PySem.Env} (hk : env.scope.kind = .function) (hy : env.scope.names.lookup y = some .local) (hl : (py.line == pos.line) = true)
    (ha : (scope.names.any fun (n, k) => n == y && (k == .local || k == .cell)) = false) : swapsWith (.DictComp kx vx gs scope pos) (some (.Name y py)) l env = pure true := by
  have ky : env.kindOf y = some .local := hy
  have hb : env.blockKind = .function := by unfold PySem.Env.blockKind; rw [hk]; rfl
  unfold swapsWith
  simp only [hb, ky, ha, Expr.pos, hl]
  rfl
theorem ps_setDc {i : Nat} {y : Str} {py spos : Pos} {wi : TI} {gg : TG} {tt : TT} {tk tv : TE} (hc : X.calm = true) (hN : X.N.Nodup) (hy : X.N[i]? = some y) (hyl : X.env.scope.names.lookup y = some .local)
    (hsw : swapsWith (.DictComp kx vx [⟨tg, iter, ifs, 0⟩] scope pos) (some (.Name y py)) spos.line X.env = pure true) (hi : PI X tg iter wi) (ok : BlkOk X.N X.env.scope scope own)
    (hg : ∀ (s : Shared) (H : Hp) (C : Addr) (cl : List (Str × Addr)) (fp : List Addr), PG (X.blk s H scope (compEnvC scope cl C X.env) fp) tg gg) (ht : ∀ (s : Shared) (H : Hp) (C : Addr) (cl : List (Str × Addr)) (fp : List Addr), PTs (X.blk s H scope (compEnvC scope cl C X.env) fp) ifs tt)
    (hk : ∀ (s : Shared) (H : Hp) (C : Addr) (cl : List (Str × Addr)) (fp : List Addr), PE (X.blk s H scope (compEnvC scope cl C X.env) fp) kx tk)
    (he : ∀ (s : Shared) (H : Hp) (C : Addr) (cl : List (Str × Addr)) (fp : List Addr), PE (X.blk s H scope (compEnvC scope cl C X.env) fp) vx tv) (hs : ∀ x, foldedSetIterable iter X.env x = pure x) :
    PS X (.Assign [.Name y py] (.DictComp kx vx [⟨tg, iter, ifs, 0⟩] scope pos) spos) (tAsg (tDc wi gg tt tk tv (own.map (·.2))) (gName i)) := by
  refine ⟨fun pins s σ H D I h => ?_⟩
  rw [exec_Assign_Name_used _ _ _ _ hsw]
  refine wpAny_bind (wpAny_standAt (wpAny_bind ?_))
  show wpAny _ X.A (do let _ ← comprehension (.DictComp kx vx [⟨tg, iter, ifs, 0⟩] scope pos) scope X.env (firstIterPos [⟨tg, iter, ifs, 0⟩] pos) newDict false (eval iter X.env) (some (assign (.Name y py) X.env))) _ _ s
  have h : tDc wi gg tt tk tv (own.map (·.2)) σ H (fun x H1 => gName i x σ H1 D.nx) := h
  refine wpAny_bind (thn (dc_core (Qf := fun _ s' => SP X pins D .next s') hc hN I hi ok hg ht hk he hs h fun L C s' m H' I' q hn f => ?_) fun _ s' hq => wpAny_pure (wpAny_pure hq))
  show wpAny _ _ (assign (.Name y py) X.env (.ref L)) _ _ _
  refine wpAny_assign_Name (store_ok2 (v := V.ref L) I' hN hy (.inl hyl) rfl (fun s2 I2 ⟨a, sb, ha⟩ => ?_) (.inr hyl))
  obtain ⟨f0, f1, f2, f3, f4, f5⟩ := f
  have haC : C ≠ a := by
    rcases ha with z | z
    · rw [z]; exact f1
    · exact fun e => f4 y a z e.symm
  refine ⟨m, hn.sameBut sb haC, fun h3 sb3 => ?_⟩
  exact ⟨_, H', I2.turned (t' := s2.toks) (fun b o hb e => (sb3.2 b hb).trans e) f0 f1 f3 f4 f5, q⟩
/-- .. as the evaluator tells it -/
theorem ss_setDc (fu : Nat) (k : Bool) {i : Nat} {y : Str} {py spos : Pos} (hc : X.calm = true) (hN : X.N.Nodup) (hy : X.N[i]? = some y) (hyl : X.env.scope.names.lookup y = some .local)
    (hsw : swapsWith (.DictComp kx vx [⟨tg, iter, ifs, 0⟩] scope pos) (some (.Name y py)) spos.line X.env = pure true) (hi : PI X tg iter (tI fi)) (ok : BlkOk X.N X.env.scope scope own)
    (hg : ∀ (s : Shared) (H : Hp) (C : Addr) (cl : List (Str × Addr)) (fp : List Addr), PG (X.blk s H scope (compEnvC scope cl C X.env) fp) tg (tG g)) (ht : ∀ (s : Shared) (H : Hp) (C : Addr) (cl : List (Str × Addr)) (fp : List Addr), PTs (X.blk s H scope (compEnvC scope cl C X.env) fp) ifs (tTs ft))
    (hk : ∀ (s : Shared) (H : Hp) (C : Addr) (cl : List (Str × Addr)) (fp : List Addr), PE (X.blk s H scope (compEnvC scope cl C X.env) fp) kx (tE fk))
    (he : ∀ (s : Shared) (H : Hp) (C : Addr) (cl : List (Str × Addr)) (fp : List Addr), PE (X.blk s H scope (compEnvC scope cl C X.env) fp) vx (tE fe)) (hs : ∀ x, foldedSetIterable iter X.env x = pure x) (hsl : ∀ i ∈ tgSlots g, i ∈ own.map (·.2)) :
    PS X (.Assign [.Name y py] (.DictComp kx vx [⟨tg, iter, ifs, 0⟩] scope pos) spos) (fun D0 σ H => tE (fun ρ S => (fi ρ S).bind fun w => (runW fu (turnK g (own.map (·.2)) ft fk fe ρ) w.1 w.2).bind fun r => if r.1.length ≤ line then some (fin k (.new (.dv false (foldPut r.1 ([], [])).1 (foldPut r.1 ([], [])).2)) r.2) else none) σ H fun x H1 => gName i x σ H1 D0.nx) := by
  have main := ps_locked (ps_setDc hc hN hy hyl hsw hi ok hg ht hk he hs)
  refine ⟨fun pins s σ H D I q => main.run pins s σ H D I ?_⟩
  refine dc_read fu k hsl (fun v H1 z => ?_) q
  rcases z with z | ⟨a, u, rfl, e, mu, z⟩
  · exact .inl z
  · exact .inr ⟨a, u, e, mu, z⟩
end
end Pd

/-! Pd14b: dict displays. -/
namespace Pd
open PySem PySem.Spec PyProof.Rows L2

section
variable {K : PySem.W.Frag} {M : Addr → Prop} {Λ Λ' : List Addr} {H H' : Hp} {S S' : Store} {X : Cx} {ρ : Env} {σ : L2.St} {fu : Nat} {Φ : Calls}
def trsOf (fu : Nat) (Φ : Calls) : Es → List (TE × TE)
  | .cons k (.cons v r) => (tE (ev fu Φ k), tE (ev fu Φ v)) :: trsOf fu Φ r
  | _ => []
theorem KK.cons' {q : DK} {kk : Key} (h : KK [q] [kk]) {ks : List DK} {js : List Key} (t : KK ks js) : KK (q :: ks) (kk :: js) := by
  cases h with
  | i _ => exact .i t
  | s o _ => exact .s o t
theorem dsp_pairs : ∀ (ps : Es) {ρ : Env} {S S' : Store} {r : List (DK × D)}, evP fu Φ ps ρ S = some (r, S') → ∀ {M : Addr → Prop} {Λ : List Addr} {H : Hp} {Qp : List (V × V) → Hp → Prop}, RelS M Λ S H → RelE M Λ H ρ σ →
    (∀ (kvs : List (Key × V)) (H' : Hp) (Λ' : List Addr), Step Λ H Λ' H' → RelS M Λ' S' H' → KK (r.map (·.1)) (kvs.map (·.1)) → RVs M Λ' H' (r.map (·.2)) (kvs.map (·.2)) → Qp (kvs.map fun kv => (kV kv.1, kv.2)) H') → tPairs (trsOf fu Φ ps) σ H Qp
  | .nil, ρ, S, S', r, h, M, Λ, H, Qp, R, RE, q => by
    cases h
    exact q [] H Λ Step.refl R .nil .nil
  | .cons _ .nil, ρ, S, S', r, h, M, Λ, H, Qp, R, RE, q => by
    cases h
  | .cons k (.cons v es), ρ, S, S', r, h, M, Λ, H, Qp, R, RE, q => by
    simp only [evP, Option.bind_eq_some_iff, Option.map_eq_some_iff, Prod.mk.injEq] at h
    obtain ⟨⟨x, S1⟩, h1, ⟨y, S2⟩, h2, q0, h3, ⟨r', S3⟩, h4, rfl, rfl⟩ := h
    refine tE_of R RE h1 fun v1 H1 Λ1 s1 R1 r1 => tE_of R1 (RE.step R s1) h2 fun v2 H2 Λ2 s2 R2 r2 => ?_
    have r1' := r1.step R1 s2
    obtain ⟨kk, rfl, hk⟩ := flat_rv r1' h3
    refine dsp_pairs es h4 R2 ((RE.step R s1).step R1 s2) fun kvs H' Λ' s3 R3 k3 r3 => ?_
    refine q ((kk, v2) :: kvs) H' Λ' (s1.trans (s2.trans s3)) R3 (hk.cons' k3) (.cons (r2.step R2 s3) r3)
theorem dsp_read (k : Bool) {ps : Es} {σ : L2.St} {H : Hp} {Q : VK}
    (h : tE (fun ρ S => (evP fu Φ ps ρ S).bind fun r => if decide (r.1.length ≤ 15) && !r.1.isEmpty then some (fin k (.new (.dv false (foldPut r.1 ([], [])).1 (foldPut r.1 ([], [])).2)) r.2) else none) σ H Q) : tDisp (trsOf fu Φ ps) σ H (lockQ Q) := by
  obtain ⟨M, ρ, S, Λ, d, S', R, RE, h, q⟩ := h
  simp only [Option.bind_eq_some_iff] at h
  obtain ⟨⟨r, S1⟩, h1, h2⟩ := h
  split at h2 <;> first | contradiction | skip
  rename_i hc
  simp only [Bool.and_eq_true, decide_eq_true_eq] at hc
  simp only [Option.some.injEq] at h2
  intro p hp
  have hM : ¬ M p := (R.fresh hp).2
  have hN : p ∉ Λ := (R.fresh hp).1
  have st0 : Step Λ H Λ (upd H p (.dK [])) := (Step.refl).updM hp
  refine dsp_pairs ps h1 (R.begin hp (.dK [])) (RE.begin R hp) fun kvs H2 Λ2 s2 R2 k2 r2 => ?_
  have e2 : H2 p = some (.dK []) := s2.keep _ _ upd_same hN
  obtain ⟨z1, z2⟩ := fold_rv (acc := ([], [])) (acc' := []) k2 r2 .nil .nil
  have lk : kvs.length ≤ 15 := by
    have := k2.len
    rw [List.length_map, List.length_map] at this
    omega
  refine ⟨e2, kvs, rfl, lk, ?_⟩
  have st : Step Λ H Λ2 H2 := st0.trans s2
  cases k with
  | false =>
    refine .inr ⟨p, _, rfl, upd_same, trivial, fun od => ?_⟩
    rw [upd_upd]
    have ol : Off (more M p) Λ2 H2 p (upd H2 p (.frz od (.dK (mergeK [] kvs)))) := ⟨fun z => R2.nm p z (.inr rfl), .inr ⟨.inr rfl, _, e2, trivial⟩, fun a h => upd_ne h⟩
    have y1 := (R2.off ol ⟨_, upd_same⟩).less
    cases h2
    exact q _ _ _ (st.updM hp) y1 (.dct upd_same (fun z => R2.nm p z (.inr rfl)) hM (.dK z1 (z2.off ol).less))
  | true =>
    have ol : Off (more M p) Λ2 H2 p (upd H2 p (.dK (mergeK [] kvs))) := ⟨fun z => R2.nm p z (.inr rfl), .inr ⟨.inr rfl, _, e2, trivial⟩, fun a h => upd_ne h⟩
    have R3 := R2.off ol ⟨_, upd_same⟩
    obtain ⟨y1, y2, y3⟩ := made_ref R3 hM (st.updM hp) hp (c := .dv false _ _) upd_same (.dK z1 (z2.off ol)) trivial
    cases h2
    exact .inl (q _ _ _ y3 y1 y2)
theorem se_dsp (k : Bool) {ps : Es} {pos : Pos} {keys : List (Option Expr)} {values : List Expr} (h : PPs X pos keys values (trsOf fu Φ ps)) (hall : keys.all (·.isSome) = true) (hl : keys.length = values.length) (h0 : keys ≠ []) (h15 : keys.length ≤ 15) :
    PE X (.Dict keys values pos) (tE fun ρ S => (evP fu Φ ps ρ S).bind fun r => if decide (r.1.length ≤ 15) && !r.1.isEmpty then some (fin k (.new (.dv false (foldPut r.1 ([], [])).1 (foldPut r.1 ([], [])).2)) r.2) else none) :=
  PE.imp (pe_locked (pe_disp h hall hl h0 h15)) fun σ H Q h => dsp_read k h
end
end Pd

/-! Pd15: the text agrees with the small language; what that gives. -/
namespace Pd
open PySem PySem.Spec PyProof.Rows L2

/-! ### looks -/
def eqB (a b : Str) : Bool := decide (a = b)
theorem eqB_eq {a b : Str} (h : eqB a b = true) : a = b := of_decide_eq_true h
def gl? (sc : Scope) (x : Str) : Bool := decide (sc.names.lookup x = some .globalImplicit)
def vis? (sc : Scope) (x : Str) : Bool := decide (sc.names.lookup x = some .local) || decide (sc.names.lookup x = some .cell) || decide (sc.names.lookup x = some .free)
def loc? (sc : Scope) (x : Str) : Bool := decide (sc.names.lookup x = some .local) || decide (sc.names.lookup x = some .cell)
def nodb (x : Str) : Bool := (x == ("__debug__" : Str)) == false
def ns : Expr → Bool
  | .Starred _ _ => false
  | _ => true
def nsAll : List Expr → Bool
  | [] => true
  | x :: xs => ns x && nsAll xs
/-- no slice, no set -/
def plainX : Expr → Bool
  | .Slice _ _ _ _ => false
  | .Set _ _ _ => false
  | _ => true
/-- a receiver's look -/
def rcvX : Expr → Bool
  | .Name _ _ => true
  | .Constant _ _ _ => true
  | .Subscript _ _ _ => true
  | .BinOp _ _ _ _ => true
  | .ListComp _ _ _ _ => true
  | .Call _ (_ :: _) _ _ => true
  | _ => false
def tyNames : List String := ["int", "str", "tuple", "list", "dict", "bool"]
def okC (c : List Nat) : Bool := c.all fun x => decide (x < 0x110000)
theorem okC_S {c : List Nat} (h : okC c = true) : okS c := fun x hx => of_decide_eq_true (List.all_eq_true.mp h x hx)
/-- a target; fn: the names that may be stored though no locals -/
def chkT (N : List Str) (sc : Scope) (fn : Str → Bool) (i : Nat) : Expr → Bool
  | .Name x _ => decide (N[i]? = some x) && loc? sc x && (fn x || decide (sc.names.lookup x = some .local))
  | _ => false
def chkTs (N : List Str) (sc : Scope) (fn : Str → Bool) : List Nat → List Expr → Bool
  | [], [] => true
  | i :: is, x :: xs => chkT N sc fn i x && chkTs N sc fn is xs
  | _, _ => false
def chkG (N : List Str) (sc : Scope) (fn : Str → Bool) : Tg → Expr → Bool
  | .nm i, x => chkT N sc fn i x
  | .tp is, .Tuple xs _ _ => chkTs N sc fn is xs
  | .tp _, _ => false
def isTupX : Expr → Bool
  | .Tuple _ _ _ => true
  | _ => false
def ownOf (N : List Str) (vs : List Nat) : List (Str × Nat) := vs.map fun i => (N[i]?.getD ⟨#[]⟩, i)
def fnB (scope : Scope) : Str → Bool := fun x => scope.names.lookup x == some .cell
def gvOk (G : Sig) (x : Str) (d : D) : Bool := match G.gvs.lookup x, d with
  | some (.int j), .int i => decide (i = j)
  | some (.str b), .str c => decide (b = c)
  | _, _ => false
def esLen : Es → Nat
  | .nil => 0
  | .cons _ es => esLen es + 1

def chkV (N : List Str) (sc : Scope) (i : Nat) : Expr → Bool
  | .Name y _ => decide (N[i]? = some y) && vis? sc y && nodb y && ((y == ("__classdict__" : Str)) == false)
  | _ => false
section
variable (G : Sig) (N : List Str)
mutual
def chkE (sc : Scope) : E → Expr → Bool
  | .var i, x => chkV N sc i x
  | .non, x => match x with
    | .Constant .none _ _ => true
    | _ => false
  | .bl b, x => match x with
    | .Constant (.bool c) _ _ => decide (b = c)
    | _ => false
  | .int i, x => match x with
    | .Constant (.int j) _ _ => decide (i = j)
    | _ => false
  | .str c, x => match x with
    | .Constant (.str s) _ _ => decide (s = sOf c) && okC c
    | _ => false
  | .gv y d, x => match x with
    | .Name z _ => eqB z y && gl? sc z && nodb z && gvOk G y d
    | _ => false
  | .op o a b, x => match x with
    | .BinOp l p r _ => decide (p = astOp o) && chkE sc a l && chkE sc b r
    | _ => false
  | .neg a, x => match x with
    | .UnaryOp .USub l _ => chkE sc a l
    | _ => false
  | .cmp o a b, x => match x with
    | .Compare l [p] [r] _ => decide (p = astCmp o) && plainX r && chkE sc a l && chkE sc b r
    | _ => false
  | .chain o p a b c, x => match x with
    | .Compare l [o1, p1] [r1, r2] _ => decide (o1 = astCmp o) && decide (p1 = astCmp p) && plainX r2 && chkE sc a l && chkE sc b r1 && chkE sc c r2
    | _ => false
  | .and a b, x => match x with
    | .BoolOp .And [l, r] _ => chkE sc a l && chkE sc b r
    | .BoolOp .And (l :: r :: q :: rest) pos => chkE sc a l && chkE sc b (.BoolOp .And (r :: q :: rest) pos)
    | _ => false
  | .or a b, x => match x with
    | .BoolOp .Or [l, r] _ => chkE sc a l && chkE sc b r
    | .BoolOp .Or (l :: r :: q :: rest) pos => chkE sc a l && chkE sc b (.BoolOp .Or (r :: q :: rest) pos)
    | _ => false
  | .not a, x => match x with
    | .UnaryOp .Not l _ => chkE sc a l
    | _ => false
  | .ite c a b, x => match x with
    | .IfExp t l r _ => chkE sc c t && chkE sc a l && chkE sc b r
    | _ => false
  | .ty n, x => match x with
    | .Name y _ => decide (n ∈ tyNames) && eqB y (Str.ofString n) && gl? sc y
    | _ => false
  | .tup es, x => match x with
    | .Tuple xs _ _ => chkEs sc es xs
    | _ => false
  | .lrg1 k a, x => match x with
    | .Call (.Name f _) [.Call (.Name g _) [y] [] _] [] _ => eqB f "list" && eqB g "range" && gl? sc f && gl? sc g && ns y && chkE sc a y
    | _ => false
  | .lrg2 k a b, x => match x with
    | .Call (.Name f _) [.Call (.Name g _) [y, z] [] _] [] _ => eqB f "list" && eqB g "range" && gl? sc f && gl? sc g && ns y && ns z && chkE sc a y && chkE sc b z
    | _ => false
  | .lst k es, x => match x with
    | .List xs _ => chkEs sc es xs
    | _ => false
  | .dct k t .nil .nil, x => match x with
    | .Dict [] [] _ => true
    | _ => false
  | .dct _ _ _ _, _ => false
  | .sub a i, x => match x with
    | .Subscript l r _ => plainX r && chkE sc a l && chkE sc i r
    | _ => false
  | .slc a lo hi, x => match x with
    | .Subscript l (.Slice lo' hi' none _) _ => chkE sc a l && chkO sc lo lo' && chkO sc hi hi'
    | _ => false
  | .rev a, x => match x with
    | .Subscript l (.Slice none none (some (.UnaryOp .USub (.Constant (.int i) _ _) _)) _) _ => decide (i = 1) && chkE sc a l
    | _ => false
  | .call f es, x => match x with
    | .Call (.Name g _) xs [] _ => eqB g f && gl? sc g && nodb g && (match G.fns.lookup f with | some ps => decide (ps.length = xs.length) | none => false) && chkEs sc es xs
    | _ => false
  | .blt b k es, x => match x with
    | .Call (.Name g _) (y :: ys) [] _ => eqB g (bltNm b) && gl? sc g && chkEs sc es (y :: ys)
    | _ => false
  | .mth m a es, x => match x with
    | .Call (.Attribute o nm apos) xs [] cpos => eqB nm (mthNm m) && mthHave m && rcvX o && (apos.endLine == cpos.line) && decide (xs.length < 30) && chkE sc a o && chkEs sc es xs
    | _ => false
  | .lc k elt g vs it c, x => match x with
    | .ListComp y [⟨tg, iter, ifs, asy⟩] scope _ => decide (asy = 0) && blkC N sc scope (ownOf N vs) && (tgSlots g).all (fun i => decide (i ∈ vs)) && plainX iter && chkG N (relS scope sc) (fnB scope) g tg && chkI sc it tg iter && chkC (relS scope sc) c ifs && chkE (relS scope sc) elt y
    | _ => false
  | .lcD elt g vs i c, x => match x with
    | .ListComp y [⟨tg, iter, ifs, asy⟩] scope _ => decide (asy = 0) && blkC N sc scope (ownOf N vs) && (tgSlots g).all (fun i => decide (i ∈ vs)) && plainX iter && chkG N (relS scope sc) (fnB scope) g tg && chkV N sc i iter && chkC (relS scope sc) c ifs && chkE (relS scope sc) elt y
    | _ => false
  | .dc k key val g vs it c, x => match x with
    | .DictComp y z [⟨tg, iter, ifs, asy⟩] scope _ => decide (asy = 0) && blkC N sc scope (ownOf N vs) && (tgSlots g).all (fun i => decide (i ∈ vs)) && plainX iter && chkG N (relS scope sc) (fnB scope) g tg && chkI sc it tg iter && chkC (relS scope sc) c ifs && chkE (relS scope sc) key y && chkE (relS scope sc) val z
    | _ => false
  | .dsp k ps, x => match x with
    | .Dict keys values _ => decide (keys.length ≤ 15) && !keys.isEmpty && chkP sc ps keys values
    | _ => false
  | .sit a, x => match x with
    | .Call (.Name f _) [.Call (.Attribute o nm apos) [] [] cpos] [] _ => eqB f "sorted" && gl? sc f && eqB nm "items" && rcvX o && (apos.endLine == cpos.line) && chkE sc a o
    | _ => false
  | .lc2 elt g vs it c g1 vs1 it1 c1, x => match x with
    | .ListComp y [⟨tg, iter, ifs, asy⟩, ⟨tg1, iter1, ifs1, asy1⟩] scope _ => decide (asy = 0) && decide (asy1 = 0) && blkC N sc scope (ownOf N vs) && (tgSlots g).all (fun i => decide (i ∈ vs)) && vs1.all (fun i => decide (i ∈ vs)) && (tgSlots g1).all (fun i => decide (i ∈ vs1)) && plainX iter && plainX iter1 &&
      chkG N (relS scope sc) (fnB scope) g tg && chkI sc it tg iter && chkC (relS scope sc) c ifs && chkG N (relS scope sc) (fnB scope) g1 tg1 && chkI (relS scope sc) it1 tg1 iter1 && chkC (relS scope sc) c1 ifs1 && chkE (relS scope sc) elt y
    | _ => false
def chkP (sc : Scope) : Es → List (Option Expr) → List Expr → Bool
  | .nil, ks, vs => match ks, vs with
    | [], [] => true
    | _, _ => false
  | .cons e es, ks, vs => match es, ks, vs with
    | .cons f r, some k :: ks, v :: vs => chkE sc e k && chkE sc f v && chkP sc r ks vs
    | _, _, _ => false
def chkEs (sc : Scope) : Es → List Expr → Bool
  | .nil, xs => match xs with
    | [] => true
    | _ => false
  | .cons e es, xs => match xs with
    | x :: xs => ns x && chkE sc e x && chkEs sc es xs
    | _ => false
def chkO (sc : Scope) : Es → Option Expr → Bool
  | .nil, x => match x with
    | none => true
    | _ => false
  | .cons e es, x => match es, x with
    | .nil, some x => chkE sc e x
    | _, _ => false
def chkC (sc : Scope) : Es → List Expr → Bool
  | .nil, xs => match xs with
    | [] => true
    | _ => false
  | .cons e es, xs => match es, xs with
    | .nil, [x] => chkE sc e x
    | _, _ => false
def chkI (sc : Scope) : It → Expr → Expr → Bool
  | .of e, tg, x => chkE sc e x
  | .range es, tg, x => match x with
    | .Call (.Name f _) xs [] _ => eqB f "range" && gl? sc f && (decide (xs.length = 1) || decide (xs.length = 2)) && chkEs sc es xs
    | _ => false
  | .enum e, tg, x => match x with
    | .Call (.Name f _) [y] [] _ => isTupX tg && eqB f "enumerate" && gl? sc f && ns y && chkE sc e y
    | _ => false
  | .zip a b, tg, x => match x with
    | .Call (.Name f _) [y, z] [] _ => isTupX tg && eqB f "zip" && gl? sc f && ns y && ns z && chkE sc a y && chkE sc b z
    | _ => false
end
end

/-! ### lists of arguments -/
theorem star_ns {x : Expr} {xs : List Expr} {env : PySem.Env} (h : ns x = true) : starEach (x :: xs) env = (false, eval x env) :: starEach xs env := by
  cases x <;> first | rfl | cases h
theorem star_none : ∀ {xs : List Expr} {env : PySem.Env}, nsAll xs = true → ∀ p ∈ starEach xs env, p.1 = false
  | [], _, _ => fun p hp => by cases hp
  | x :: xs, env, h => by
    simp only [nsAll, Bool.and_eq_true] at h
    rw [star_ns h.1]
    intro p hp
    rcases List.mem_cons.mp hp with rfl | hp
    · rfl
    · exact star_none h.2 p hp
theorem back_any {xs : List Expr} {env : PySem.Env} {pos : Pos} (h : nsAll xs = true) : (backTo pos (starEach xs env)).any (·.1) = false := by
  rw [List.any_eq_false]
  intro p hp
  simp only [backTo, List.mem_map] at hp
  obtain ⟨q, hq, rfl⟩ := hp
  have := star_none h q hq
  simp [this]
theorem back_all {xs : List Expr} {env : PySem.Env} {pos : Pos} (h : nsAll xs = true) : (backTo pos (starEach xs env)).all (fun x => !x.1) = true := by
  rw [List.all_eq_true]
  intro p hp
  simp only [backTo, List.mem_map] at hp
  obtain ⟨q, hq, rfl⟩ := hp
  have := star_none h q hq
  simp [this]
theorem rcv_base {o : Expr} {nm : Str} {env : PySem.Env} (h : rcvX o = true) : attributeBase o nm env (eval o env) = eval o env := by
  cases o with
  | Call f args kw p =>
    cases args with
    | nil => simp [rcvX] at h
    | cons _ _ => cases f <;> rfl
  | _ => first | rfl | simp [rcvX] at h
theorem plain_in {op : CmpOp} {r : Expr} (h : plainX r = true) : behindInMarks op r = false := by
  cases r <;> first | rfl | simp [plainX] at h
theorem plain_ix {r : Expr} (h : plainX r = true) : PlainIx r := by
  cases r <;> first | (intro _ _; rfl) | simp [plainX] at h
theorem plain_set {r : Expr} {env : PySem.Env} (h : plainX r = true) : ∀ x, foldedSetIterable r env x = pure x := by
  cases r <;> first | (intro _; rfl) | simp [plainX] at h
theorem OkX.blk {G : Sig} {Φ : Calls} {n : Nat} {X : Cx} (O : OkX G Φ n X) {s : Shared} {H : Hp} {scope : Scope} {env : PySem.Env} {fp : List Addr} : OkX G Φ n (X.blk s H scope env fp) := ⟨O.nd, O.calm, O.room, O.c0, O.blt, O.fn, O.gv⟩
theorem gl_of {X : Cx} {x : Str} (h : gl? X.env.scope x = true) : Gl X x := show X.env.scope.names.lookup x = some .globalImplicit from of_decide_eq_true h
theorem vis_of {X : Cx} {x : Str} (h : vis? X.env.scope x = true) : Vis X.env.scope x := by
  unfold vis? at h
  simp only [Bool.or_eq_true, decide_eq_true_eq] at h
  rcases h with (h | h) | h
  · exact .inl h
  · exact .inr (.inl h)
  · exact .inr (.inr h)
theorem loc_of {sc : Scope} {x : Str} (h : loc? sc x = true) : Loc sc x := by
  unfold loc? at h
  simp only [Bool.or_eq_true, decide_eq_true_eq] at h
  exact h
theorem nodb_of {x : Str} (h : nodb x = true) : (x == ("__debug__" : Str)) = false := by simpa [nodb] using h
theorem ty_boot {n : String} (h : n ∈ tyNames) : bootBuiltins (Str.ofString n) = some (.type n) ∧ Str.ofString n ≠ "__name__" ∧ ((Str.ofString n) == ("__debug__" : Str)) = false ∧ Str.ofString n ∈ bltNames := by
  unfold tyNames at h
  simp only [List.mem_cons, List.not_mem_nil, or_false] at h
  rcases h with rfl | rfl | rfl | rfl | rfl | rfl <;> decide +kernel
theorem blt_in {x : Str} (h : x = "list" ∨ x = "range" ∨ x = "enumerate" ∨ x = "zip") : x ∈ bltNames := by
  rcases h with rfl | rfl | rfl | rfl <;> decide +kernel
section
variable {X : Cx} {N : List Str} {sc : Scope}
theorem chkT_ok {fn : Str → Bool} {i : Nat} {x : Expr} (h : chkT N X.env.scope fn i x = true) (hN : X.N = N) (hnd : X.N.Nodup) (hfn : ∀ y, fn y = true → X.fn y = true) : ∃ y p, x = .Name y p ∧ X.N[i]? = some y ∧ Loc X.env.scope y ∧ (X.fn y = true ∨ X.env.scope.names.lookup y = some .local) := by
  cases x <;> try (simp [chkT] at h; done)
  rename_i y p
  simp only [chkT, Bool.and_eq_true, Bool.or_eq_true, decide_eq_true_eq] at h
  obtain ⟨⟨h1, h2⟩, h3⟩ := h
  exact ⟨y, p, rfl, by rw [hN]; exact h1, loc_of h2, h3.imp (hfn y) id⟩
theorem chkTs_ok {fn : Str → Bool} (hN : X.N = N) (hnd : X.N.Nodup) (hfn : ∀ y, fn y = true → X.fn y = true) : ∀ {is : List Nat} {xs : List Expr}, chkTs N X.env.scope fn is xs = true → PGs X xs (tGs is) ∧ (assignEach xs X.env).length = is.length ∧ (assignEach xs X.env).findIdx? (·.1) = none
  | [], [], _ => ⟨sgs_nil, rfl, rfl⟩
  | [], _ :: _, h => by cases h
  | _ :: _, [], h => by cases h
  | i :: is, x :: xs, h => by
    simp only [chkTs, Bool.and_eq_true] at h
    obtain ⟨y, p, rfl, h1, h2, h3⟩ := chkT_ok h.1 hN hnd hfn
    obtain ⟨k1, k2, k3⟩ := chkTs_ok hN hnd hfn h.2
    refine ⟨sgs_cons hnd h1 h2 h3 k1 rfl, ?_, ?_⟩
    · show (assignEach xs X.env).length + 1 = _
      rw [k2, List.length_cons]
    · show List.findIdx? (·.1) ((false, assign (.Name y p) X.env) :: assignEach xs X.env) = none
      rw [List.findIdx?_cons, k3]
      rfl
theorem chkG_ok {fn : Str → Bool} {g : Tg} {x : Expr} (hc : X.calm = true) (hN : X.N = N) (hnd : X.N.Nodup) (hfn : ∀ y, fn y = true → X.fn y = true) (h : chkG N X.env.scope fn g x = true) : PG X x (tG g) := by
  cases g with
  | nm i =>
    obtain ⟨y, p, rfl, h1, h2, h3⟩ := chkT_ok (x := x) h hN hnd hfn
    exact sg_name hnd h1 h2 h3
  | tp is =>
    cases x <;> try (simp [chkG] at h; done)
    rename_i xs k p
    obtain ⟨k1, k2, k3⟩ := chkTs_ok hN hnd hfn (show chkTs N X.env.scope fn is xs = true from h)
    exact sg_tup hc k1 k2 k3
end
end Pd

/-! Pd16: what agrees is sound: expressions. -/
namespace Pd
open PySem PySem.Spec PyProof.Rows L2

structure SE (X : Cx) (x : Expr) (f : Env → Store → Option (D × Store)) : Prop where
  pe : PE X x (tE f)
  pt : PT X x (tT f)
  pw : ∀ o l p, x = .BoolOp o l p → PW X x (tT f)
def isVal : Expr → Bool
  | .UnaryOp .Not _ _ => false
  | .BoolOp _ _ _ => false
  | .IfExp _ _ _ _ => false
  | .Compare _ _ _ _ => false
  | _ => true
theorem isVal_true {x : Expr} {env : PySem.Env} (h : isVal x = true) : ∀ whole, isTrue x env whole = (do let v ← whole; standAt x.pos; holding [v] (truthy v)) := by
  cases x with
  | UnaryOp o _ _ => cases o <;> first | (intro _; rfl) | simp [isVal] at h
  | _ => first | (intro _; rfl) | simp [isVal] at h
theorem SE.val {X : Cx} {x : Expr} {f : Env → Store → Option (D × Store)} (h : PE X x (tE f)) (hv : isVal x = true) : SE X x f :=
  ⟨h, st_val h (isVal_true hv), fun o l p e => by subst e; simp [isVal] at hv⟩
structure SA (X : Cx) (xs : List Expr) (f : Env → Store → Option (List D × Store)) : Prop where
  pa : PA X xs (tA f)
  ns : nsAll xs = true
  len : ∀ ρ S ds S', f ρ S = some (ds, S') → ds.length = xs.length
  zero : xs = [] → ∀ ρ S ds S', f ρ S = some (ds, S') → S' = S
section
variable {G : Sig} {N : List Str} {fu : Nat} {Φ : Calls} {n : Nat}
theorem ev_one {es : Es} {e : E} {ρ : Env} {S S' : Store} {ds : List D} (h : evs fu Φ (.cons e .nil) ρ S = some (ds, S')) : ∃ d, ds = [d] ∧ ev fu Φ e ρ S = some (d, S') := by
  simp only [evs, Option.bind_eq_some_iff, Option.map_eq_some_iff, Prod.mk.injEq] at h
  obtain ⟨⟨x, S1⟩, h1, ⟨y, S2⟩, h2, rfl, rfl⟩ := h
  cases h2
  exact ⟨x, rfl, h1⟩
theorem evs_two {e1 e2 : E} {ρ : Env} {S S' : Store} {x y : D} {S1 : Store} (h1 : ev fu Φ e1 ρ S = some (x, S1)) (h2 : ev fu Φ e2 ρ S1 = some (y, S')) : evs fu Φ (.cons e1 (.cons e2 .nil)) ρ S = some ([x, y], S') := by
  simp [evs, h1, h2]
theorem evs_one {e1 : E} {ρ : Env} {S S' : Store} {x : D} (h1 : ev fu Φ e1 ρ S = some (x, S')) : evs fu Φ (.cons e1 .nil) ρ S = some ([x], S') := by
  simp [evs, h1]
theorem SA.head {X : Cx} {x : Expr} {xs : List Expr} {f : Env → Store → Option (List D × Store)} (h : SA X (x :: xs) f) : starEach (x :: xs) X.env = (false, eval x X.env) :: starEach xs X.env ∧ nsAll xs = true := by
  have := h.ns
  simp only [nsAll, Bool.and_eq_true] at this
  exact ⟨star_ns this.1, this.2⟩
theorem own_snd (N : List Str) (vs : List Nat) : (ownOf N vs).map (·.2) = vs := by
  unfold ownOf
  rw [List.map_map]
  exact List.map_id' vs
theorem SA.nil {X : Cx} {g : Env → Store → Option (List D × Store)} (h : SA X [] g) {ρ : Env} {S S' : Store} {ds : List D} (e : g ρ S = some (ds, S')) : ds = [] := List.eq_nil_of_length_eq_zero (h.len _ _ _ _ e)
theorem se_callA {X : Cx} {xs : List Expr} {g : Env → Store → Option (List D × Store)} {pos p : Pos} (O : OkX G Φ n X) {f : Str} {ps : List Str} (hf : G.fns.lookup f = some ps) (hg : Gl X f) (hdb : (f == ("__debug__" : Str)) = false) (hs : SA X xs g) (hl : ps.length = xs.length) :
    PE X (.Call (.Name f p) xs [] pos) (tE fun ρ S => (g ρ S).bind fun x => Φ f x.1 x.2) := by
  cases xs with
  | nil =>
    have hp : ps = [] := List.eq_nil_of_length_eq_zero hl
    subst hp
    refine PE.imp (se_call0 O hf hg hdb) fun σ H Q h => ?_
    obtain ⟨M, ρ, S, Λ, d, S', R, RE, h, q⟩ := h
    simp only [Option.bind_eq_some_iff] at h
    obtain ⟨⟨ds, S1⟩, h6, h7⟩ := h
    have e1 := hs.nil h6
    have e2 := hs.zero rfl _ _ _ _ h6
    subst e1
    subst e2
    exact ⟨M, ρ, _, Λ, d, S', R, RE, h7, q⟩
  | cons y ys =>
    obtain ⟨k1, k2⟩ := hs.head
    exact se_call O hf hg hdb hs.pa hl.symm k1 (back_any k2) hs.len
theorem se_mthA {X : Cx} {o : Expr} {xs : List Expr} {fo : Env → Store → Option (D × Store)} {g : Env → Store → Option (List D × Store)} {apos cpos : Pos} (hu : X.A.units + 65 < cLine) (m : Mth) (hm : mthHave m = true) (ho : PE X o (tE fo)) (hs : SA X xs g)
    (hbase : attributeBase o (mthNm m) X.env (eval o X.env) = eval o X.env) (hline : (apos.endLine == cpos.line) = true) (hl : xs.length < 30) :
    PE X (.Call (.Attribute o (mthNm m) apos) xs [] cpos) (tE fun ρ S => (fo ρ S).bind fun x => if tyOf x.2 x.1 = some (mthTy m) then (g ρ x.2).bind fun y => mthS m x.1 y.1 y.2 else none) := by
  cases xs with
  | nil =>
    refine PE.imp (se_mth0 hu m hm ho hbase hline) fun σ H Q h => ?_
    obtain ⟨M, ρ, S, Λ, d, S', R, RE, h, q⟩ := h
    refine ⟨M, ρ, S, Λ, d, S', R, RE, ?_, q⟩
    simp only [Option.bind_eq_some_iff] at h ⊢
    obtain ⟨⟨x, S1⟩, h6, h7⟩ := h
    refine ⟨⟨x, S1⟩, h6, ?_⟩
    split at h7 <;> first | contradiction | skip
    rename_i et
    rw [if_pos et]
    simp only [Option.bind_eq_some_iff] at h7
    obtain ⟨⟨ds, S2⟩, h8, h9⟩ := h7
    have e1 := hs.nil h8
    have e2 := hs.zero rfl _ _ _ _ h8
    subst e1
    subst e2
    exact h9
  | cons y ys =>
    obtain ⟨k1, k2⟩ := hs.head
    refine se_mth hu m hm ho hs.pa hbase ?_ hline k1 (back_any k2)
    rw [back_all hs.ns]
    simp only [List.length_nil, List.isEmpty_nil, if_true, Nat.add_zero, Bool.true_and, Bool.and_eq_true, decide_eq_true_eq]
    exact ⟨rfl, hl⟩
set_option maxHeartbeats 4000000 in
theorem sndV {i : Nat} {x : Expr} {X : Cx} (O : OkX G Φ n X) (hN : X.N = N) (h : chkV N X.env.scope i x = true) : SE X x (ev fu Φ (.var i)) := by
  unfold chkV at h
  split at h <;> try (cases h; done)
  simp only [Bool.and_eq_true, decide_eq_true_eq, beq_iff_eq] at h
  obtain ⟨⟨⟨h1, h2⟩, h3⟩, h4⟩ := h
  refine SE.val (se_var (by rw [hN]; exact h1) (vis_of h2) (nodb_of h3) h4 fun ρ S d S' he => ?_) rfl
  simp only [ev] at he
  split at he <;> first | (cases he; done) | skip
  rename_i d' e
  cases he
  exact ⟨e, rfl⟩
mutual
theorem sndE : ∀ (e : E) (x : Expr) (X : Cx), OkX G Φ n X → X.N = N → chkE G N X.env.scope e x = true → SE X x (ev fu Φ e)
  | .var i, x, X, O, hN, h => sndV O hN (by simpa only [chkE] using h)
  | .non, x, X, O, hN, h => by
    simp only [chkE] at h
    split at h <;> try (cases h; done)
    exact SE.val (se_const pe_non (fun _ _ _ => .non) fun ρ S d S' he => by cases he; exact ⟨rfl, rfl⟩) rfl
  | .bl b, x, X, O, hN, h => by
    simp only [chkE] at h
    split at h <;> try (cases h; done)
    simp only [decide_eq_true_eq] at h
    subst h
    exact SE.val (se_const pe_bl (fun _ _ _ => .bl b) fun ρ S d S' he => by cases he; exact ⟨rfl, rfl⟩) rfl
  | .int i, x, X, O, hN, h => by
    simp only [chkE] at h
    split at h <;> try (cases h; done)
    simp only [decide_eq_true_eq] at h
    subst h
    exact SE.val (se_const pe_int (fun _ _ _ => .int i) fun ρ S d S' he => by cases he; exact ⟨rfl, rfl⟩) rfl
  | .str c, x, X, O, hN, h => by
    simp only [chkE] at h
    split at h <;> try (cases h; done)
    simp only [Bool.and_eq_true, decide_eq_true_eq] at h
    obtain ⟨rfl, h2⟩ := h
    exact SE.val (se_const pe_str (fun _ _ _ => .str (okC_S h2)) fun ρ S d S' he => by cases he; exact ⟨rfl, rfl⟩) rfl
  | .gv y d, x, X, O, hN, h => by
    simp only [chkE] at h
    split at h <;> try (cases h; done)
    simp only [Bool.and_eq_true] at h
    obtain ⟨⟨⟨h1, h2⟩, h3⟩, h4⟩ := h
    rename_i z _
    have e := eqB_eq h1
    subst e
    have hl : G.gvs.lookup z = some d := by
      unfold gvOk at h4
      split at h4 <;> first | (cases h4; done) | skip
      all_goals
        rename_i e
        have := of_decide_eq_true h4
        subst this
        exact e
    obtain ⟨v, u, h5, h6, h7⟩ := O.gv _ _ hl
    exact SE.val (se_const (pe_glob (gl_of h2) h5 h6 (nodb_of h3)) h7 fun ρ S d S' he => by cases he; exact ⟨rfl, rfl⟩) rfl
  | .op o a b, x, X, O, hN, h => by
    simp only [chkE] at h
    split at h <;> try (cases h; done)
    simp only [Bool.and_eq_true, decide_eq_true_eq] at h
    obtain ⟨⟨rfl, h1⟩, h2⟩ := h
    exact SE.val (se_op o (sndE a _ X O hN h1).pe (sndE b _ X O hN h2).pe) rfl
  | .neg a, x, X, O, hN, h => by
    simp only [chkE] at h
    split at h <;> try (cases h; done)
    exact SE.val (se_neg (sndE a _ X O hN h).pe) rfl
  | .cmp o a b, x, X, O, hN, h => by
    simp only [chkE] at h
    split at h <;> try (cases h; done)
    simp only [Bool.and_eq_true, decide_eq_true_eq] at h
    obtain ⟨⟨⟨rfl, h0⟩, h1⟩, h2⟩ := h
    obtain ⟨z1, z2⟩ := se_cmp O.units o (sndE a _ X O hN h1).pe (sndE b _ X O hN h2).pe (plain_in h0)
    exact ⟨z1, z2, fun _ _ _ e => nomatch e⟩
  | .chain o p a b c, x, X, O, hN, h => by
    simp only [chkE] at h
    split at h <;> try (cases h; done)
    simp only [Bool.and_eq_true, decide_eq_true_eq] at h
    obtain ⟨⟨⟨⟨⟨rfl, rfl⟩, h0⟩, h1⟩, h2⟩, h3⟩ := h
    obtain ⟨z1, z2⟩ := se_chain O.units o p (sndE a _ X O hN h1).pe (sndE b _ X O hN h2).pe (sndE c _ X O hN h3).pe (plain_in h0)
    exact ⟨z1, z2, fun _ _ _ e => nomatch e⟩
  | .and a b, x, X, O, hN, h => by
    simp only [chkE] at h
    split at h <;> try (cases h; done)
    · simp only [Bool.and_eq_true] at h
      have h1 := sndE a _ X O hN h.1
      have h2 := sndE b _ X O hN h.2
      rename_i pos
      have w := st_and (pos := pos) h1.pt (pw_and1 (pos := pos) h2.pt)
      exact ⟨se_and h1.pe (pe_one h2.pe), w.pt, fun _ _ _ _ => w⟩
    · simp only [Bool.and_eq_true] at h
      have h1 := sndE a _ X O hN h.1
      have h2 := sndE b _ X O hN h.2
      rename_i pos
      have w := st_and (pos := pos) h1.pt (h2.pw _ _ _ rfl)
      exact ⟨se_and h1.pe h2.pe, w.pt, fun _ _ _ _ => w⟩
  | .or a b, x, X, O, hN, h => by
    simp only [chkE] at h
    split at h <;> try (cases h; done)
    · simp only [Bool.and_eq_true] at h
      have h1 := sndE a _ X O hN h.1
      have h2 := sndE b _ X O hN h.2
      rename_i pos
      have w := st_or (pos := pos) h1.pt (pw_or1 (pos := pos) h2.pt)
      exact ⟨se_or h1.pe (pe_one h2.pe), w.pt, fun _ _ _ _ => w⟩
    · simp only [Bool.and_eq_true] at h
      have h1 := sndE a _ X O hN h.1
      have h2 := sndE b _ X O hN h.2
      rename_i pos
      have w := st_or (pos := pos) h1.pt (h2.pw _ _ _ rfl)
      exact ⟨se_or h1.pe h2.pe, w.pt, fun _ _ _ _ => w⟩
  | .not a, x, X, O, hN, h => by
    simp only [chkE] at h
    split at h <;> try (cases h; done)
    have h1 := sndE a _ X O hN h
    exact ⟨se_not h1.pe, st_not h1.pt, fun _ _ _ e => nomatch e⟩
  | .ite c a b, x, X, O, hN, h => by
    simp only [chkE] at h
    split at h <;> try (cases h; done)
    simp only [Bool.and_eq_true] at h
    have h1 := sndE c _ X O hN h.1.1
    have h2 := sndE a _ X O hN h.1.2
    have h3 := sndE b _ X O hN h.2
    exact ⟨se_ite h1.pt h2.pe h3.pe, st_ite h1.pt h2.pt h3.pt, fun _ _ _ e => nomatch e⟩
  | .ty m, x, X, O, hN, h => by
    simp only [chkE] at h
    split at h <;> try (cases h; done)
    simp only [Bool.and_eq_true, decide_eq_true_eq] at h
    obtain ⟨⟨h1, h2⟩, h3⟩ := h
    obtain rfl := eqB_eq h2
    obtain ⟨z1, z2, z3, z4⟩ := ty_boot h1
    exact SE.val (se_ty (gl_of h3) (O.blt _ z4) z1 z2 z3 fun ρ S d S' he => by cases he; exact ⟨rfl, rfl⟩) rfl
  | .tup es, x, X, O, hN, h => by
    simp only [chkE] at h
    split at h <;> try (cases h; done)
    exact SE.val (se_tup (sndEs es _ X O hN h).pa) rfl
  | .lst k es, x, X, O, hN, h => by
    simp only [chkE] at h
    split at h <;> try (cases h; done)
    exact SE.val (se_lst k (sndEs es _ X O hN h).pa) rfl
  | .lrg1 k a, x, X, O, hN, h => by
    simp only [chkE] at h
    split at h <;> try (cases h; done)
    simp only [Bool.and_eq_true] at h
    obtain ⟨⟨⟨⟨⟨h1, h2⟩, h3⟩, h4⟩, k1⟩, k2⟩ := h
    obtain rfl := eqB_eq h1
    obtain rfl := eqB_eq h2
    refine SE.val (se_lrg1 k O.calm (gl_of h3) (O.blt _ (blt_in (.inl rfl))) (gl_of h4) (O.blt _ (blt_in (.inr (.inl rfl)))) (sndE a _ X O hN k2).pe (star_ns k1) rfl fun ρ S d S' he => ?_) rfl
    simp only [ev, Option.bind_eq_some_iff] at he
    obtain ⟨⟨d1, S1⟩, h7, xs, h8, h9⟩ := he
    split at h9 <;> first | (cases h9; done) | skip
    rename_i hl
    exact ⟨d1, S1, xs, h7, h8, hl, by simpa using h9⟩
  | .lrg2 k a b, x, X, O, hN, h => by
    simp only [chkE] at h
    split at h <;> try (cases h; done)
    simp only [Bool.and_eq_true] at h
    obtain ⟨⟨⟨⟨⟨⟨⟨h1, h2⟩, h3⟩, h4⟩, k1⟩, k3⟩, k2⟩, k4⟩ := h
    obtain rfl := eqB_eq h1
    obtain rfl := eqB_eq h2
    refine SE.val (se_lrg2 k O.calm (gl_of h3) (O.blt _ (blt_in (.inl rfl))) (gl_of h4) (O.blt _ (blt_in (.inr (.inl rfl)))) (sndE a _ X O hN k2).pe (sndE b _ X O hN k4).pe (star_ns k1) (star_ns k3) (back_any (by simp [nsAll, k3])) rfl fun ρ S d S' he => ?_) rfl
    simp only [ev, Option.bind_eq_some_iff] at he
    obtain ⟨⟨d1, S1⟩, h7, ⟨d2, S2⟩, h7', xs, h8, h9⟩ := he
    split at h9 <;> first | (cases h9; done) | skip
    rename_i hl
    exact ⟨d1, S1, d2, S2, xs, h7, h7', h8, hl, by simpa using h9⟩
  | .dct k t .nil .nil, x, X, O, hN, h => by
    simp only [chkE] at h
    split at h <;> try (cases h; done)
    exact SE.val (se_dct k t fun ρ S d S' he => by simpa [ev] using he) rfl
  | .dct k t (.cons _ _) _, x, X, O, hN, h => by simp [chkE] at h
  | .dct k t .nil (.cons _ _), x, X, O, hN, h => by simp [chkE] at h
  | .sub a i, x, X, O, hN, h => by
    simp only [chkE] at h
    split at h <;> try (cases h; done)
    simp only [Bool.and_eq_true] at h
    exact SE.val (se_sub O.units (sndE a _ X O hN h.1.2).pe (sndE i _ X O hN h.2).pe (plain_ix h.1.1)) rfl
  | .slc a lo hi, x, X, O, hN, h => by
    simp only [chkE] at h
    split at h <;> try (cases h; done)
    simp only [Bool.and_eq_true] at h
    exact SE.val (se_slc (sndE a _ X O hN h.1.1).pe (sndO lo _ X O hN h.1.2) (sndO hi _ X O hN h.2)) rfl
  | .rev a, x, X, O, hN, h => by
    simp only [chkE] at h
    split at h <;> try (cases h; done)
    simp only [Bool.and_eq_true, decide_eq_true_eq] at h
    obtain ⟨rfl, h⟩ := h
    exact SE.val (se_rev (sndE a _ X O hN h).pe) rfl
  | .call f es, x, X, O, hN, h => by
    simp only [chkE] at h
    split at h <;> try (cases h; done)
    simp only [Bool.and_eq_true] at h
    obtain ⟨⟨⟨⟨h1, h2⟩, h3⟩, h4⟩, h5⟩ := h
    obtain rfl := eqB_eq h1
    have hs := sndEs es _ X O hN h5
    split at h4 <;> try (cases h4; done)
    rename_i ps hps
    simp only [decide_eq_true_eq] at h4
    exact SE.val (se_callA O hps (gl_of h2) (nodb_of h3) hs h4) rfl
  | .blt b k es, x, X, O, hN, h => by
    simp only [chkE] at h
    split at h <;> try (cases h; done)
    simp only [Bool.and_eq_true] at h
    obtain ⟨⟨h1, h2⟩, h3⟩ := h
    obtain rfl := eqB_eq h1
    have hs := sndEs es _ X O hN h3
    obtain ⟨k1, k2⟩ := hs.head
    exact SE.val (se_blt b k O.calm O.c0 O.units (gl_of h2) (O.blt _ (blt_name b).2.2) hs.pa k1 (back_any k2)) rfl
  | .mth m a es, x, X, O, hN, h => by
    simp only [chkE] at h
    split at h <;> try (cases h; done)
    simp only [Bool.and_eq_true, decide_eq_true_eq] at h
    obtain ⟨⟨⟨⟨⟨⟨h1, h2⟩, h3⟩, h4⟩, h5⟩, h6⟩, h7⟩ := h
    obtain rfl := eqB_eq h1
    have hs := sndEs es _ X O hN h7
    have ha := sndE a _ X O hN h6
    exact SE.val (se_mthA O.units65 m h2 ha.pe hs (rcv_base h3) h4 h5) rfl
  | .lc k elt g vs it c, x, X, O, hN, h => by
    simp only [chkE] at h
    split at h <;> try (cases h; done)
    simp only [Bool.and_eq_true, decide_eq_true_eq] at h
    obtain ⟨⟨⟨⟨⟨⟨⟨h0, h1⟩, h2⟩, h3⟩, h4⟩, h5⟩, h6⟩, h7⟩ := h
    subst h0
    rename_i scope _
    have eo : (ownOf N vs).map (·.2) = vs := own_snd N vs
    have hb : BlkOk X.N X.env.scope scope (ownOf N vs) := blkOk_by (by rw [hN]; exact h1)
    have main := se_lc (own := ownOf N vs) (pos := ‹_›) (fu := fu) (k := k) (g := g) O.calm O.nd (sndI it _ _ X O hN h5) hb (fun s H C cl fp => chkG_ok (X := X.blk s H scope (compEnvC scope cl C X.env) fp) (fn := fnB scope) O.calm hN O.nd (fun _ h => h) h4)
      (fun s H C cl fp => sndC c _ (X.blk s H scope (compEnvC scope cl C X.env) fp) O.blk hN h6) (fun s H C cl fp => (sndE elt _ (X.blk s H scope (compEnvC scope cl C X.env) fp) O.blk hN h7).pe) (plain_set h3)
      (fun i hi => by rw [eo]; exact of_decide_eq_true (List.all_eq_true.mp h2 i hi))
    rw [eo] at main
    exact SE.val main rfl
  | .lcD elt g vs i c, x, X, O, hN, h => by
    simp only [chkE] at h
    split at h <;> try (cases h; done)
    simp only [Bool.and_eq_true, decide_eq_true_eq] at h
    obtain ⟨⟨⟨⟨⟨⟨⟨h0, h1⟩, h2⟩, h3⟩, h4⟩, h5⟩, h6⟩, h7⟩ := h
    subst h0
    rename_i scope _
    have eo : (ownOf N vs).map (·.2) = vs := own_snd N vs
    have hb : BlkOk X.N X.env.scope scope (ownOf N vs) := blkOk_by (by rw [hN]; exact h1)
    have hv := sndV (fu := fu) (Φ := Φ) O hN h5
    have main := se_lcD (own := ownOf N vs) (pos := ‹_›) (fu := fu) (i := i) (fv := ev fu Φ (.var i)) (g := g) (fun ρ S d e => by simp only [ev, e]) O.calm O.nd (si_of hv.pe) hb (fun s H C cl fp => chkG_ok (X := X.blk s H scope (compEnvC scope cl C X.env) fp) (fn := fnB scope) O.calm hN O.nd (fun _ h => h) h4)
      (fun s H C cl fp => sndC c _ (X.blk s H scope (compEnvC scope cl C X.env) fp) O.blk hN h6) (fun s H C cl fp => (sndE elt _ (X.blk s H scope (compEnvC scope cl C X.env) fp) O.blk hN h7).pe) (plain_set h3)
      (fun i hi => by rw [eo]; exact of_decide_eq_true (List.all_eq_true.mp h2 i hi))
    rw [eo] at main
    exact SE.val main rfl
  | .dc k key val g vs it c, x, X, O, hN, h => by
    simp only [chkE] at h
    split at h <;> try (cases h; done)
    simp only [Bool.and_eq_true, decide_eq_true_eq] at h
    obtain ⟨⟨⟨⟨⟨⟨⟨⟨h0, h1⟩, h2⟩, h3⟩, h4⟩, h5⟩, h6⟩, h7⟩, h8⟩ := h
    subst h0
    rename_i scope _
    have eo : (ownOf N vs).map (·.2) = vs := own_snd N vs
    have hb : BlkOk X.N X.env.scope scope (ownOf N vs) := blkOk_by (by rw [hN]; exact h1)
    have main := se_dc (own := ownOf N vs) (pos := ‹_›) (fu := fu) (k := k) (g := g) O.calm O.nd (sndI it _ _ X O hN h5) hb (fun s H C cl fp => chkG_ok (X := X.blk s H scope (compEnvC scope cl C X.env) fp) (fn := fnB scope) O.calm hN O.nd (fun _ h => h) h4)
      (fun s H C cl fp => sndC c _ (X.blk s H scope (compEnvC scope cl C X.env) fp) O.blk hN h6) (fun s H C cl fp => (sndE key _ (X.blk s H scope (compEnvC scope cl C X.env) fp) O.blk hN h7).pe)
      (fun s H C cl fp => (sndE val _ (X.blk s H scope (compEnvC scope cl C X.env) fp) O.blk hN h8).pe) (plain_set h3)
      (fun i hi => by rw [eo]; exact of_decide_eq_true (List.all_eq_true.mp h2 i hi))
    rw [eo] at main
    exact SE.val main rfl
  | .dsp k ps, x, X, O, hN, h => by
    simp only [chkE] at h
    split at h <;> try (cases h; done)
    simp only [Bool.and_eq_true, decide_eq_true_eq, Bool.not_eq_true', List.isEmpty_eq_false_iff] at h
    obtain ⟨⟨h1, h2⟩, h3⟩ := h
    obtain ⟨k1, k2, k3⟩ := sndP ps _ _ X O hN h3
    exact SE.val (se_dsp k (k1 _) k2 k3 h2 h1) rfl
  | .sit a, x, X, O, hN, h => by
    simp only [chkE] at h
    split at h <;> try (cases h; done)
    simp only [Bool.and_eq_true] at h
    obtain ⟨⟨⟨⟨⟨h1, h2⟩, h3⟩, h4⟩, h5⟩, h6⟩ := h
    obtain rfl := eqB_eq h1
    obtain rfl := eqB_eq h3
    exact SE.val (se_sit O.calm O.units (sndE a _ X O hN h6).pe (gl_of h2) (O.blt _ (by decide +kernel)) (rcv_base h4) h5) rfl
  | .lc2 elt g vs it c g1 vs1 it1 c1, x, X, O, hN, h => by
    simp only [chkE] at h
    split at h <;> try (cases h; done)
    simp only [Bool.and_eq_true, decide_eq_true_eq] at h
    obtain ⟨⟨⟨⟨⟨⟨⟨⟨⟨⟨⟨⟨⟨⟨h0, h0'⟩, h1⟩, h2⟩, h2'⟩, h2''⟩, h3⟩, h3'⟩, h4⟩, h5⟩, h6⟩, m4⟩, m5⟩, m6⟩, h7⟩ := h
    subst h0
    subst h0'
    rename_i scope _
    have eo : (ownOf N vs).map (·.2) = vs := own_snd N vs
    have hb : BlkOk X.N X.env.scope scope (ownOf N vs) := blkOk_by (by rw [hN]; exact h1)
    have main := se_lc2 (own := ownOf N vs) (pos := ‹_›) (fu := fu) (g := g) (g1 := g1) (vs1 := vs1) O.calm O.nd (sndI it _ _ X O hN h5) hb (fun i hi => by rw [eo]; exact of_decide_eq_true (List.all_eq_true.mp h2' i hi)) (fun s H C cl fp => chkG_ok (X := X.blk s H scope (compEnvC scope cl C X.env) fp) (fn := fnB scope) O.calm hN O.nd (fun _ h => h) h4)
      (fun s H C cl fp => sndC c _ (X.blk s H scope (compEnvC scope cl C X.env) fp) O.blk hN h6) (fun s H C cl fp => sndI it1 _ _ (X.blk s H scope (compEnvC scope cl C X.env) fp) O.blk hN m5) (fun s H C cl fp => chkG_ok (X := X.blk s H scope (compEnvC scope cl C X.env) fp) (fn := fnB scope) O.calm hN O.nd (fun _ h => h) m4)
      (fun s H C cl fp => sndC c1 _ (X.blk s H scope (compEnvC scope cl C X.env) fp) O.blk hN m6) (fun s H C cl fp => (sndE elt _ (X.blk s H scope (compEnvC scope cl C X.env) fp) O.blk hN h7).pe) (plain_set h3) (fun env => plain_set h3')
      (fun i hi => by rw [eo]; exact of_decide_eq_true (List.all_eq_true.mp h2 i hi)) (fun i hi => of_decide_eq_true (List.all_eq_true.mp h2'' i hi))
    rw [eo] at main
    exact SE.val main rfl
theorem sndP : ∀ (ps : Es) (keys : List (Option Expr)) (values : List Expr) (X : Cx), OkX G Φ n X → X.N = N → chkP G N X.env.scope ps keys values = true → (∀ pos, PPs X pos keys values (trsOf fu Φ ps)) ∧ keys.all (·.isSome) = true ∧ keys.length = values.length
  | .nil, keys, values, X, O, hN, h => by
    simp only [chkP] at h
    split at h <;> try (cases h; done)
    exact ⟨fun pos => pps_nil, rfl, rfl⟩
  | .cons e .nil, keys, values, X, O, hN, h => by
    simp only [chkP] at h
    cases h
  | .cons e (.cons f r), keys, values, X, O, hN, h => by
    cases keys with
    | nil => simp [chkP] at h
    | cons k keys =>
      cases k with
      | none => simp [chkP] at h
      | some k =>
        cases values with
        | nil => simp [chkP] at h
        | cons v values =>
          simp only [chkP, Bool.and_eq_true] at h
          obtain ⟨⟨h1, h2⟩, h3⟩ := h
          obtain ⟨k1, k2, k3⟩ := sndP r keys values X O hN h3
          exact ⟨fun pos => pps_cons (sndE e _ X O hN h1).pe (sndE f _ X O hN h2).pe (k1 pos), by simpa using k2, by rw [List.length_cons, List.length_cons, k3]⟩
theorem sndEs : ∀ (es : Es) (xs : List Expr) (X : Cx), OkX G Φ n X → X.N = N → chkEs G N X.env.scope es xs = true → SA X xs (evs fu Φ es)
  | .nil, xs, X, O, hN, h => by
    simp only [chkEs] at h
    split at h <;> try (cases h; done)
    exact ⟨sa_nil fun ρ S ds S' he => by cases he; exact ⟨rfl, rfl⟩, rfl, fun ρ S ds S' he => by cases he; rfl, fun _ ρ S ds S' he => by cases he; rfl⟩
  | .cons e es, xs, X, O, hN, h => by
    simp only [chkEs] at h
    split at h <;> try (cases h; done)
    simp only [Bool.and_eq_true] at h
    obtain ⟨⟨h1, h2⟩, h3⟩ := h
    have k1 := sndE e _ X O hN h2
    have k2 := sndEs es _ X O hN h3
    refine ⟨sa_cons k1.pe k2.pa (star_ns h1), by simp [nsAll, h1, k2.ns], fun ρ S ds S' he => ?_, fun z => nomatch z⟩
    simp only [evs, Option.bind_eq_some_iff, Option.map_eq_some_iff, Prod.mk.injEq] at he
    obtain ⟨⟨x1, S1⟩, q1, ⟨y, S2⟩, q2, rfl, rfl⟩ := he
    rw [List.length_cons, List.length_cons, k2.len _ _ _ _ q2]
theorem sndO : ∀ (es : Es) (x : Option Expr) (X : Cx), OkX G Φ n X → X.N = N → chkO G N X.env.scope es x = true → PO X x (tO (evs fu Φ es))
  | .nil, x, X, O, hN, h => by
    simp only [chkO] at h
    split at h <;> try (cases h; done)
    exact so_none fun ρ S ds S' he => by cases he; exact ⟨rfl, rfl⟩
  | .cons e .nil, x, X, O, hN, h => by
    simp only [chkO] at h
    split at h <;> try (cases h; done)
    exact so_some (sndE e _ X O hN h).pe fun ρ S ds S' he => ev_one (es := .nil) he
  | .cons e (.cons _ _), x, X, O, hN, h => by
    simp only [chkO] at h
    cases h
theorem sndC : ∀ (es : Es) (xs : List Expr) (X : Cx), OkX G Φ n X → X.N = N → chkC G N X.env.scope es xs = true → PTs X xs (tTs (evT fu Φ es))
  | .nil, x, X, O, hN, h => by
    simp only [chkC] at h
    split at h <;> try (cases h; done)
    exact sts_nil fun ρ S ds S' he => by cases he; exact ⟨rfl, rfl⟩
  | .cons e .nil, x, X, O, hN, h => by
    simp only [chkC] at h
    split at h <;> try (cases h; done)
    refine sts_one (sndE e _ X O hN h).pt fun ρ S b S' he => ?_
    simp only [evT, Option.bind_eq_some_iff] at he
    obtain ⟨⟨x1, S1⟩, q1, q2⟩ := he
    split at q2 <;> first | (cases q2; done) | skip
    rename_i b' eb
    simp only at eb
    cases q2
    rw [q1, eb]
  | .cons e (.cons _ _), x, X, O, hN, h => by
    simp only [chkC] at h
    cases h
theorem sndI : ∀ (it : It) (tg x : Expr) (X : Cx), OkX G Φ n X → X.N = N → chkI G N X.env.scope it tg x = true → PI X tg x (tI (evI fu Φ it))
  | .of e, tg, x, X, O, hN, h => si_of (sndE e x X O hN (by simpa only [chkI] using h)).pe
  | .range es, tg, x, X, O, hN, h => by
    simp only [chkI] at h
    split at h <;> try (cases h; done)
    simp only [Bool.and_eq_true, Bool.or_eq_true, decide_eq_true_eq] at h
    obtain ⟨⟨⟨h1, h2⟩, h3⟩, h4⟩ := h
    obtain rfl := eqB_eq h1
    have hs := sndEs es _ X O hN h4
    have hm := O.blt _ (blt_in (.inr (.inl rfl)))
    rename_i xs _
    rcases h3 with h3 | h3
    · match xs, hs, h3 with
      | [y], hs, _ => exact si_range1 (gl_of h2) hm hs.pa hs.head.1 hs.len
    · match xs, hs, h3 with
      | [y, z], hs, _ =>
        have hn := hs.ns
        simp only [nsAll, Bool.and_eq_true] at hn
        exact si_range2 (gl_of h2) hm hs.pa (by rw [star_ns hn.1, star_ns hn.2.1]; rfl) (star_ns hn.2.1) hs.len
  | .enum e, tg, x, X, O, hN, h => by
    simp only [chkI] at h
    split at h <;> try (cases h; done)
    simp only [Bool.and_eq_true] at h
    obtain ⟨⟨⟨⟨h0, h1⟩, h2⟩, h3⟩, h4⟩ := h
    obtain rfl := eqB_eq h1
    cases tg <;> try (simp [isTupX] at h0; done)
    refine si_enum (g := evs fu Φ (.cons e .nil)) (gl_of h2) (O.blt _ (blt_in (.inr (.inr (.inl rfl))))) (sa_cons (sndE e _ X O hN h4).pe (sa_nil fun ρ S ds S' he => by cases he; exact ⟨rfl, rfl⟩) (star_ns h3)) (star_ns h3) fun ρ S w S' he => ?_
    simp only [evI, Option.bind_eq_some_iff, Option.map_eq_some_iff, Prod.mk.injEq] at he
    obtain ⟨⟨x1, S1⟩, q1, xs, q2, rfl, rfl⟩ := he
    exact ⟨x1, xs, evs_one q1, q2, rfl⟩
  | .zip a b, tg, x, X, O, hN, h => by
    simp only [chkI] at h
    split at h <;> try (cases h; done)
    simp only [Bool.and_eq_true] at h
    obtain ⟨⟨⟨⟨⟨⟨h0, h1⟩, h2⟩, h3⟩, h3'⟩, h4⟩, h5⟩ := h
    obtain rfl := eqB_eq h1
    cases tg <;> try (simp [isTupX] at h0; done)
    refine si_zip (g := evs fu Φ (.cons a (.cons b .nil))) (gl_of h2) (O.blt _ (blt_in (.inr (.inr (.inr rfl))))) (sa_cons (sndE a _ X O hN h4).pe (sa_cons (sndE b _ X O hN h5).pe (sa_nil fun ρ S ds S' he => by cases he; exact ⟨rfl, rfl⟩) (star_ns h3')) (star_ns h3)) (star_ns h3) (back_any (by simp [nsAll, h3'])) fun ρ S w S' he => ?_
    simp only [evI, Option.bind_eq_some_iff, Option.map_eq_some_iff, Prod.mk.injEq] at he
    obtain ⟨⟨x1, S1⟩, q1, ⟨y1, S2⟩, q2, xs, q3, ys, q4, rfl, rfl⟩ := he
    exact ⟨x1, xs, y1, ys, evs_two q1 q2, q3, q4, rfl⟩
end
end
end Pd

/-! Pd17: statements. -/
namespace Pd
open PySem PySem.Spec PyProof.Rows L2

/-! ### the text agrees -/
def compScope : Expr → Option Scope
  | .ListComp _ _ s _ | .SetComp _ _ s _ | .DictComp _ _ _ s _ => some s
  | _ => none
def swapB (sc : Scope) (t : Str) (p : Pos) (x : Expr) : Bool := match compScope x with
  | none => false
  | some s => decide (sc.names.lookup t = some .local) && p.line == x.pos.line && !(s.names.any fun (n, k) => n == t && (k == .local || k == .cell))
def isTrue? : Str → Bool := fun _ => true
/-- a parallel store that is swapped: two or three names, locals, on one line, not all constants -/
def parNames (sc : Scope) (line : Nat) : List Expr → Option (List Str)
  | [] => some []
  | .Name x p :: r => if decide (sc.names.lookup x = some .local) && p.line == line then (parNames sc line r).map (x :: ·) else none
  | _ :: _ => none
abbrev lineOf (ts : List Expr) : Nat := (ts.head?.map (·.pos.line)).getD 0
section
variable (G : Sig) (N : List Str)
mutual
def chkS (sc : Scope) : T → Stmt → Bool
  | .skip, x => match x with
    | .Pass _ => true
    | _ => false
  | .seq _ _, _ => false
  | .never, _ => true
  | .ex e, x => match x with
    | .Expr y _ => (compScope y).isNone && chkE G N sc e y
    | _ => false
  | .set i e, x => match x with
    | .Assign [.Name t p] y _ => chkT N sc isTrue? i (.Name t p) && chkE G N sc e y && (!swapB sc t p y || (decide (sc.kind = .function) && (match e with | .lc _ _ _ _ _ _ => true | .dc _ _ _ _ _ _ _ => true | _ => false)))
    | _ => false
  | .tset is e, x => match x with
    | .Assign [.Tuple ts k p] y _ => chkTs N sc isTrue? is ts && !isTupX y && (compScope y).isNone && chkE G N sc e y
    | _ => false
  | .par is es, x => match x with
    | .Assign [.Tuple ts k p] (.Tuple ys k2 p2) _ => chkTs N sc isTrue? is ts && chkEs G N sc es ys && decide (is.Nodup) && decide (is.length < 100) && (
        (decide (sc.kind = .function) && (ys.all (foldedForSure 8) == false) && (ys.all (constantsAlone 8) == false) && (match parNames sc (lineOf ts) ts with
          | some xs => decide (xs.eraseDups.length = xs.length) && (decide (ts.length = 2) || decide (ts.length = 3)) && decide (ys.length = ts.length)
          | none => false)) ||
        ((parNames sc (lineOf ts) ts).isNone || ys.all (foldedForSure 8) || !(decide (ts.length = 2) || decide (ts.length = 3))))
    | _ => false
  | .setI o i e, x => match x with
    | .Assign [.Subscript y z _] w _ => plainX z && chkE G N sc e w && chkE G N sc o y && chkE G N sc i z
    | _ => false
  | .aug i o e, x => match x with
    | .AugAssign (.Name t p) q y _ => chkT N sc isTrue? i (.Name t p) && decide (q = astOp o) && (decide (o = .add) || decide (o = .sub)) && chkE G N sc e y
    | _ => false
  | .ret e, x => match x with
    | .Return (some y) _ => chkE G N sc e y
    | _ => false
  | .retn, x => match x with
    | .Return none _ => true
    | _ => false
  | .ite c a b, x => match x with
    | .If y p q _ => chkE G N sc c y && chkSs sc a p && chkSs sc b q
    | _ => false
  | .whl c b, x => match x with
    | .While y p [] _ => chkE G N sc c y && chkSs sc b p
    | _ => false
  | .loop g it b, x => match x with
    | .For tg y p [] _ => plainX y && chkG N sc isTrue? g tg && chkI G N sc it tg y && chkSs sc b p
    | _ => false
  | .loopD g i b, x => match x with
    | .For tg y p [] _ => plainX y && chkG N sc isTrue? g tg && chkV N sc i y && chkSs sc b p
    | _ => false
  | .brk, x => match x with
    | .Break _ => true
    | _ => false
  | .cont, x => match x with
    | .Continue _ => true
    | _ => false
def chkSs (sc : Scope) : T → List Stmt → Bool
  | .skip, xs => match xs with
    | [] => true
    | _ => false
  | .seq a b, xs => match xs with
    | x :: r => chkS sc a x && chkSs sc b r
    | _ => false
  | .never, _ => true
  | _, _ => false
end
end
section
variable {M : Addr → Prop} {Λ Λ' Λ1 : List Addr} {H H' H1 : Hp} {S S' : Store} {d : D} {v : V} {Q : VK} {X : Cx} {ρ ρ' : Env} {σ σ' : L2.St}
/-- what a statement's end is to give -/
def flQ (M : Addr → Prop) (D0 : Ends) (Λ : List Addr) (H : Hp) : Fl → Prop
  | .nx ρ => ∀ σ, RelE M Λ H ρ σ → D0.nx σ H
  | .ct ρ => ∀ σ, RelE M Λ H ρ σ → D0.ct σ H
  | .bk ρ => ∀ σ, RelE M Λ H ρ σ → D0.bk σ H
  | .rt d => ∀ v, RV M Λ H d v → D0.rt v H
def tSt (f : Env → Store → Option (Fl × Store)) : TS := fun D0 σ H => ∃ M ρ S Λ fl S', RelS M Λ S H ∧ RelE M Λ H ρ σ ∧ f ρ S = some (fl, S') ∧ ∀ H' Λ', Step Λ H Λ' H' → RelS M Λ' S' H' → flQ M D0 Λ' H' fl
theorem PS.imp {X : Cx} {e : Stmt} {t t' : TS} (h : PS X e t) (i : ∀ D σ H, t' D σ H → t D σ H) : PS X e t' := ⟨fun pins s σ H D I q => h.run pins s σ H D I (i D σ H q)⟩
theorem PSs.imp {X : Cx} {e : List Stmt} {t t' : TS} (h : PSs X e t) (i : ∀ D σ H, t' D σ H → t D σ H) : PSs X e t' := ⟨fun pins s σ H D I q => h.run pins s σ H D I (i D σ H q)⟩
variable {fe fo fi fc : Env → Store → Option (D × Store)} {e x y z : Expr} {pos : Pos} {fa fb : Env → Store → Option (Fl × Store)}
theorem fl_one {ρ : Env} {S S' : Store} {fl : Fl} {f : Env → Store → Option (D × Store)} {k : D → Fl} (h : (f ρ S).map (fun x => (k x.1, x.2)) = some (fl, S')) : ∃ d, f ρ S = some (d, S') ∧ fl = k d := by
  simp only [Option.map_eq_some_iff, Prod.mk.injEq] at h
  obtain ⟨⟨d, S1⟩, h1, rfl, rfl⟩ := h
  exact ⟨d, h1, rfl⟩
theorem no_swap {x : Expr} {t : Option Expr} {l : Nat} {env : PySem.Env} (h : (compScope x).isNone = true) : swapsWith x t l env = pure false := by
  cases x <;> first | rfl | simp [compScope] at h
theorem swap_no {x : Expr} {t : Str} {p : Pos} {l : Nat} {env : PySem.Env} (h : swapB env.scope t p x = false) : swapsWith x (some (.Name t p)) l env = pure false := by
  have key : ∀ s : Scope, compScope x = some s → (env.kindOf t == some .local && p.line == x.pos.line && !(s.names.any fun (n, k) => n == t && (k == .local || k == .cell))) = false := fun s es => by
    unfold swapB at h
    rw [es] at h
    simp only at h
    rw [← h]
    congr 2
    show (env.scope.names.lookup t == some .local) = decide _
    rw [Bool.eq_iff_iff, beq_iff_eq, decide_eq_true_eq]
  cases x <;> try rfl
  all_goals
    have k := key _ rfl
    simp only [swapsWith]
    rw [Bool.and_assoc, Bool.and_assoc, ← Bool.and_assoc (env.kindOf t == some .local), k, Bool.and_false]
theorem swap_yes {elt : Expr} {gs : List Comprehension} {s : Scope} {cp : Pos} {t : Str} {p : Pos} {l : Nat} {env : PySem.Env} (hk : env.scope.kind = .function) (h : swapB env.scope t p (.ListComp elt gs s cp) = true) :
    env.scope.names.lookup t = some .local ∧ swapsWith (.ListComp elt gs s cp) (some (.Name t p)) l env = pure true := by
  unfold swapB at h
  simp only [compScope, Bool.and_eq_true, decide_eq_true_eq, Bool.not_eq_true'] at h
  exact ⟨h.1.1, sw_true hk h.1.1 h.1.2 h.2⟩
theorem swap_yesD {kx vx : Expr} {gs : List Comprehension} {s : Scope} {cp : Pos} {t : Str} {p : Pos} {l : Nat} {env : PySem.Env} (hk : env.scope.kind = .function) (h : swapB env.scope t p (.DictComp kx vx gs s cp) = true) :
    env.scope.names.lookup t = some .local ∧ swapsWith (.DictComp kx vx gs s cp) (some (.Name t p)) l env = pure true := by
  unfold swapB at h
  simp only [compScope, Bool.and_eq_true, decide_eq_true_eq, Bool.not_eq_true'] at h
  exact ⟨h.1.1, sw_trueD hk h.1.1 h.1.2 h.2⟩
/-! ### parallel stores -/
def parF (env : PySem.Env) (line : Nat) : Expr → Option Str := fun
  | .Name id pos => if env.kindOf id == some .local && pos.line == line then some id else none
  | _ => none
theorem parNames_some {env : PySem.Env} {line : Nat} : ∀ {ts : List Expr} {xs : List Str}, parNames env.scope line ts = some xs → ts.filterMap (parF env line) = xs ∧ xs.length = ts.length
  | [], xs, h => by cases h; exact ⟨rfl, rfl⟩
  | t :: ts, xs, h => by
    cases t <;> try (simp [parNames] at h; done)
    rename_i x p
    simp only [parNames] at h
    split at h <;> try (cases h; done)
    rename_i hc
    simp only [Option.map_eq_some_iff] at h
    obtain ⟨ys, h1, rfl⟩ := h
    obtain ⟨z1, z2⟩ := parNames_some h1
    have e : parF env line (.Name x p) = some x := by
      have hc' : (env.kindOf x == some .local && p.line == line) = true := by
        simp only [Bool.and_eq_true, decide_eq_true_eq, beq_iff_eq] at hc ⊢
        exact hc
      show (if (env.kindOf x == some .local && p.line == line) = true then some x else none) = some x
      rw [hc']
      rfl
    rw [List.filterMap_cons_some e, z1]
    exact ⟨rfl, by rw [List.length_cons, List.length_cons, z2]⟩
theorem parNames_none {env : PySem.Env} {line : Nat} : ∀ {ts : List Expr}, parNames env.scope line ts = none → (ts.filterMap (parF env line)).length < ts.length
  | [], h => by cases h
  | t :: ts, h => by
    have le : (ts.filterMap (parF env line)).length ≤ ts.length := List.length_filterMap_le _ _
    cases e : parF env line t with
    | none =>
      rw [List.filterMap_cons_none e, List.length_cons]
      omega
    | some y =>
      rw [List.filterMap_cons_some e, List.length_cons, List.length_cons]
      cases t <;> try (simp [parF] at e; done)
      rename_i x p
      simp only [parF] at e
      split at e <;> try (cases e; done)
      rename_i hc
      have hc' : (decide (env.scope.names.lookup x = some .local) && p.line == line) = true := by
        simp only [Bool.and_eq_true, decide_eq_true_eq, beq_iff_eq] at hc ⊢
        exact hc
      simp only [parNames, hc', if_true, Option.map_eq_none_iff] at h
      have := parNames_none h
      omega
def isStar : Expr → Bool
  | .Starred .. => true
  | _ => false
theorem any_ns {ys : List Expr} (h : nsAll ys = true) : ys.any isStar = false := by
  induction ys with
  | nil => rfl
  | cons y ys ih =>
    simp only [nsAll, Bool.and_eq_true] at h
    rw [List.any_cons, ih h.2, Bool.or_false]
    cases y <;> first | rfl | simp [ns] at h
theorem swapped_eq {env : PySem.Env} {ts ys : List Expr} {k k2 : Nat} {p p2 : Pos} : swappedStores [.Tuple ts k p] (.Tuple ys k2 p2) env =
    (if (!(ts.length == 2 || ts.length == 3) || ys.length != ts.length || env.blockKind != .function) = true then pure none
    else if ys.any isStar = true then pure none
    else if ((ts.filterMap (parF env (lineOf ts))).length != ts.length || (ts.filterMap (parF env (lineOf ts))).eraseDups.length != (ts.filterMap (parF env (lineOf ts))).length) = true then pure none
    else if ys.all (foldedForSure 8) = true then pure none
    else if ys.all (constantsAlone 8) = true then (do unsupported "assign.tuple-of-constant-expressions:order-of-the-stores"; pure (some (ts.filterMap (parF env (lineOf ts)))))
    else pure (some (ts.filterMap (parF env (lineOf ts))))) := by
  have e1 : (isStar : Expr → Bool) = (fun | .Starred .. => true | _ => false) := by funext x; cases x <;> rfl
  have e2 : parF env (lineOf ts) = (fun | .Name id pos => if env.kindOf id == some .local && pos.line == lineOf ts then some id else none | _ => none) := by funext x; cases x <;> rfl
  rw [e1, e2]
  rfl
theorem par_yes {env : PySem.Env} {ts ys : List Expr} {k k2 : Nat} {p p2 : Pos} {xs : List Str} (hk : env.scope.kind = .function) (hn : nsAll ys = true) (h1 : parNames env.scope (lineOf ts) ts = some xs)
    (h2 : xs.eraseDups.length = xs.length) (h3 : ts.length = 2 ∨ ts.length = 3) (h4 : ys.length = ts.length) (h5 : ys.all (foldedForSure 8) = false) (h6 : ys.all (constantsAlone 8) = false) :
    swappedStores [.Tuple ts k p] (.Tuple ys k2 p2) env = pure (some xs) := by
  obtain ⟨z1, z2⟩ := parNames_some h1
  have hb : env.blockKind = .function := by unfold Env.blockKind; rw [hk]; rfl
  rw [swapped_eq, hb, h4, any_ns hn, z1, h2, z2, h5, h6]
  rcases h3 with h3 | h3 <;> rw [h3] <;> rfl
theorem par_no {env : PySem.Env} {ts ys : List Expr} {k k2 : Nat} {p p2 : Pos} (hn : nsAll ys = true)
    (h : parNames env.scope (lineOf ts) ts = none ∨ ys.all (foldedForSure 8) = true ∨ ¬ (ts.length = 2 ∨ ts.length = 3)) :
    swappedStores [.Tuple ts k p] (.Tuple ys k2 p2) env = pure none := by
  rw [swapped_eq, any_ns hn]
  split
  · rfl
  · rename_i c1
    rw [if_neg Bool.false_ne_true]
    split
    · rfl
    · rename_i c2
      rcases h with h | h | h
      · have := parNames_none h
        simp only [Bool.or_eq_true, bne_iff_ne, ne_eq, not_or, Decidable.not_not] at c2
        omega
      · rw [h]
        rfl
      · exfalso
        apply c1
        have e : (ts.length == 2 || ts.length == 3) = false := by
          rw [Bool.eq_false_iff]
          intro q
          simp only [Bool.or_eq_true, beq_iff_eq] at q
          exact h q
        rw [e]
        rfl
end
end Pd

/-! Pd18: what agrees is sound: statements. -/
namespace Pd
open PySem PySem.Spec PyProof.Rows L2

structure OkS (G : Sig) (Φ : Calls) (n : Nat) (X : Cx) : Prop where
  ok : OkX G Φ n X
  po : PassesOwn (model X.prog X.w) X.A X.env X.xe
  fn1 : ∀ y, X.fn y = true
theorem forG_fix {g : Tg} {b : Env → Store → Option (Fl × Store)} {xs : List D} : ∀ (n : Nat) (i : Nat) (ρ : Env) (S : Store) (r : Fl × Store), (xs.drop i).length = n → forFix g b (xs.drop i) ρ S = some r → forG (nextW (.fix xs)) g b (n + 1) i ρ S = some r
  | 0, i, ρ, S, r, hn, h => by
    have e : xs.drop i = [] := List.eq_nil_of_length_eq_zero hn
    rw [e] at h
    cases h
    have e' : xs[i]? = none := by
      have h1 : (xs.drop i)[0]? = xs[i]? := by rw [List.getElem?_drop]; rfl
      rw [← h1, e]
      rfl
    unfold forG
    simp only [nextW, e']
  | n + 1, i, ρ, S, r, hn, h => by
    cases e : xs.drop i with
    | nil => rw [e] at hn; cases hn
    | cons d ds =>
      have e' : xs[i]? = some d := by
        have h1 : (xs.drop i)[0]? = xs[i]? := by rw [List.getElem?_drop]; rfl
        rw [← h1, e]
        rfl
      have e2 : xs.drop (i + 1) = ds := by
        rw [← List.drop_drop, e]
        rfl
      rw [e] at h hn
      simp only [forFix, Option.bind_eq_some_iff] at h
      obtain ⟨ρ1, h1, ⟨f, S1⟩, h2, h3⟩ := h
      have hn' : (xs.drop (i + 1)).length = n := by rw [e2]; simpa using hn
      unfold forG
      simp only [nextW, e', h1, Option.bind_some, h2]
      cases f with
      | nx ρ2 => exact forG_fix n (i + 1) ρ2 S1 r hn' (by rw [e2]; exact h3)
      | ct ρ2 => exact forG_fix n (i + 1) ρ2 S1 r hn' (by rw [e2]; exact h3)
      | bk ρ2 => exact h3
      | rt d => exact h3
section
variable {G : Sig} {N : List Str} {fu : Nat} {Φ : Calls} {n : Nat}
variable {M : Addr → Prop} {Λ Λ' Λ1 : List Addr} {H H' H1 : Hp} {S S' : Store} {d : D} {v : V} {Q : VK} {X : Cx} {ρ ρ' : Env} {σ σ' : L2.St}
variable {g : Tg} {fi : Env → Store → Option (W × Store)} {fc : Env → Store → Option (D × Store)} {fb : Env → Store → Option (Fl × Store)}
/-- a for's reading -/
theorem for_read {D0 : Ends} (h : tSt (fun ρ S => (fi ρ S).bind fun w => match w.1 with
    | .fix xs => forFix g fb xs ρ w.2
    | .dyn l => forG (nxD l) g fb fu 0 ρ w.2) D0 σ H) : tFor (tI fi) (tG g) (tSt fb) D0 σ H := by
  obtain ⟨M, ρ, S, Λ, fl, S', R, RE, h, q⟩ := h
  simp only [Option.bind_eq_some_iff] at h
  obtain ⟨⟨w, S1⟩, h1, h2⟩ := h
  have h3 : ∃ n0, forG (nextW w) g fb n0 0 ρ S1 = some (fl, S') := by
    cases w with
    | fix xs => exact ⟨_, forG_fix (xs := xs) xs.length 0 ρ S1 _ rfl h2⟩
    | dyn l => exact ⟨fu, h2⟩
  obtain ⟨n0, h3⟩ := h3
  refine ⟨M, ρ, S, Λ, w, S1, R, RE, h1, fun J H1 Λ1 ds vs fs s1 R1 F1 jok => ?_⟩
  refine ⟨fun i m σ H => ∃ Λ2 S3 ρ2, RelS M Λ2 S3 H ∧ RelE M Λ2 H ρ2 σ ∧ Fx M Λ2 H ds vs fs ∧ Step Λ1 H1 Λ2 H ∧ (∀ xs, w = .fix xs → i ≤ xs.length) ∧ forG (nextW w) g fb m i ρ2 S3 = some (fl, S'), ⟨n0, Λ1, S1, ρ, R1, RE.step R s1, F1, Step.refl, fun _ _ => Nat.zero_le _, h3⟩, ?_⟩
  rintro i m σ2 H2 ⟨Λ2, S3, ρ2, R2, RE2, F2, s2, hi2, hr⟩
  have jk := jok _ _ _ _ i R2 F2 hi2
  cases m with
  | zero => cases hr
  | succ m =>
    unfold forG at hr
    split at hr
    · cases hr
    · rename_i en
      simp only [Option.some.injEq, Prod.mk.injEq] at hr
      obtain ⟨rfl, rfl⟩ := hr
      exact .inl ⟨jk.1 en, q H2 Λ2 (s1.trans s2) R2 σ2 RE2⟩
    · rename_i d' en
      obtain ⟨j1, j2⟩ := jk.2 _ en
      simp only [Option.bind_eq_some_iff] at hr
      obtain ⟨ρ3, b1, ⟨f, S4⟩, b2, b3⟩ := hr
      have hi3 : ∀ xs, w = .fix xs → i + 1 ≤ xs.length := fun xs ew => by
        subst ew
        simp only [nextW, Option.some.injEq] at en
        exact (List.getElem?_eq_some_iff.mp en).1
      refine .inr ⟨j1, fun σ H => ∃ Λ2 S3 ρ2, RelS M Λ2 S3 H ∧ RelE M Λ2 H ρ2 σ ∧ Fx M Λ2 H ds vs fs ∧ Step Λ1 H1 Λ2 H ∧ (∀ xs, w = .fix xs → i + 1 ≤ xs.length) ∧ forG (nextW w) g fb m (i + 1) ρ2 S3 = some (fl, S'), fun σ' H' hn => ⟨m, Nat.lt_succ_self m, hn⟩, fun x H3 y => ?_⟩
      obtain ⟨sm, rx⟩ := j2 x H3 y
      have R3 := R2.same sm
      refine ⟨M, Λ2, S3, ρ2, d', ρ3, R3, RE2.step R2 (Step.same sm), rx, b1, fun σ4 RE4 _ => ?_⟩
      refine ⟨M, ρ3, S3, Λ2, f, S4, R3, RE4, b2, fun H5 Λ5 s5 R5 => ?_⟩
      have F5 := (F2.step R2 (Step.same sm)).step R3 s5
      have st := s2.trans ((Step.same sm).trans s5)
      cases f with
      | nx ρ5 => exact fun σ5 RE5 => ⟨Λ5, S4, ρ5, R5, RE5, F5, st, hi3, b3⟩
      | ct ρ5 => exact fun σ5 RE5 => ⟨Λ5, S4, ρ5, R5, RE5, F5, st, hi3, b3⟩
      | bk ρ5 =>
        simp only [Option.some.injEq, Prod.mk.injEq] at b3
        obtain ⟨rfl, rfl⟩ := b3
        exact fun σ5 RE5 => q H5 Λ5 (s1.trans st) R5 σ5 RE5
      | rt d5 =>
        simp only [Option.some.injEq, Prod.mk.injEq] at b3
        obtain ⟨rfl, rfl⟩ := b3
        exact fun v r => q H5 Λ5 (s1.trans st) R5 v r
/-- a for over a changeable dict -/
theorem loopD_read {D0 : Ends} {i : Nat} {fv : Env → Store → Option (D × Store)} (hfv : ∀ ρ S d, ρ[i]? = some (some d) → fv ρ S = some (d, S))
    (h : tSt (fun ρ S => match ρ[i]? with
      | some (some (.ref l)) => match S[l]? with
        | some (.dv t ks ws) => (forFix g fb (ks.map dkD) ρ (S.set l (.lk (.dv t ks ws)))).map fun r => (r.1, r.2.set l (.dv t ks ws))
        | _ => none
      | _ => none) D0 σ H) : tLock (tFor (tI fun ρ S => (fv ρ S).bind fun x => (walkOf x.2 x.1).map fun w => (w, x.2)) (tG g) (tSt fb)) D0 σ H := by
  obtain ⟨M, ρ, S, Λ, fl, S', R, RE, h, q⟩ := h
  dsimp only at h
  split at h <;> first | contradiction | skip
  rename_i l hρ
  split at h <;> first | contradiction | skip
  rename_i t ks ws hS
  simp only [Option.map_eq_some_iff] at h
  obtain ⟨⟨f, S1⟩, h1, h2⟩ := h
  cases h2
  obtain ⟨a, ho, ea, e2, ro, hmu, hMu, k⟩ := lkd_at R RE hρ hS
  refine ⟨a, ho, e2, hMu, fun od => ?_⟩
  obtain ⟨R1, RE1, g1⟩ := k od
  refine for_read (fu := 0) (fi := fun ρ S => (fv ρ S).bind fun x => (walkOf x.2 x.1).map fun w => (w, x.2)) ⟨M, ρ, _, Λ, f, S1, R1, RE1, ?_, fun H' Λ' st R' => ?_⟩
  · simp only [hfv _ _ _ hρ, Option.bind_some, walkOf, g1, Option.map_some, h1]
  · obtain ⟨z1, z2, z3⟩ := unlock R ea e2 ro hmu st R'
    have fz : H' a = some (.frz od ho) := st.frz _ _ _ upd_same
    have q' := q _ _ z2 z1
    cases f with
    | nx ρ1 => exact fun σ' RE' => ⟨fz, q' _ (RE'.oat R' z3)⟩
    | ct ρ1 => exact fun σ' RE' => ⟨fz, q' _ (RE'.oat R' z3)⟩
    | bk ρ1 => exact fun σ' RE' => ⟨fz, q' _ (RE'.oat R' z3)⟩
    | rt d => exact fun v r => ⟨fz, q' _ (r.oat R' z3 _)⟩
/-- a while's reading -/
theorem while_read {D0 : Ends} (h : tSt (whileN fc fb fu) D0 σ H) : tWhile (tT fc) (tSt fb) D0 σ H := by
  obtain ⟨M, ρ, S, Λ, fl, S', R, RE, h, q⟩ := h
  refine ⟨fun m σ H' => ∃ Λ2 S3 ρ2, RelS M Λ2 S3 H' ∧ RelE M Λ2 H' ρ2 σ ∧ Step Λ H Λ2 H' ∧ whileN fc fb m ρ2 S3 = some (fl, S'), ⟨fu, Λ, S, ρ, R, RE, Step.refl, h⟩, ?_⟩
  rintro m σ2 H2 ⟨Λ2, S3, ρ2, R2, RE2, s2, hr⟩
  cases m with
  | zero => cases hr
  | succ m =>
    unfold whileN at hr
    simp only [Option.bind_eq_some_iff] at hr
    obtain ⟨⟨c, S4⟩, h1, h2⟩ := hr
    split at h2 <;> try (cases h2; done)
    · rename_i ec
      simp only at ec
      subst ec
      simp only [Option.bind_eq_some_iff] at h2
      obtain ⟨⟨f, S5⟩, h3, h4⟩ := h2
      refine ⟨M, ρ2, S3, Λ2, true, S4, R2, RE2, h1, fun H3 Λ3 s3 R3 => iteT ⟨fun σ H' => ∃ Λ2 S3 ρ2, RelS M Λ2 S3 H' ∧ RelE M Λ2 H' ρ2 σ ∧ Step Λ H Λ2 H' ∧ whileN fc fb m ρ2 S3 = some (fl, S'), fun σ' H' hn => ⟨m, Nat.lt_succ_self m, hn⟩, ?_⟩⟩
      refine ⟨M, ρ2, S4, Λ3, f, S5, R3, RE2.step R2 s3, h3, fun H5 Λ5 s5 R5 => ?_⟩
      have st := s2.trans (s3.trans s5)
      cases f with
      | nx ρ5 => exact fun σ5 RE5 => ⟨Λ5, S5, ρ5, R5, RE5, st, h4⟩
      | ct ρ5 => exact fun σ5 RE5 => ⟨Λ5, S5, ρ5, R5, RE5, st, h4⟩
      | bk ρ5 =>
        simp only [Option.some.injEq, Prod.mk.injEq] at h4
        obtain ⟨rfl, rfl⟩ := h4
        exact fun σ5 RE5 => q H5 Λ5 st R5 σ5 RE5
      | rt d5 =>
        simp only [Option.some.injEq, Prod.mk.injEq] at h4
        obtain ⟨rfl, rfl⟩ := h4
        exact fun v r => q H5 Λ5 st R5 v r
    · rename_i ec
      simp only at ec
      subst ec
      simp only [Option.some.injEq, Prod.mk.injEq] at h2
      obtain ⟨rfl, rfl⟩ := h2
      exact ⟨M, ρ2, S3, Λ2, false, S4, R2, RE2, h1, fun H3 Λ3 s3 R3 => iteF (q H3 Λ3 (s2.trans s3) R3 σ2 (RE2.step R2 s3))⟩
theorem aug_ok {o : Op2} (ho : o = .add ∨ o = .sub) : PIp X (astOp o) (fun x y H Q => ∃ M Λ S d e c, RelS M Λ S H ∧ RV M Λ H d x ∧ RV M Λ H e y ∧ augOk o d = true ∧ opS o d e S = some (.val c) ∧ PRk M Λ (.val c) H Q) := by
  rcases ho with rfl | rfl
  · exact iopr_add
  · exact OpR.imp iopr_sub fun x y H Q ⟨M, Λ, S, d, e, c, a1, a2, a3, _, a5, a6⟩ => ⟨M, Λ, S, d, e, c, a1, a2, a3, a5, a6⟩
/-- x, y = a, b -/
theorem two_par {i j : Nat} {x y : Str} {ys : List Expr} {ga : Env → Store → Option (List D × Store)} {px py pt pos : Pos} {kt k2 : Nat} {pt2 : Pos} (hc : X.calm = true) (hN : X.N.Nodup) (hi : X.N[i]? = some x) (hj : X.N[j]? = some y) (hij : i ≠ j)
    (hx : X.env.scope.names.lookup x = some .local) (hy : X.env.scope.names.lookup y = some .local) (ha : SA X ys ga) (hl : ys.length = 2)
    (hw : swappedStores [.Tuple [.Name x px, .Name y py] kt pt] (.Tuple ys k2 pt2) X.env = pure (some [x, y])) :
    PS X (.Assign [.Tuple [.Name x px, .Name y py] kt pt] (.Tuple ys k2 pt2) pos) (tSt fun ρ S => (ga ρ S).bind fun z => (setAll ρ [i, j] z.1).map fun ρ1 => (.nx ρ1, z.2)) := by
  match ys, hl, ha, hw with
  | [a, b], _, ha, hw =>
    refine PS.imp (ps_par hc hN hi hj hij hx hy ha.pa hw) fun D0 σ H ⟨M, ρ, S, Λ, fl, S', R, RE, h, q⟩ => ?_
    simp only [Option.bind_eq_some_iff, Option.map_eq_some_iff, Prod.mk.injEq] at h
    obtain ⟨⟨ds, S1⟩, h1, ρ1, h2, rfl, rfl⟩ := h
    refine ⟨M, ρ, S, Λ, ds, S1, R, RE, h1, fun vs H1 Λ1 s1 R1 r1 => ?_⟩
    match ds, h2, r1 with
    | [d1, d2], h2, r1 =>
      cases h2
      obtain ⟨v, w, rfl, rv, rw'⟩ := rvs2 r1
      exact ⟨v, w, rfl, q H1 Λ1 s1 R1 _ (((RE.step R s1).set rv i).set rw' j)⟩
    | [], h2, r1 => cases h2
    | [_], h2, r1 => cases h2
    | _ :: _ :: _ :: _, h2, r1 => cases h2
theorem three_par {i j l : Nat} {x y z : Str} {ys : List Expr} {ga : Env → Store → Option (List D × Store)} {px py pz pt pos : Pos} {kt k2 : Nat} {pt2 : Pos} (hc : X.calm = true) (hN : X.N.Nodup) (hi : X.N[i]? = some x) (hj : X.N[j]? = some y) (hk : X.N[l]? = some z) (hij : i ≠ j) (hil : i ≠ l) (hjl : j ≠ l)
    (hx : X.env.scope.names.lookup x = some .local) (hy : X.env.scope.names.lookup y = some .local) (hz : X.env.scope.names.lookup z = some .local) (ha : SA X ys ga) (hl : ys.length = 3)
    (hw : swappedStores [.Tuple [.Name x px, .Name y py, .Name z pz] kt pt] (.Tuple ys k2 pt2) X.env = pure (some [x, y, z])) :
    PS X (.Assign [.Tuple [.Name x px, .Name y py, .Name z pz] kt pt] (.Tuple ys k2 pt2) pos) (tSt fun ρ S => (ga ρ S).bind fun z => (setAll ρ [i, j, l] z.1).map fun ρ1 => (.nx ρ1, z.2)) := by
  match ys, hl, ha, hw with
  | [a, b, c], _, ha, hw =>
    refine PS.imp (ps_par3 hc hN hi hj hk hij hil hjl hx hy hz ha.pa hw) fun D0 σ H ⟨M, ρ, S, Λ, fl, S', R, RE, h, q⟩ => ?_
    simp only [Option.bind_eq_some_iff, Option.map_eq_some_iff, Prod.mk.injEq] at h
    obtain ⟨⟨ds, S1⟩, h1, ρ1, h2, rfl, rfl⟩ := h
    refine ⟨M, ρ, S, Λ, ds, S1, R, RE, h1, fun vs H1 Λ1 s1 R1 r1 => ?_⟩
    match ds, h2, r1 with
    | [d1, d2, d3], h2, r9 =>
      cases h2
      cases r9 with
      | @cons _ v _ _ r0 r8 =>
        obtain ⟨w, u, rfl, rv, rw'⟩ := rvs2 r8
        exact ⟨v, w, u, rfl, q H1 Λ1 s1 R1 _ ((((RE.step R s1).set r0 i).set rv j).set rw' l)⟩
    | [], h2, r1 => cases h2
    | [_], h2, r1 => cases h2
    | [_, _], h2, r1 => cases h2
    | _ :: _ :: _ :: _ :: _, h2, r1 => cases h2
theorem parNames_at {sc : Scope} {line : Nat} : ∀ {ts : List Expr} {xs : List Str}, parNames sc line ts = some xs → ∀ t ∈ ts, ∃ x p, t = .Name x p ∧ sc.names.lookup x = some .local
  | [], _, _, t, ht => by cases ht
  | t :: ts, xs, h, t', ht => by
    cases t <;> try (simp [parNames] at h; done)
    rename_i x p
    simp only [parNames] at h
    split at h <;> try (cases h; done)
    rename_i hc
    simp only [Bool.and_eq_true, decide_eq_true_eq] at hc
    simp only [Option.map_eq_some_iff] at h
    obtain ⟨ys, h1, rfl⟩ := h
    rcases List.mem_cons.mp ht with rfl | ht
    · exact ⟨x, p, rfl, hc.1⟩
    · exact parNames_at h1 t' ht
theorem no_swapS {x t : Expr} {l : Nat} {env : PySem.Env} (h : (compScope x).isNone = true) : swapsWithSole [t] x l env = pure false := no_swap (t := some t) h
theorem not_tup {ts : List Expr} {k : Nat} {p : Pos} {y : Expr} {env : PySem.Env} (h : isTupX y = false) : swappedStores [.Tuple ts k p] y env = pure none := by
  cases y <;> first | rfl | simp [isTupX] at h
theorem plain_asg {o i : Expr} {tp : Pos} {env : PySem.Env} (h : plainX i = true) : ∀ v, assign (.Subscript o i tp) env v = (do
      let ov ← holding [v] (eval o env)
      let iv ← holding [v, ov] (eval i env)
      standAt tp
      holding [v, ov, iv] (setItem ov iv v)
      release [v, ov, iv] []) := by
  cases i <;> first | (intro _; rfl) | simp [plainX] at h
theorem swap_sub {o i y : Expr} {tp : Pos} {l : Nat} {env : PySem.Env} : swapsWithSole [.Subscript o i tp] y l env = pure false := by
  cases y <;> rfl
theorem swapped_sub {o i y : Expr} {tp : Pos} {env : PySem.Env} : swappedStores [.Subscript o i tp] y env = pure none := by
  cases y <;> rfl
theorem par_sw {ts ys : List Expr} {is : List Nat} {xs : List Str} {kt k2 : Nat} {pt pt2 pos : Pos} {ga : Env → Store → Option (List D × Store)} (hc : X.calm = true) (hnd : X.N.Nodup) (hN : X.N = N) (hfn : ∀ z, isTrue? z = true → X.fn z = true)
    (h1 : chkTs N X.env.scope isTrue? is ts = true) (hin : is.Nodup) (hk : X.env.scope.kind = .function) (hp : parNames X.env.scope (lineOf ts) ts = some xs) (ha : SA X ys ga)
    (e2 : xs.eraseDups.length = xs.length) (e3 : ts.length = 2 ∨ ts.length = 3) (e4 : ys.length = ts.length) (e5 : ys.all (foldedForSure 8) = false) (e6 : ys.all (constantsAlone 8) = false) :
    PS X (.Assign [.Tuple ts kt pt] (.Tuple ys k2 pt2) pos) (tSt fun ρ S => (ga ρ S).bind fun z => (setAll ρ is z.1).map fun ρ1 => (.nx ρ1, z.2)) := by
  have hw := par_yes (k := kt) (k2 := k2) (p := pt) (p2 := pt2) hk ha.ns hp e2 e3 e4 e5 e6
  have hat := parNames_at hp
  match ts, is, h1, hin, hp, hat, e3, e4, hw with
  | [t1, t2], [i, j], h1, hin, hp, hat, _, e4, hw =>
    simp only [chkTs, Bool.and_eq_true] at h1
    obtain ⟨x, p, rfl, a1, a2, a3⟩ := chkT_ok h1.1 hN hnd hfn
    obtain ⟨y, p', rfl, b1, b2, b3⟩ := chkT_ok h1.2.1 hN hnd hfn
    obtain ⟨_, _, ex, lx⟩ := hat _ List.mem_cons_self
    obtain ⟨_, _, ey, ly⟩ := hat _ (List.mem_cons_of_mem _ List.mem_cons_self)
    cases ex
    cases ey
    have ex : xs = [x, y] := by
      obtain ⟨z1, _⟩ := parNames_some hp
      simp only [parNames] at hp
      split at hp <;> try (cases hp; done)
      split at hp <;> try (cases hp; done)
      simpa using hp.symm
    subst ex
    exact two_par hc hnd a1 b1 (by simpa using hin) lx ly ha e4 hw
  | [t1, t2, t3], [i, j, l], h1, hin, hp, hat, _, e4, hw =>
    simp only [chkTs, Bool.and_eq_true] at h1
    obtain ⟨x, p, rfl, a1, a2, a3⟩ := chkT_ok h1.1 hN hnd hfn
    obtain ⟨y, p', rfl, b1, b2, b3⟩ := chkT_ok h1.2.1 hN hnd hfn
    obtain ⟨z, p2', rfl, c1, c2, c3⟩ := chkT_ok h1.2.2.1 hN hnd hfn
    obtain ⟨_, _, ex, lx⟩ := hat _ List.mem_cons_self
    obtain ⟨_, _, ey, ly⟩ := hat _ (List.mem_cons_of_mem _ List.mem_cons_self)
    obtain ⟨_, _, ez, lz⟩ := hat _ (List.mem_cons_of_mem _ (List.mem_cons_of_mem _ List.mem_cons_self))
    cases ex
    cases ey
    cases ez
    have ex : xs = [x, y, z] := by
      simp only [parNames] at hp
      split at hp <;> try (cases hp; done)
      split at hp <;> try (cases hp; done)
      split at hp <;> try (cases hp; done)
      simpa using hp.symm
    subst ex
    simp only [List.nodup_cons, List.mem_cons, List.not_mem_nil, or_false, not_or] at hin
    exact three_par hc hnd a1 b1 c1 hin.1.1 hin.1.2 hin.2.1 lx ly lz ha e4 hw
  | [], _, _, _, _, _, e3, _, _ => simp at e3
  | [_], _, _, _, _, _, e3, _, _ => simp at e3
  | _ :: _ :: _ :: _ :: _, _, _, _, _, _, e3, _, _ => simp at e3
  | [_, _], [], h1, _, _, _, _, _, _ => simp [chkTs] at h1
  | [_, _], [_], h1, _, _, _, _, _, _ => simp [chkTs] at h1
  | [_, _], _ :: _ :: _ :: _, h1, _, _, _, _, _, _ => simp [chkTs] at h1
  | [_, _, _], [], h1, _, _, _, _, _, _ => simp [chkTs] at h1
  | [_, _, _], [_], h1, _, _, _, _, _, _ => simp [chkTs] at h1
  | [_, _, _], [_, _], h1, _, _, _, _, _, _ => simp [chkTs] at h1
  | [_, _, _], _ :: _ :: _ :: _ :: _, h1, _, _, _, _, _, _ => simp [chkTs] at h1
set_option maxHeartbeats 4000000 in
mutual
theorem sndS : ∀ (t : T) (st : Stmt) (X : Cx), OkS G Φ n X → X.N = N → chkS G N X.env.scope t st = true → PS X st (tSt (run fu Φ t))
  | .skip, st, X, O, hN, h => by
    simp only [chkS] at h
    split at h <;> try (cases h; done)
    refine PS.imp ps_pass fun D0 σ H ⟨M, ρ, S, Λ, fl, S', R, RE, h, q⟩ => ?_
    cases h
    exact q H Λ Step.refl R σ RE
  | .seq a b, st, X, O, hN, h => by simp [chkS] at h
  | .never, st, X, O, hN, h => PS.imp ps_never fun D0 σ H ⟨M, ρ, S, Λ, fl, S', R, RE, h, q⟩ => by cases h
  | .ex e, st, X, O, hN, h => by
    simp only [chkS] at h
    split at h <;> try (cases h; done)
    simp only [Bool.and_eq_true] at h
    refine PS.imp (ps_expr (sndE (fu := fu) e _ X O.ok hN h.2).pe (no_swap h.1)) fun D0 σ H ⟨M, ρ, S, Λ, fl, S', R, RE, h, q⟩ => ?_
    obtain ⟨d, h1, rfl⟩ := fl_one (k := fun _ => .nx ρ) h
    exact tE_of R RE h1 fun v H1 Λ1 s1 R1 r1 => q H1 Λ1 s1 R1 σ (RE.step R s1)
  | .set i e, st, X, O, hN, h => by
    simp only [chkS] at h
    split at h <;> try (cases h; done)
    simp only [Bool.and_eq_true] at h
    obtain ⟨⟨h1, h2⟩, h3⟩ := h
    rename_i y p x sp
    obtain ⟨y', p', ey, k1, k2, k3⟩ := chkT_ok h1 hN O.ok.nd (fun z _ => O.fn1 z)
    cases ey
    have read : ∀ (D0 : Ends) (σ : L2.St) (H : Hp), tSt (run fu Φ (.set i e)) D0 σ H → tE (ev fu Φ e) σ H fun x H1 => gName i x σ H1 D0.nx := fun D0 σ H ⟨M, ρ, S, Λ, fl, S', R, RE, h, q⟩ => by
      obtain ⟨d, h1, rfl⟩ := fl_one (k := fun d => .nx (ρ.set i (some d))) h
      exact tE_of R RE h1 fun v H1 Λ1 s1 R1 r1 => q H1 Λ1 s1 R1 _ ((RE.step R s1).set r1 i)
    cases hs : swapB X.env.scope y p x with
    | false => exact PS.imp (ps_set O.ok.nd k1 k2 (sndE (fu := fu) e _ X O.ok hN h2).pe (swap_no hs) k3) fun D0 σ H h => read D0 σ H h
    | true =>
      rw [hs] at h3
      simp only [Bool.not_true, Bool.false_or, Bool.and_eq_true, decide_eq_true_eq] at h3
      obtain ⟨hk, h3⟩ := h3
      match e, h2, h3, read with
      | .lc k elt g vs it c, h2, _, read =>
        simp only [chkE] at h2
        split at h2 <;> try (cases h2; done)
        simp only [Bool.and_eq_true, decide_eq_true_eq] at h2
        obtain ⟨⟨⟨⟨⟨⟨⟨m0, m1⟩, m2⟩, m3⟩, m4⟩, m5⟩, m6⟩, m7⟩ := h2
        subst m0
        rename_i scope _
        obtain ⟨hy, hsw⟩ := swap_yes hk hs (l := sp.line)
        have hb : BlkOk X.N X.env.scope scope (ownOf N vs) := blkOk_by (by rw [hN]; exact m1)
        have main := ps_setLc (spos := sp) (own := ownOf N vs) O.ok.calm O.ok.nd k1 hy hsw (sndI (fu := fu) it _ _ X O.ok hN m5) hb (fun s H C cl fp => chkG_ok (X := X.blk s H scope (compEnvC scope cl C X.env) fp) (fn := fnB scope) O.ok.calm hN O.ok.nd (fun _ h => h) m4)
          (fun s H C cl fp => sndC (fu := fu) c _ (X.blk s H scope (compEnvC scope cl C X.env) fp) O.ok.blk hN m6) (fun s H C cl fp => (sndE (fu := fu) elt _ (X.blk s H scope (compEnvC scope cl C X.env) fp) O.ok.blk hN m7).pe) (plain_set m3)
        rw [own_snd] at main
        exact PS.imp main fun D0 σ H h => lc_read fu k (fun i hi => of_decide_eq_true (List.all_eq_true.mp m2 i hi)) (read D0 σ H h)
      | .dc k key val g vs it c, h2, _, read =>
        simp only [chkE] at h2
        split at h2 <;> try (cases h2; done)
        simp only [Bool.and_eq_true, decide_eq_true_eq] at h2
        obtain ⟨⟨⟨⟨⟨⟨⟨⟨m0, m1⟩, m2⟩, m3⟩, m4⟩, m5⟩, m6⟩, m7⟩, m8⟩ := h2
        subst m0
        rename_i scope _
        obtain ⟨hy, hsw⟩ := swap_yesD hk hs (l := sp.line)
        have eo : (ownOf N vs).map (·.2) = vs := own_snd N vs
        have hb : BlkOk X.N X.env.scope scope (ownOf N vs) := blkOk_by (by rw [hN]; exact m1)
        have main := ss_setDc (fu := fu) (k := k) (g := g) (spos := sp) (own := ownOf N vs) O.ok.calm O.ok.nd k1 hy hsw (sndI (fu := fu) it _ _ X O.ok hN m5) hb (fun s H C cl fp => chkG_ok (X := X.blk s H scope (compEnvC scope cl C X.env) fp) (fn := fnB scope) O.ok.calm hN O.ok.nd (fun _ h => h) m4)
          (fun s H C cl fp => sndC (fu := fu) c _ (X.blk s H scope (compEnvC scope cl C X.env) fp) O.ok.blk hN m6) (fun s H C cl fp => (sndE (fu := fu) key _ (X.blk s H scope (compEnvC scope cl C X.env) fp) O.ok.blk hN m7).pe)
          (fun s H C cl fp => (sndE (fu := fu) val _ (X.blk s H scope (compEnvC scope cl C X.env) fp) O.ok.blk hN m8).pe) (plain_set m3) (fun i hi => by rw [eo]; exact of_decide_eq_true (List.all_eq_true.mp m2 i hi))
        rw [own_snd] at main
        exact PS.imp main fun D0 σ H h => read D0 σ H h
  | .tset is e, st, X, O, hN, h => by
    simp only [chkS] at h
    split at h <;> try (cases h; done)
    simp only [Bool.and_eq_true, Bool.not_eq_true'] at h
    obtain ⟨⟨⟨h1, h2⟩, h3⟩, h4⟩ := h
    obtain ⟨k1, k2, k3⟩ := chkTs_ok hN O.ok.nd (fun z _ => O.fn1 z) h1
    refine PS.imp (ps_asg (sndE (fu := fu) e _ X O.ok hN h4).pe (sg_tup O.ok.calm k1 k2 k3) (no_swapS h3) (not_tup h2) rfl) fun D0 σ H ⟨M, ρ, S, Λ, fl, S', R, RE, h, q⟩ => ?_
    simp only [run, Option.bind_eq_some_iff, Option.map_eq_some_iff, Prod.mk.injEq] at h
    obtain ⟨⟨d, S1⟩, h1, ρ1, h2, rfl, rfl⟩ := h
    exact tE_of R RE h1 fun v H1 Λ1 s1 R1 r1 => ⟨M, Λ1, S1, ρ, d, ρ1, R1, RE.step R s1, r1, h2, fun σ' RE' _ => q H1 Λ1 s1 R1 σ' RE'⟩
  | .par is es, st, X, O, hN, h => by
    simp only [chkS] at h
    split at h <;> try (cases h; done)
    simp only [Bool.and_eq_true, Bool.or_eq_true, decide_eq_true_eq] at h
    obtain ⟨⟨⟨⟨h1, h2⟩, hnd⟩, hlt⟩, h3⟩ := h
    rename_i ts kt pt ys k2 pt2 sp
    have ha := sndEs (fu := fu) es _ X O.ok hN h2
    rcases h3 with h3 | h3
    · obtain ⟨⟨⟨hk, e5⟩, e6⟩, h3⟩ := h3
      split at h3 <;> try (cases h3; done)
      rename_i xs hp
      simp only [Bool.and_eq_true, Bool.or_eq_true, decide_eq_true_eq] at h3
      obtain ⟨⟨e2, e3⟩, e4⟩ := h3
      exact par_sw O.ok.calm O.ok.nd hN (fun z _ => O.fn1 z) h1 hnd hk hp ha e2 e3 e4 (by simpa using e5) (by simpa using e6)
    · obtain ⟨q1, q2, q3⟩ := chkTs_ok hN O.ok.nd (fun z _ => O.fn1 z) h1
      have hno := par_no (k := kt) (k2 := k2) (p := pt) (p2 := pt2) ha.ns (env := X.env) (ts := ts) (by
        rcases h3 with (h3 | h3) | h3
        · exact .inl (Option.isNone_iff_eq_none.mp h3)
        · exact .inr (.inl h3)
        · refine .inr (.inr fun z => ?_)
          simp only [Bool.not_eq_true', Bool.or_eq_false_iff, decide_eq_false_iff_not] at h3
          exact z.elim h3.1 h3.2)
      refine PS.imp (ps_asg (se_tup ha.pa) (sg_tup O.ok.calm q1 q2 q3) rfl hno rfl) fun D0 σ H ⟨M, ρ, S, Λ, fl, S', R, RE, h, q⟩ => ?_
      simp only [run, Option.bind_eq_some_iff, Option.map_eq_some_iff, Prod.mk.injEq] at h
      obtain ⟨⟨ds, S1⟩, h1, ρ1, h2, rfl, rfl⟩ := h
      have hl := setAll_len h2
      refine tE_of (d := .tup ds) R RE (by simp only [h1, Option.bind_some]; rw [if_pos (by rw [hl]; unfold line; omega)]) fun v H1 Λ1 s1 R1 r1 => ⟨M, Λ1, S1, ρ, .tup ds, ρ1, R1, RE.step R s1, r1, h2, fun σ' RE' _ => q H1 Λ1 s1 R1 σ' RE'⟩
  | .setI o i e, st, X, O, hN, h => by
    simp only [chkS] at h
    split at h <;> try (cases h; done)
    simp only [Bool.and_eq_true] at h
    obtain ⟨⟨⟨h0, h1⟩, h2⟩, h3⟩ := h
    rename_i y z tp w sp
    have main := ps_asg (pos := sp) (tg := .Subscript y z tp) (sndE (fu := fu) e _ X O.ok hN h1).pe (pg_sub (sndE (fu := fu) o _ X O.ok hN h2).pe (sndE (fu := fu) i _ X O.ok hN h3).pe (setR O.ok.units) (plain_asg h0)) (swap_sub) (swapped_sub) rfl
    refine PS.imp main fun D0 σ H ⟨M, ρ, S, Λ, fl, S', R, RE, h, q⟩ => ?_
    simp only [run, Option.bind_eq_some_iff, Option.map_eq_some_iff, Prod.mk.injEq] at h
    obtain ⟨⟨d, S1⟩, h1, ⟨x, S2⟩, h2, ⟨j, S3⟩, h3, S4, h4, rfl, rfl⟩ := h
    refine tE_of R RE h1 fun v H1 Λ1 s1 R1 r1 => tE_of R1 (RE.step R s1) h2 fun v2 H2 Λ2 s2 R2 r2 => tE_of R2 ((RE.step R s1).step R1 s2) h3 fun v3 H3 Λ3 s3 R3 r3 => ?_
    exact ⟨M, Λ3, S3, x, j, d, S4, R3, r2.step R2 s3, r3, (r1.step R1 s2).step R2 s3, h4, fun H4 R4 s4 => q H4 Λ3 (s1.trans (s2.trans (s3.trans s4))) R4 σ ((((RE.step R s1).step R1 s2).step R2 s3).step R3 s4)⟩
  | .aug i o e, st, X, O, hN, h => by
    simp only [chkS] at h
    split at h <;> try (cases h; done)
    simp only [Bool.and_eq_true, Bool.or_eq_true, decide_eq_true_eq] at h
    obtain ⟨⟨⟨h1, rfl⟩, h2⟩, h3⟩ := h
    obtain ⟨y, p, ey, k1, k2, k3⟩ := chkT_ok h1 hN O.ok.nd (fun z _ => O.fn1 z)
    cases ey
    refine PS.imp (ps_aug O.ok.nd k1 k2 (sndE (fu := fu) e _ X O.ok hN h3).pe (aug_ok h2) k3) fun D0 σ H ⟨M, ρ, S, Λ, fl, S', R, RE, h, q⟩ => ?_
    simp only [run] at h
    split at h <;> try (cases h; done)
    rename_i d hd
    split at h <;> try (cases h; done)
    rename_i hok
    simp only [Option.bind_eq_some_iff] at h
    obtain ⟨⟨b, S1⟩, h4, h5⟩ := h
    split at h5 <;> try (cases h5; done)
    rename_i c hc
    cases h5
    obtain ⟨v, ev1, rv⟩ := RE.2 i d hd
    refine ⟨v, ev1, tE_of R RE h4 fun w H1 Λ1 s1 R1 r1 => ⟨M, Λ1, S1, d, b, c, R1, rv.step R s1, r1, hok, hc, fun u H2 sm ru => ?_⟩⟩
    exact q H2 Λ1 (s1.trans (Step.same sm)) (R1.same sm) _ (((RE.step R s1).step R1 (Step.same sm)).set ru i)
  | .ret e, st, X, O, hN, h => by
    simp only [chkS] at h
    split at h <;> try (cases h; done)
    refine PS.imp (ps_ret (sndE (fu := fu) e _ X O.ok hN h).pe) fun D0 σ H ⟨M, ρ, S, Λ, fl, S', R, RE, h, q⟩ => ?_
    obtain ⟨d, h1, rfl⟩ := fl_one (k := fun d => .rt d) h
    exact tE_of R RE h1 fun v H1 Λ1 s1 R1 r1 => q H1 Λ1 s1 R1 v r1
  | .retn, st, X, O, hN, h => by
    simp only [chkS] at h
    split at h <;> try (cases h; done)
    refine PS.imp ps_retN fun D0 σ H ⟨M, ρ, S, Λ, fl, S', R, RE, h, q⟩ => ?_
    cases h
    exact q H Λ Step.refl R _ .non
  | .ite c a b, st, X, O, hN, h => by
    simp only [chkS] at h
    split at h <;> try (cases h; done)
    simp only [Bool.and_eq_true] at h
    refine PS.imp (ps_if (sndE (fu := fu) c _ X O.ok hN h.1.1).pt (sndSs a _ X O hN h.1.2) (sndSs b _ X O hN h.2)) fun D0 σ H ⟨M, ρ, S, Λ, fl, S', R, RE, h, q⟩ => ?_
    simp only [run, Option.bind_eq_some_iff] at h
    obtain ⟨⟨d, S1⟩, h1, h2⟩ := h
    split at h2 <;> try (cases h2; done)
    rename_i k ed
    simp only at ed
    subst ed
    cases k with
    | true =>
      rw [if_pos rfl] at h2
      exact ⟨M, ρ, S, Λ, true, S1, R, RE, h1, fun H1 Λ1 s1 R1 => iteT ⟨M, ρ, S1, Λ1, fl, S', R1, RE.step R s1, h2, fun H2 Λ2 s2 R2 => q H2 Λ2 (s1.trans s2) R2⟩⟩
    | false =>
      rw [if_neg Bool.false_ne_true] at h2
      exact ⟨M, ρ, S, Λ, false, S1, R, RE, h1, fun H1 Λ1 s1 R1 => iteF ⟨M, ρ, S1, Λ1, fl, S', R1, RE.step R s1, h2, fun H2 Λ2 s2 R2 => q H2 Λ2 (s1.trans s2) R2⟩⟩
  | .whl c b, st, X, O, hN, h => by
    simp only [chkS] at h
    split at h <;> try (cases h; done)
    simp only [Bool.and_eq_true] at h
    exact PS.imp (ps_while O.po (sndE (fu := fu) c _ X O.ok hN h.1).pt (sndSs b _ X O hN h.2)) fun D0 σ H h => while_read h
  | .loop g it b, st, X, O, hN, h => by
    simp only [chkS] at h
    split at h <;> try (cases h; done)
    simp only [Bool.and_eq_true] at h
    obtain ⟨⟨⟨h0, h1⟩, h2⟩, h3⟩ := h
    exact PS.imp (ps_for O.po O.ok.calm (sndI (fu := fu) it _ _ X O.ok hN h2) (chkG_ok O.ok.calm hN O.ok.nd (fun z _ => O.fn1 z) h1) (sndSs b _ X O hN h3) (plain_set h0)) fun D0 σ H h => for_read h
  | .loopD g i b, st, X, O, hN, h => by
    simp only [chkS] at h
    split at h <;> try (cases h; done)
    simp only [Bool.and_eq_true] at h
    obtain ⟨⟨⟨h0, h1⟩, h2⟩, h3⟩ := h
    refine PS.imp (ps_lock (ps_for O.po O.ok.calm (si_of (sndV (fu := fu) (Φ := Φ) O.ok hN h2).pe) (chkG_ok O.ok.calm hN O.ok.nd (fun z _ => O.fn1 z) h1) (sndSs b _ X O hN h3) (plain_set h0))) fun D0 σ H h => loopD_read (fun ρ S d e => by simp only [ev, e]) h
  | .brk, st, X, O, hN, h => by
    simp only [chkS] at h
    split at h <;> try (cases h; done)
    refine PS.imp ps_break fun D0 σ H ⟨M, ρ, S, Λ, fl, S', R, RE, h, q⟩ => ?_
    cases h
    exact q H Λ Step.refl R σ RE
  | .cont, st, X, O, hN, h => by
    simp only [chkS] at h
    split at h <;> try (cases h; done)
    refine PS.imp ps_continue fun D0 σ H ⟨M, ρ, S, Λ, fl, S', R, RE, h, q⟩ => ?_
    cases h
    exact q H Λ Step.refl R σ RE
theorem sndSs : ∀ (t : T) (xs : List Stmt) (X : Cx), OkS G Φ n X → X.N = N → chkSs G N X.env.scope t xs = true → PSs X xs (tSt (run fu Φ t))
  | .skip, xs, X, O, hN, h => by
    simp only [chkSs] at h
    split at h <;> try (cases h; done)
    refine PSs.imp pss_nil fun D0 σ H ⟨M, ρ, S, Λ, fl, S', R, RE, h, q⟩ => ?_
    cases h
    exact q H Λ Step.refl R σ RE
  | .seq a b, xs, X, O, hN, h => by
    simp only [chkSs] at h
    split at h <;> try (cases h; done)
    simp only [Bool.and_eq_true] at h
    refine PSs.imp (pss_cons (sndS a _ X O hN h.1) (sndSs b _ X O hN h.2)) fun D0 σ H ⟨M, ρ, S, Λ, fl, S', R, RE, h, q⟩ => ?_
    simp only [run, Option.bind_eq_some_iff] at h
    obtain ⟨⟨f, S1⟩, h1, h2⟩ := h
    refine ⟨M, ρ, S, Λ, f, S1, R, RE, h1, fun H1 Λ1 s1 R1 => ?_⟩
    cases f with
    | nx ρ1 => exact fun σ1 RE1 => ⟨M, ρ1, S1, Λ1, fl, S', R1, RE1, h2, fun H2 Λ2 s2 R2 => q H2 Λ2 (s1.trans s2) R2⟩
    | _ =>
      cases h2
      exact q H1 Λ1 s1 R1
  | .never, xs, X, O, hN, h => PSs.imp pss_never fun D0 σ H ⟨M, ρ, S, Λ, fl, S', R, RE, h, q⟩ => by cases h
  | .ex _, _, _, _, _, h => by simp [chkSs] at h
  | .set _ _, _, _, _, _, h => by simp [chkSs] at h
  | .tset _ _, _, _, _, _, h => by simp [chkSs] at h
  | .par _ _, _, _, _, _, h => by simp [chkSs] at h
  | .setI _ _ _, _, _, _, _, h => by simp [chkSs] at h
  | .aug _ _ _, _, _, _, _, h => by simp [chkSs] at h
  | .ret _, _, _, _, _, h => by simp [chkSs] at h
  | .retn, _, _, _, _, h => by simp [chkSs] at h
  | .ite _ _ _, _, _, _, _, h => by simp [chkSs] at h
  | .whl _ _, _, _, _, _, h => by simp [chkSs] at h
  | .loop _ _ _, _, _, _, _, h => by simp [chkSs] at h
  | .loopD _ _ _, _, _, _, _, h => by simp [chkSs] at h
  | .brk, _, _, _, _, h => by simp [chkSs] at h
  | .cont, _, _, _, _, h => by simp [chkSs] at h
end
end
end Pd

/-! Pd19: the defs together; the law's promise. -/
namespace Pd
open PySem PySem.Spec PyProof.Rows L2

/-! ### a def's end -/
mutual
theorem eqb_eq : ∀ a b : D, D.eqb a b = true → a = b
  | .non, b, h => by cases b <;> first | rfl | simp [D.eqb] at h
  | .bl x, b, h => by cases b <;> first | (simp only [D.eqb, beq_iff_eq] at h; rw [h]) | simp [D.eqb] at h
  | .int x, b, h => by cases b <;> first | (simp only [D.eqb, decide_eq_true_eq] at h; rw [h]) | simp [D.eqb] at h
  | .str x, b, h => by cases b <;> first | (simp only [D.eqb, decide_eq_true_eq] at h; rw [h]) | simp [D.eqb] at h
  | .ty x, b, h => by cases b <;> first | (simp only [D.eqb, decide_eq_true_eq] at h; rw [h]) | simp [D.eqb] at h
  | .scr x, b, h => by cases b <;> first | (simp only [D.eqb, decide_eq_true_eq] at h; rw [h]) | simp [D.eqb] at h
  | .ref x, b, h => by cases b <;> first | (simp only [D.eqb, decide_eq_true_eq] at h; rw [h]) | simp [D.eqb] at h
  | .tup xs, b, h => by cases b <;> first | (simp only [D.eqb] at h; rw [eqbs_eq _ _ h]) | simp [D.eqb] at h
  | .lv xs, b, h => by cases b <;> first | (simp only [D.eqb] at h; rw [eqbs_eq _ _ h]) | simp [D.eqb] at h
  | .dv t ks vs, b, h => by
    cases b <;> first | (simp [D.eqb] at h; done) | skip
    simp only [D.eqb, Bool.and_eq_true, decide_eq_true_eq] at h
    obtain ⟨⟨rfl, rfl⟩, h⟩ := h
    rw [eqbs_eq _ _ h]
  | .lk c, b, h => by cases b <;> first | (simp only [D.eqb] at h; rw [eqb_eq _ _ h]) | simp [D.eqb] at h
theorem eqbs_eq : ∀ a b : List D, D.eqbs a b = true → a = b
  | [], [], _ => rfl
  | [], _ :: _, h => by simp [D.eqbs] at h
  | _ :: _, [], h => by simp [D.eqbs] at h
  | x :: xs, y :: ys, h => by
    simp only [D.eqbs, Bool.and_eq_true] at h
    rw [eqb_eq _ _ h.1, eqbs_eq _ _ h.2]
end
section
variable {M : Addr → Prop} {Λ n : List Addr} {H H' H2 : Hp} {S S' : Store} {Q : VK}
mutual
theorem clo_of : ∀ {d : D} {v : V}, RV M Λ H d v → clo Λ.length d = true
  | _, _, .non => by simp [clo]
  | _, _, .bl b => by simp [clo]
  | _, _, .int i => by simp [clo]
  | _, _, .str h => by simp [clo]
  | _, _, .ty n => by simp [clo]
  | _, _, .tup h r => by rw [clo]; exact clos_of r
  | _, _, .lst e h m r => by rw [clo]; exact clos_of r
  | _, _, .dct e h m r => cloO_of r
  | _, _, .ref h => by rw [clo]; exact decide_eq_true (List.getElem?_eq_some_iff.mp h).1
  | _, _, .scr e h => by simp [clo]
theorem clos_of : ∀ {ds : List D} {vs : List V}, RVs M Λ H ds vs → cloL Λ.length ds = true
  | _, _, .nil => by simp [cloL]
  | _, _, .cons h r => by rw [cloL, clo_of h, clos_of r]; rfl
theorem cloO_of : ∀ {d : D} {ho : HO}, RO M Λ H d ho → clo Λ.length d = true
  | _, _, .lst r => by rw [clo]; exact clos_of r
  | _, _, .dK k r => by rw [clo]; exact clos_of r
  | _, _, .dT k r => by rw [clo]; exact clos_of r
  | _, _, .lk r => by rw [clo]; exact cloO_of r
end
theorem out_n {a : Addr} (h : a ∉ Λ ++ n) : a ∉ n ∧ a ∉ Λ := ⟨fun z => h (List.mem_append_right _ z), fun z => h (List.mem_append_left _ z)⟩
mutual
/-- what does not speak of the new ones -/
theorem RV.ncut (R : RelS M (Λ ++ n) S' H') (hh : ∀ a, a ∉ n → H2 a = H' a) : ∀ {d : D} {v : V}, RV M (Λ ++ n) H' d v → clo Λ.length d = true → RV M Λ H2 d v
  | _, _, .non, _ => .non
  | _, _, .bl b, _ => .bl b
  | _, _, .int i, _ => .int i
  | _, _, .str h, _ => .str h
  | _, _, .ty n, _ => .ty n
  | _, _, .tup h r, c => .tup (by rw [hh _ (out_n (R.tup_out (.inl h) (by intro z; exact z) (by intro z; exact z))).1]; exact h) (RVs.ncut R hh r (by rwa [clo] at c))
  | _, _, .lst e h m r, c => .lst (by rw [hh _ (out_n h).1]; exact e) (out_n h).2 m (RVs.ncut R hh r (by rwa [clo] at c))
  | _, _, .dct e h m r, c => .dct (by rw [hh _ (out_n h).1]; exact e) (out_n h).2 m (RO.ncut R hh r c)
  | _, _, .ref h, c => .ref (by rw [clo, decide_eq_true_eq] at c; rwa [List.getElem?_append_left c] at h)
  | _, _, .scr e h, c => .scr (by rw [hh _ (out_n h).1]; exact e) (out_n h).2
theorem RVs.ncut (R : RelS M (Λ ++ n) S' H') (hh : ∀ a, a ∉ n → H2 a = H' a) : ∀ {ds : List D} {vs : List V}, RVs M (Λ ++ n) H' ds vs → cloL Λ.length ds = true → RVs M Λ H2 ds vs
  | _, _, .nil, _ => .nil
  | _, _, .cons h r, c => by
    rw [cloL, Bool.and_eq_true] at c
    exact .cons (RV.ncut R hh h c.1) (RVs.ncut R hh r c.2)
theorem RO.ncut (R : RelS M (Λ ++ n) S' H') (hh : ∀ a, a ∉ n → H2 a = H' a) : ∀ {d : D} {ho : HO}, RO M (Λ ++ n) H' d ho → clo Λ.length d = true → RO M Λ H2 d ho
  | _, _, .lst r, c => .lst (RVs.ncut R hh r (by rwa [clo] at c))
  | _, _, .dK k r, c => .dK k (RVs.ncut R hh r (by rwa [clo] at c))
  | _, _, .dT k r, c => .dT k (RVs.ncut R hh r (by rwa [clo] at c))
  | _, _, .lk r, c => .lk (RO.ncut R hh r (by rwa [clo] at c))
end
theorem kept_at {b : Nat} : ∀ {S S' : Store}, kept b S S' = true → ∀ {l : Nat} {c : D}, l < S.length → S'[l]? = some c → S[l]? = some c ∨ clo b c = true
  | [], _, _, _, _, h, _ => absurd h (Nat.not_lt_zero _)
  | c :: S, [], h, _, _, _, _ => by simp [kept] at h
  | c :: S, c' :: S', h, l, d, hl, e => by
    simp only [kept, Bool.and_eq_true, Bool.or_eq_true] at h
    cases l with
    | zero =>
      simp only [List.getElem?_cons_zero, Option.some.injEq] at e ⊢
      subst e
      exact h.1.imp (fun z => (eqb_eq _ _ z).symm) id
    | succ l =>
      simp only [List.getElem?_cons_succ] at e ⊢
      exact kept_at h.2 (by simpa using hl) e
theorem RelS.cut (R0 : RelS M Λ S H) (R : RelS M (Λ ++ n) S' H') (hk : kept Λ.length S S' = true) (hh : ∀ a, a ∉ n → H2 a = H' a) : RelS M Λ (S'.take S.length) H2 := by
  have hl := R.len
  have hl0 := R0.len
  rw [List.length_append] at hl
  have dj := List.nodup_append.mp R.nd
  refine ⟨by rw [List.length_take]; omega, R0.nd, R0.nm, fun a h => ?_, fun l c a e1 e2 => ?_⟩
  · obtain ⟨o, e⟩ := R.mt a h
    exact ⟨o, by rw [hh a (fun z => R.nm a (List.mem_append_right _ z) h)]; exact e⟩
  · have hlt : l < S.length := by rw [hl0]; exact (List.getElem?_eq_some_iff.mp e2).1
    rw [List.getElem?_take_of_lt hlt] at e1
    obtain ⟨ho, e3, r⟩ := R.st l c a e1 (by rw [List.getElem?_append_left (by rw [← hl0]; exact hlt)]; exact e2)
    have ha : a ∉ n := fun z => dj.2.2 a (List.mem_of_getElem? e2) a z rfl
    refine ⟨ho, by rw [hh a ha]; exact e3, RO.ncut R hh r ?_⟩
    rcases kept_at hk hlt e1 with z | z
    · obtain ⟨ho0, _, r0⟩ := R0.st l c a z e2
      exact cloO_of r0
    · exact z
theorem Step.cut (s : Step Λ H (Λ ++ n) H') (hn : ∀ a ∈ n, H a = none) (hh : ∀ a, a ∉ n → H2 a = H' a) : Step Λ H Λ H2 := by
  have no : ∀ {a : Addr} {o : HO}, H a = some o → a ∉ n := fun e z => by rw [hn _ z] at e; cases e
  exact ⟨⟨[], by simp, fun _ h => by cases h⟩, fun a o e h => by rw [hh a (no e)]; exact s.keep a o e h, fun a o e => by rw [hh a (no e)]; exact s.there a o e, fun a o u e => by rw [hh a (no e)]; exact s.frz a o u e⟩
/-! dicts are locked -/
inductive LockN (Q : Hp → Prop) : Hp → Prop
  | done {H : Hp} : Q H → LockN Q H
  | lock {H : Hp} {a : Addr} {u : HO} : H a = some u → Mut (some u) → (∀ od, LockN Q (upd H a (.frz od u))) → LockN Q H
theorem lockN_inv {X : Cx} {pins : List (Addr × Obj)} {σ : L2.St} {s : Shared} {Q : Hp → Prop} {H : Hp} (h : LockN Q H) : Inv X pins σ H s → ∃ H', Inv X pins σ H' s ∧ Q H' := by
  induction h with
  | done q => exact fun I => ⟨_, I, q⟩
  | lock e mu _ ih =>
    intro I
    obtain ⟨od, I2⟩ := Inv.lock I e mu
    exact ih od I2
theorem pss_lockN {X : Cx} {ss : List Stmt} {t : TS} (h : PSs X ss t) : PSs X ss (fun D σ H => t ⟨D.nx, fun v H' => LockN (D.rt v) H', D.bk, D.ct⟩ σ H) := by
  refine ⟨fun pins s σ H D I hw => ?_⟩
  refine thn (h.run pins s σ H _ I hw) fun f s1 q => ?_
  cases f with
  | next => exact q
  | brk => exact q
  | cont => exact q
  | ret v =>
    obtain ⟨x, σ', H', I2, r, q⟩ := q
    obtain ⟨H3, I3, q3⟩ := lockN_inv q I2
    exact ⟨x, σ', H3, I3, r, q3⟩
def LkTo (H : Hp) (a : Addr) (ho : HO) : Prop := match ho with
  | .dK k => ∃ o, H a = some (.frz o (.dK k))
  | .dT k => ∃ o, H a = some (.frz o (.dT k))
  | _ => H a = some ho
theorem lock_all : ∀ {n : List Addr} {H' : Hp} {Q : Hp → Prop}, n.Nodup → (∀ a ∈ n, ∃ ho, H' a = some ho) → (∀ H2, (∀ a, a ∉ n → H2 a = H' a) → (∀ a ∈ n, ∀ ho, H' a = some ho → LkTo H2 a ho) → Q H2) → LockN Q H'
  | [], H', Q, _, _, q => .done (q H' (fun _ _ => rfl) fun _ h => (List.not_mem_nil h).elim)
  | a :: n, H', Q, nd, hp, q => by
    obtain ⟨ho, e⟩ := hp a List.mem_cons_self
    have na : a ∉ n := (List.nodup_cons.mp nd).1
    have ndn := (List.nodup_cons.mp nd).2
    have lk : Mut (some ho) → (∀ H2 : Hp, (∃ o, H2 a = some (.frz o ho)) → LkTo H2 a ho) → LockN Q H' := fun mu tk => by
      refine .lock e mu fun od => lock_all ndn (fun b hb => ?_) fun H2 h1 h2 => q H2 (fun b hb => ?_) fun b hb hb' eb => ?_
      · obtain ⟨hb', eb⟩ := hp b (List.mem_cons_of_mem _ hb)
        exact ⟨hb', by rw [upd_ne (fun z => na (by rw [← z]; exact hb))]; exact eb⟩
      · rw [h1 b (fun z => hb (List.mem_cons_of_mem _ z)), upd_ne (fun z => hb (by rw [z]; exact List.mem_cons_self))]
      · rcases List.mem_cons.mp hb with rfl | hb
        · rw [e] at eb
          cases eb
          exact tk H2 ⟨od, by rw [h1 b na, upd_same]⟩
        · exact h2 b hb hb' (by rw [upd_ne (fun z => na (by rw [← z]; exact hb))]; exact eb)
    have no : LkTo H' a ho → (∀ H2 : Hp, H2 a = H' a → LkTo H2 a ho) → LockN Q H' := fun _ tk => by
      refine lock_all ndn (fun b hb => hp b (List.mem_cons_of_mem _ hb)) fun H2 h1 h2 => q H2 (fun b hb => h1 b fun z => hb (List.mem_cons_of_mem _ z)) fun b hb hb' eb => ?_
      rcases List.mem_cons.mp hb with rfl | hb
      · rw [e] at eb
        cases eb
        exact tk H2 (h1 b na)
      · exact h2 b hb hb' eb
    cases ho with
    | dK k => exact lk trivial fun _ h => h
    | dT k => exact lk trivial fun _ h => h
    | _ => exact no e fun H2 h => by show H2 a = _; rw [h]; exact e
mutual
theorem shutD_rv (R : RelS M (Λ ++ n) S' H') (hh : ∀ a, a ∉ n → H2 a = H' a) {k : Nat → Option D} (hk : ∀ l d' a, ¬ l < Λ.length → k l = some d' → (Λ ++ n)[l]? = some a → RV M Λ H2 d' (.ref a)) :
    ∀ {d : D} {v : V} {d' : D}, RV M (Λ ++ n) H' d v → shutD Λ.length k d = some d' → RV M Λ H2 d' v
  | _, _, _, .non, e => by cases e; exact .non
  | _, _, _, .bl b, e => by cases e; exact .bl b
  | _, _, _, .int i, e => by cases e; exact .int i
  | _, _, _, .str h, e => by cases e; exact .str h
  | _, _, _, .ty n, e => by cases e; exact .ty n
  | _, _, _, .tup h r, e => by
    rw [shutD, Option.map_eq_some_iff] at e
    obtain ⟨xs', e, rfl⟩ := e
    exact .tup (by rw [hh _ (out_n (R.tup_out (.inl h) (by intro z; exact z) (by intro z; exact z))).1]; exact h) (shutL_rv R hh hk r e)
  | _, _, _, .lst e0 h m r, e => by
    rw [shutD, Option.map_eq_some_iff] at e
    obtain ⟨xs', e, rfl⟩ := e
    exact .lst (by rw [hh _ (out_n h).1]; exact e0) (out_n h).2 m (shutL_rv R hh hk r e)
  | _, _, _, .dct e0 h m r, e => by
    rw [shutD, Option.map_eq_some_iff] at e
    obtain ⟨xs', e, rfl⟩ := e
    exact .dct (by rw [hh _ (out_n h).1]; exact e0) (out_n h).2 m (shutO_rv R hh hk r e)
  | _, _, _, .ref h, e => by
    rw [shutD] at e
    split at e
    · rename_i hl
      cases e
      exact .ref (by rwa [List.getElem?_append_left hl] at h)
    · rename_i hl
      exact hk _ _ _ hl e h
  | _, _, _, .scr e0 h, e => by cases e; exact .scr (by rw [hh _ (out_n h).1]; exact e0) (out_n h).2
theorem shutL_rv (R : RelS M (Λ ++ n) S' H') (hh : ∀ a, a ∉ n → H2 a = H' a) {k : Nat → Option D} (hk : ∀ l d' a, ¬ l < Λ.length → k l = some d' → (Λ ++ n)[l]? = some a → RV M Λ H2 d' (.ref a)) :
    ∀ {d : List D} {v : List V} {d' : List D}, RVs M (Λ ++ n) H' d v → shutL Λ.length k d = some d' → RVs M Λ H2 d' v
  | _, _, _, .nil, e => by cases e; exact .nil
  | _, _, _, .cons h r, e => by
    simp only [shutL, Option.bind_eq_some_iff, Option.map_eq_some_iff] at e
    obtain ⟨y, e1, ys, e2, rfl⟩ := e
    exact .cons (shutD_rv R hh hk h e1) (shutL_rv R hh hk r e2)
theorem shutO_rv (R : RelS M (Λ ++ n) S' H') (hh : ∀ a, a ∉ n → H2 a = H' a) {k : Nat → Option D} (hk : ∀ l d' a, ¬ l < Λ.length → k l = some d' → (Λ ++ n)[l]? = some a → RV M Λ H2 d' (.ref a)) :
    ∀ {t : Bool} {ks : List DK} {ds ds' : List D} {ho : HO}, RO M (Λ ++ n) H' (.dv t ks ds) ho → shutL Λ.length k ds = some ds' → RO M Λ H2 (.dv t ks ds') ho
  | _, _, _, _, _, .dK z r, e => .dK z (shutL_rv R hh hk r e)
  | _, _, _, _, _, .dT z r, e => .dT z (shutL_rv R hh hk r e)
end
theorem kN_rv (R : RelS M (Λ ++ n) S' H') (hh : ∀ a, a ∉ n → H2 a = H' a) (hl : ∀ a ∈ n, ∀ ho, H' a = some ho → LkTo H2 a ho) : ∀ (m l : Nat) (d' : D) (a : Addr), ¬ l < Λ.length → kN Λ.length S' m l = some d' → (Λ ++ n)[l]? = some a → RV M Λ H2 d' (.ref a)
  | 0, _, _, _, _, h, _ => by cases h
  | m + 1, l, d', a, hlt, h, ea => by
    simp only [kN, Option.bind_eq_some_iff] at h
    obtain ⟨c, h1, h2⟩ := h
    obtain ⟨ho, e1, r⟩ := R.st l c a h1 ea
    have hn : a ∈ n := by
      rw [List.getElem?_append_right (Nat.le_of_not_lt hlt)] at ea
      exact List.mem_of_getElem? ea
    have hL : a ∉ Λ := fun z => (List.nodup_append.mp R.nd).2.2 a z a hn rfl
    have hM := R.nm a (List.mem_of_getElem? ea)
    have lk := hl a hn ho e1
    have ih := kN_rv R hh hl m
    cases r with
    | lst r =>
      rw [shutD, Option.map_eq_some_iff] at h2
      obtain ⟨xs', h2, rfl⟩ := h2
      exact .lst lk hL hM (shutL_rv R hh ih r h2)
    | dK k r =>
      rw [shutD, Option.map_eq_some_iff] at h2
      obtain ⟨xs', h2, rfl⟩ := h2
      obtain ⟨o, lk⟩ := lk
      exact .dct lk hL hM (.dK k (shutL_rv R hh ih r h2))
    | dT k r =>
      rw [shutD, Option.map_eq_some_iff] at h2
      obtain ⟨xs', h2, rfl⟩ := h2
      obtain ⟨o, lk⟩ := lk
      exact .dct lk hL hM (.dT k (shutL_rv R hh ih r h2))
    | lk r => cases h2
/-- a def's end, in the heap -/
theorem end_rv {H0 : Hp} (R0 : RelS M Λ S H0) {Λ' : List Addr} (s : Step Λ H0 Λ' H') (R : RelS M Λ' S' H') {d d' : D} {v : V} (r : RV M Λ' H' d v) (hk : kept S.length S S' = true) (hs : shutN S.length S' 4 d = some d') {Q : Hp → Prop}
    (q : ∀ H2, Step Λ H0 Λ H2 → RelS M Λ (S'.take S.length) H2 → RV M Λ H2 d' v → Q H2) : LockN Q H' := by
  obtain ⟨n, rfl, hn⟩ := s.ext
  have dj := List.nodup_append.mp R.nd
  refine lock_all dj.2.1 (fun a ha => ?_) fun H2 h1 h2 => ?_
  · obtain ⟨_, _, ho, _, _, e, _⟩ := R.addr (List.mem_append_right Λ ha)
    exact ⟨ho, e⟩
  · rw [R0.len] at hk hs
    have c := R0.cut R hk h1
    exact q H2 (s.cut hn h1) c (shutD_rv R h1 (kN_rv R h1 h2 4) r hs)
end
theorem scC_ok {N P : List Str} {sc : Scope} (h : C8.scC N P sc = true) : FnScope N P sc := C8.fnScope_by h
structure DefAt (K : PySem.W.Frag) (mg : Str → Option Value) (G : Sig) (g : Fn) (a : Addr) (fd : FuncData) (st : Stmt) : Prop where
  fn : L2.Fun K g.nm g.nm st a fd
  mgf : mg g.nm = some (.ref a)
  keep : PySem.W.keepIn K (.ref a) = true
  bind : Binds K fd g.ps []
  sc : C8.scC g.N g.ps (defScope st) = true
  chk : chkSs G g.N (defScope st) g.body (defBody st) = true
theorem look_find {L : List Fn} {f : Str} {ps : List Str} (h : (L.map fun g => (g.nm, g.ps)).lookup f = some ps) : ∃ g ∈ L, L.find? (fun h => h.nm == f) = some g ∧ g.ps = ps ∧ g.nm = f := by
  induction L with
  | nil => cases h
  | cons g L ih =>
    rw [List.map_cons, List.lookup_cons] at h
    by_cases e : f = g.nm
    · subst e
      simp only [beq_self_eq_true] at h
      cases h
      exact ⟨g, List.mem_cons_self, by rw [List.find?_cons]; simp, rfl, rfl⟩
    · have e1 : (f == g.nm) = false := by simpa using e
      rw [e1] at h
      obtain ⟨g', h1, h2, h3, h4⟩ := ih h
      refine ⟨g', List.mem_cons_of_mem _ h1, ?_, h3, h4⟩
      rw [List.find?_cons]
      have e2 : (g.nm == f) = false := by simpa using fun z => e z.symm
      rw [e2]
      exact h2
theorem start_rel {M : Addr → Prop} {Λ : List Addr} {H : Hp} {ds : List D} {vs : List V} (r : RVs M Λ H ds vs) (N : List Str) : RelE M Λ H (startE N.length ds) (L2.start N vs) := by
  unfold startE L2.start
  refine ⟨by simp [r.length], fun i d h => ?_⟩
  by_cases hi : i < (ds.map some).length
  · rw [List.getElem?_append_left hi, List.getElem?_map, Option.map_eq_some_iff] at h
    obtain ⟨d', h1, h2⟩ := h
    cases h2
    obtain ⟨v, ev, rv⟩ := r.get h1
    refine ⟨v, ?_, rv⟩
    rw [List.getElem?_append_left (by simpa [← r.length] using hi), List.getElem?_map, ev]
    rfl
  · rw [List.getElem?_append_right (Nat.le_of_not_lt hi), List.getElem?_replicate] at h
    split at h <;> cases h
section
variable {P : Program} {w : World} {K : PySem.W.Frag} {mg : Str → Option Value} {base : Heap}
theorem prog_ok {L : List Fn} {fu : Nat} {G : Sig} (hG : G.fns = L.map fun g => (g.nm, g.ps)) (hd : ∀ g ∈ L, ∃ a fd st, DefAt K mg G g a fd st) (hblt : ∀ x ∈ bltNames, mg x = none)
    (hgv : ∀ x d, G.gvs.lookup x = some d → ∃ v u, mg x = some u ∧ RelV v u ∧ ∀ M Λ H, RV M Λ H d v) :
    ∀ (n : Nat) (g : Fn) (a : Addr) (fd : FuncData) (st : Stmt), L.find? (fun h => h.nm == g.nm) = some g → DefAt K mg G g a fd st → FnG P w K mg base CX0 n a fd g.ps (spC (callN fu L n) g.nm g.ps.length)
  | 0, g, a, fd, st, hf, D0 => by
    constructor
    · intro vs H Q E ⟨M, Λ, S, ds, d, S', R, rs, hl, e, q⟩
      cases e
    · intro A outer s H args us vs Q E hr he hb hv ⟨M, Λ, S, ds, d, S', R, rs, hl, e, q⟩
      cases e
  | n + 1, g, a, fd, st, hf, D0 => by
    have S0 := scC_ok D0.sc
    refine fnG_of D0.fn S0 (fun vs H Q E h => ?_) (fun cdv A outer s H vs Q E hr h0 h => ?_)
    · obtain ⟨M, Λ, S, ds, d, S', R, rs, hl, e, q⟩ := h
      rw [← rs.length, hl]
    · obtain ⟨M, Λ, S, ds, d, S', R, rs, hl, e, q⟩ := h
      have O : OkS G (callN fu L n) n (cxOf CX0 P w K mg base g.N g.nm (defScope st) a cdv A outer s H E).nox := by
        refine ⟨⟨S0.nd, rfl, hr, h0, hblt, fun f ps hl' => ?_, hgv⟩, PassesOwn.never, fun _ => rfl⟩
        rw [hG] at hl'
        obtain ⟨g', h1, h2, rfl, rfl⟩ := look_find hl'
        obtain ⟨a', fd', st', D1⟩ := hd g' h1
        exact ⟨a', fd', D1.mgf, D1.keep, D1.bind, prog_ok hG hd hblt hgv n g' a' fd' st' h2 D1⟩
      refine ⟨_, (pss_lockN (sndSs (fu := fu) (Φ := callN fu L n) g.body (defBody st) _ O rfl D0.chk)).nox, ?_⟩
      simp only [callN, hf, hl, if_true, Option.bind_eq_some_iff] at e
      obtain ⟨⟨fl, S1⟩, e1, e2⟩ := e
      refine ⟨M, _, S, Λ, fl, S1, R, start_rel rs g.N, e1, fun H' Λ' s' R' => ?_⟩
      simp only [endC, Option.bind_eq_some_iff] at e2
      obtain ⟨d1, e2, e3⟩ := e2
      split at e3
      · cases e3
        cases fl with
        | rt d' =>
          cases e2
          exact fun v r => .done (q v H' Λ' s' R' r)
        | nx ρ' =>
          cases e2
          exact fun σ' _ => q .non H' Λ' s' R' .non
        | bk _ => cases e2
        | ct _ => cases e2
      · split at e3 <;> try (cases e3; done)
        rename_i hk
        simp only [Option.map_eq_some_iff, Prod.mk.injEq] at e3
        obtain ⟨d2, e3, rfl, rfl⟩ := e3
        cases fl with
        | rt d' =>
          cases e2
          exact fun v r => end_rv R s' R' r hk e3 fun H2 a1 a2 a3 => q v H2 Λ a1 a2 a3
        | nx ρ' =>
          cases e2
          cases e3
          intro σ' _
          obtain ⟨n', rfl, hn'⟩ := s'.ext
          rw [R.len] at hk
          exact q .non H' Λ (s'.cut hn' fun _ _ => rfl) (R.cut R' hk fun _ _ => rfl) .non
        | bk _ => cases e2
        | ct _ => cases e2
end
def listCls : Value → Bool
  | .type n => n == "list"
  | _ => false
def noLists (K : PySem.W.Frag) : Bool := K.all fun p => !listCls p.2.cls
theorem noList {K : PySem.W.Frag} (h : noLists K = true) {a : Addr} {o : Obj} (e : K.lookup a = some o) : o.cls ≠ .type "list" := by
  have hm : (a, o) ∈ K := by
    clear h
    induction K with
    | nil => cases e
    | cons p K ih =>
      obtain ⟨b, u⟩ := p
      rw [List.lookup_cons] at e
      split at e
      · rename_i z
        cases e
        rw [beq_iff_eq] at z
        subst z
        exact List.mem_cons_self
      · exact List.mem_cons_of_mem _ (ih e)
  intro z
  have := List.all_eq_true.mp h _ hm
  simp only [z] at this
  cases this
/-- what the law is to give of the evaluator -/
def LawT (L : List Fn) (fu n most : Nat) : Prop := ∀ ns : List Int, ns.length ≤ most → ∃ S, callN fu L n "law" [.scr ns] [] = some (.bl true, S)
theorem law_sp {K : PySem.W.Frag} (hK : noLists K = true) {L : List Fn} {fu n most : Nat} (T0 : LawT L fu n most) {H : Hp} {a : Addr} {ns : List Int} (hl : ns.length ≤ most) (hO : Only H) (hS : SqL K H a (ns.map V.int)) :
    spC (callN fu L n) "law" 1 [.ref a] H (fun v _ => v = .bl true) fun _ _ _ => False := by
  obtain ⟨S, e⟩ := T0 ns hl
  have hf : ∃ o, H a = some (.frz o (.lst (ns.map V.int))) := by
    rcases hS with (h | ⟨o, h⟩) | ⟨o, its, m, h1, h2, _⟩
    · rcases hO a with z | ⟨o, xs, z⟩
      · rw [z] at h; cases h
      · rw [z] at h; cases h
    · exact ⟨o, h⟩
    · exact absurd h2 (noList hK h1)
  obtain ⟨o, hf⟩ := hf
  refine ⟨fun _ => False, [], [], [.scr ns], _, S, ⟨rfl, List.nodup_nil, fun _ h => (List.not_mem_nil h).elim, fun _ h => h.elim, fun l c a' h1 h2 => by simp at h1⟩, .cons (.scr hf (by simp)) .nil, rfl, e, fun v H' Λ' s R r => bl_of r⟩
end Pd

/-! Pd20: from the written part to the promise. -/
namespace Pd
open PySem PySem.Spec PyProof.Rows L2

section
variable {P : Program} {w : World} {K : PySem.W.Frag} {mg : Str → Option Value} {h : Heap}
theorem mkAt {G : Sig} {g : Fn} {st : Stmt} {f : Addr} {oc kV dc pm cd ct : Value} {od an : Option Addr} {sl : Array (Option Value)} (X : K.In h) (Gn : h.Ns mainGlobals mg)
    (hc : (C8.scC g.N g.ps (defScope st) && chkSs G g.N (defScope st) g.body (defBody st)) = true)
    (hb : ∀ (kV doc pm : Value) (an : Option Addr) (cdv ct : Value) (us : List Value), us.length = g.ps.length → bindArgs (PySem.W.fnOf g.nm g.nm (defArgs st) (defBody st) (defScope st) .none kV doc pm an cdv ct) ⟨us, []⟩ = pure (g.ps.zip us))
    (a1 : PySem.W.nsIn K mainGlobals g.nm = some (some (.ref f))) (l1 : K.lookup f = some ⟨oc, od, .func (PySem.W.fnOf g.nm g.nm (defArgs st) (defBody st) (defScope st) .none kV dc pm an cd ct), sl⟩)
    (c1 : PySem.W.codeIn K cd g.nm = true) (k1 : PySem.W.keepIn K (.ref f) = true) : DefAt K mg G g f (PySem.W.fnOf g.nm g.nm (defArgs st) (defBody st) (defScope st) .none kV dc pm an cd ct) st := by
  rw [Bool.and_eq_true] at hc
  have F1 := fun_mk (st := st) l1 c1 k1
  exact ⟨F1, PySem.W.mg_of X Gn a1, k1, F1.binds hb, hc.1, hc.2⟩
theorem gv_int {x : Str} {i : Int} {t : Tok} (X : K.In h) (Gn : h.Ns mainGlobals mg) (a1 : PySem.W.nsIn K mainGlobals x = some (some (.int i t))) : ∃ v u, mg x = some u ∧ RelV v u ∧ ∀ M Λ H, RV M Λ H (.int i) v :=
  ⟨.int i, _, PySem.W.mg_of X Gn a1, ⟨t, rfl⟩, fun _ _ _ => .int i⟩
theorem gv_str {x : Str} {c : List Nat} {t : Tok} (X : K.In h) (Gn : h.Ns mainGlobals mg) (hc : okC c = true) (a1 : PySem.W.nsIn K mainGlobals x = some (some (.str (sOf c) t))) : ∃ v u, mg x = some u ∧ RelV v u ∧ ∀ M Λ H, RV M Λ H (.str c) v :=
  ⟨.str (sOf c), _, PySem.W.mg_of X Gn a1, ⟨t, rfl⟩, fun _ _ _ => .str (okC_S hc)⟩
theorem look_mem {α : Type} {l : List (Str × α)} {x : Str} {d : α} (h : l.lookup x = some d) : (x, d) ∈ l := by
  induction l with
  | nil => cases h
  | cons p l ih =>
    obtain ⟨y, e⟩ := p
    rw [List.lookup_cons] at h
    split at h
    · rename_i z
      cases h
      rw [beq_iff_eq] at z
      subst z
      exact List.mem_cons_self
    · exact List.mem_cons_of_mem _ (ih h)
theorem law_mk {L : List Fn} {G : Sig} {gL : Fn} {fu n : Nat} {fa fL : Addr} {fdL : FuncData} {stL : Stmt} (hG : G.fns = L.map fun g => (g.nm, g.ps)) (hfind : L.find? (fun g => g.nm == gL.nm) = some gL) (hn : gL.nm = "law") (hps : gL.ps = [("script" : Str)])
    (hfa : mg "law" = some (.ref fa)) (dL : DefAt K mg G gL fL fdL stL) (hbind : ∀ (s : Shared) (v : Value), BindsTo s fdL ⟨[v], []⟩ [("script", v)])
    (hd : ∀ g ∈ L, ∃ a fd st, DefAt K mg G g a fd st) (hblt : ∀ x ∈ bltNames, mg x = none) (hgv : ∀ p ∈ G.gvs, ∃ v u, mg p.1 = some u ∧ RelV v u ∧ ∀ M Λ H, RV M Λ H p.2 v) :
    ∃ fd : FuncData, (∀ (s : Shared) (v : Value), BindsTo s fd ⟨[v], []⟩ [("script", v)]) ∧ ∀ base : Heap, K.In base → base.Ns mainGlobals mg → FnG P w K mg base CX0 n fa fd ["script"] (spC (callN fu L n) "law" 1) := by
  have e := hfa.symm.trans (hn ▸ dL.mgf)
  cases e
  refine ⟨fdL, hbind, fun base _ _ => ?_⟩
  have := prog_ok (P := P) (w := w) (base := base) (fu := fu) hG hd hblt (fun x d h => hgv (x, d) (look_mem h)) n gL fa fdL stL hfind dL
  rw [hn, hps] at this
  exact this
end
end Pd

/-! Pd21: laws of the evaluator. -/
namespace Pd
open PySem PySem.Spec PyProof.Rows L2

theorem callN_at {L : List Fn} {fu m : Nat} {f : Str} {g : Fn} {ds : List D} {S : Store} (hf : L.find? (fun h => h.nm == f) = some g) (hl : ds.length = g.ps.length) :
    callN fu L (m + 1) f ds S = (run fu (callN fu L m) g.body (startE g.N.length ds) S).bind (endC g.own S) := by
  show (match L.find? (fun g => g.nm == f) with
    | none => none
    | some g => if ds.length = g.ps.length then (run fu (callN fu L m) g.body (startE g.N.length ds) S).bind (endC g.own S) else none) = _
  rw [hf]
  simp only [hl, if_true]
/-! ### values without places -/
mutual
def pureB : D → Bool
  | .tup xs => pureL xs
  | .lv xs => pureL xs
  | .dv _ _ vs => pureL vs
  | .ref _ => false
  | .lk _ => false
  | .non | .bl _ | .int _ | .str _ | .ty _ | .scr _ => true
def pureL : List D → Bool
  | [] => true
  | x :: xs => pureB x && pureL xs
end
theorem pb_non : pureB .non = true := by rw [pureB]
theorem pb_bl (b : Bool) : pureB (.bl b) = true := by rw [pureB]
theorem pb_int (i : Int) : pureB (.int i) = true := by rw [pureB]
theorem pb_str (c : List Nat) : pureB (.str c) = true := by rw [pureB]
theorem pb_tup (xs : List D) : pureB (.tup xs) = pureL xs := by rw [pureB]
theorem pb_lv (xs : List D) : pureB (.lv xs) = pureL xs := by rw [pureB]
theorem pb_dv (t : Bool) (ks : List DK) (xs : List D) : pureB (.dv t ks xs) = pureL xs := by rw [pureB]
theorem pl_nil : pureL [] = true := by rw [pureL]
theorem pl_cons (x : D) (xs : List D) : pureL (x :: xs) = (pureB x && pureL xs) := by rw [pureL]
theorem pureL_all : ∀ xs : List D, pureL xs = xs.all pureB
  | [] => rfl
  | x :: xs => by rw [pureL, pureL_all xs, List.all_cons]
theorem pureL_of {xs : List D} (h : ∀ x ∈ xs, pureB x = true) : pureL xs = true := by rw [pureL_all, List.all_eq_true]; exact h
theorem pureL_map {α : Type} {f : α → D} {l : List α} (h : ∀ x, pureB (f x) = true) : pureL (l.map f) = true := pureL_of fun x hx => by
  obtain ⟨y, _, rfl⟩ := List.mem_map.mp hx
  exact h y
theorem pureL_mem {xs : List D} (h : pureL xs = true) {x : D} (hx : x ∈ xs) : pureB x = true := by
  rw [pureL_all, List.all_eq_true] at h
  exact h x hx
theorem pu_ints (l : List Int) : pureL (l.map .int) = true := pureL_map fun _ => rfl
theorem pu_strs (l : List (List Nat)) : pureL (l.map .str) = true := pureL_map fun _ => rfl
theorem pu_sgn (l : List Nat) : pureL (l.map fun c => .str [c]) = true := pureL_map fun _ => rfl
theorem pu_nat (l : List Nat) : pureL (l.map fun i : Nat => .int (i : Int)) = true := pureL_map fun _ => rfl
mutual
theorem pure_clo (b : Nat) : ∀ {d : D}, pureB d = true → clo b d = true
  | .tup xs, h => by rw [clo]; exact pureL_clo b (by rwa [pureB] at h)
  | .lv xs, h => by rw [clo]; exact pureL_clo b (by rwa [pureB] at h)
  | .dv _ _ vs, h => by rw [clo]; exact pureL_clo b (by rwa [pureB] at h)
  | .ref _, h => by simp [pureB] at h
  | .lk _, h => by simp [pureB] at h
  | .non, _ => by simp [clo]
  | .bl _, _ => by simp [clo]
  | .int _, _ => by simp [clo]
  | .str _, _ => by simp [clo]
  | .ty _, _ => by simp [clo]
  | .scr _, _ => by simp [clo]
theorem pureL_clo (b : Nat) : ∀ {d : List D}, pureL d = true → cloL b d = true
  | [], _ => by simp [cloL]
  | x :: xs, h => by
    rw [pureL, Bool.and_eq_true] at h
    rw [cloL, pure_clo b h.1, pureL_clo b h.2]
    rfl
end
mutual
theorem pure_shut (b : Nat) (k : Nat → Option D) : ∀ {d : D}, pureB d = true → shutD b k d = some d
  | .tup xs, h => by rw [shutD, pureL_shut b k (by rwa [pureB] at h)]; rfl
  | .lv xs, h => by rw [shutD, pureL_shut b k (by rwa [pureB] at h)]; rfl
  | .dv _ _ vs, h => by rw [shutD, pureL_shut b k (by rwa [pureB] at h)]; rfl
  | .ref _, h => by simp [pureB] at h
  | .lk _, h => by simp [pureB] at h
  | .non, _ => rfl
  | .bl _, _ => rfl
  | .int _, _ => rfl
  | .str _, _ => rfl
  | .ty _, _ => rfl
  | .scr _, _ => rfl
theorem pureL_shut (b : Nat) (k : Nat → Option D) : ∀ {d : List D}, pureL d = true → shutL b k d = some d
  | [], _ => rfl
  | x :: xs, h => by
    rw [pureL, Bool.and_eq_true] at h
    rw [shutL, pure_shut b k h.1, Option.bind_some, pureL_shut b k h.2]
    rfl
end
mutual
theorem eqb_refl : ∀ d : D, D.eqb d d = true
  | .non => by simp [D.eqb]
  | .bl b => by simp [D.eqb]
  | .int b => by simp [D.eqb]
  | .str b => by simp [D.eqb]
  | .ty b => by simp [D.eqb]
  | .scr b => by simp [D.eqb]
  | .ref b => by simp [D.eqb]
  | .tup xs => by rw [D.eqb]; exact eqbs_refl xs
  | .lv xs => by rw [D.eqb]; exact eqbs_refl xs
  | .dv t ks vs => by rw [D.eqb, eqbs_refl vs]; simp
  | .lk c => by rw [D.eqb]; exact eqb_refl c
theorem eqbs_refl : ∀ d : List D, D.eqbs d d = true
  | [] => by simp [D.eqbs]
  | x :: xs => by rw [D.eqbs, eqb_refl x, eqbs_refl xs]; rfl
end
theorem kept_app (b : Nat) (G : Store) : ∀ S : Store, kept b S (S ++ G) = true
  | [] => by simp [kept]
  | c :: S => by
    rw [List.cons_append, kept, eqb_refl, kept_app b G S]
    rfl
theorem kept_self (b : Nat) (S : Store) : kept b S S = true := by
  have := kept_app b [] S
  rwa [List.append_nil] at this
/-- a def's end: nothing changed -/
theorem end_rt {S : Store} {d : D} (h : pureB d = true) : endC false S (.rt d, S) = some (d, S) := by
  simp only [endC, fin1, Option.bind_some, Bool.false_eq_true, if_false, kept_self, if_true, shutN, pure_shut _ _ h, Option.map_some, List.take_length]
theorem end_nx {S : Store} {ρ : Env} : endC false S (.nx ρ, S) = some (.non, S) := by
  simp only [endC, fin1, Option.bind_some, Bool.false_eq_true, if_false, kept_self, if_true, shutN, shutD, Option.map_some, List.take_length]
/-- .. things were made -/
theorem end_app {S G : Store} {d e : D} (h : shutN S.length (S ++ G) 4 d = some e) : endC false S (.rt d, S ++ G) = some (e, S) := by
  simp only [endC, fin1, Option.bind_some, Bool.false_eq_true, if_false, kept_app, if_true, h, Option.map_some, List.take_left]
theorem end_appP {S G : Store} {d : D} (h : pureB d = true) : endC false S (.rt d, S ++ G) = some (d, S) := end_app (by rw [shutN, pure_shut _ _ h])
theorem end_appN {S G : Store} {ρ : Env} : endC false S (.nx ρ, S ++ G) = some (.non, S) := by
  simp only [endC, fin1, Option.bind_some, Bool.false_eq_true, if_false, kept_app, if_true, shutN, shutD, Option.map_some, List.take_left]
/-- .. the first place changed, things were made -/
theorem kept_hand {b : Nat} {x y : D} {T G : Store} (h : pureB y = true) : kept b (x :: T) (y :: (T ++ G)) = true := by
  rw [kept, pure_clo b h, kept_app, Bool.or_true]
  rfl
theorem end_hand {x y : D} {T G : Store} {d e : D} (hy : pureB y = true) (h : shutN (T.length + 1) (y :: (T ++ G)) 4 d = some e) : endC false (x :: T) (.rt d, y :: (T ++ G)) = some (e, y :: T) := by
  simp only [endC, fin1, Option.bind_some, Bool.false_eq_true, if_false, kept_hand hy, if_true, List.length_cons, h, Option.map_some, List.take_succ_cons, List.take_left]
theorem end_handP {x y : D} {T G : Store} {d : D} (hy : pureB y = true) (h : pureB d = true) : endC false (x :: T) (.rt d, y :: (T ++ G)) = some (d, y :: T) := end_hand hy (by rw [shutN, pure_shut _ _ h])
theorem end_hand0 {x y : D} {T : Store} {d : D} (hy : pureB y = true) (h : pureB d = true) : endC false (x :: T) (.rt d, y :: T) = some (d, y :: T) := by
  have := end_handP (x := x) (y := y) (T := T) (G := []) (d := d) hy h
  rwa [List.append_nil] at this
theorem shut_ref {b l n : Nat} {S : Store} {c : D} (hb : b ≤ l) (hl : S[l]? = some c) (h : pureB c = true) : shutN b S (n + 1) (.ref l) = some c := by
  rw [shutN, shutD, if_neg (by omega), kN, hl, Option.bind_some, pure_shut _ _ h]
theorem end_own {S S' : Store} {d : D} : endC true S (.rt d, S') = some (d, S') := rfl
theorem runFix_of {α β : Type} {f : D → Store → Option (Option α × Store)} {φ : β → D} {g : β → Option α} {S : Store} : ∀ {L : List β}, (∀ b ∈ L, f (φ b) S = some (g b, S)) → runFix f (L.map φ) S = some (L.filterMap g, S)
  | [], _ => rfl
  | b :: L, h => by
    rw [List.map_cons, runFix, h b List.mem_cons_self]
    simp only [Option.bind_some]
    rw [runFix_of fun c hc => h c (List.mem_cons_of_mem _ hc)]
    simp only [Option.map_some, List.filterMap_cons]
    cases g b <;> rfl
/-- a walk that keeps the store and takes each -/
theorem runFix_map {α β : Type} {f : D → Store → Option (Option α × Store)} {φ : β → D} {g : β → α} {S : Store} {L : List β} (h : ∀ b ∈ L, f (φ b) S = some (some (g b), S)) : runFix f (L.map φ) S = some (L.map g, S) := by
  rw [runFix_of (g := fun b => some (g b)) h, List.filterMap_eq_map']
/-- .. and takes some -/
theorem runFix_filter {α β : Type} {f : D → Store → Option (Option α × Store)} {φ : β → D} {p : β → Bool} {g : β → α} {S : Store} : ∀ {L : List β}, (∀ b ∈ L, f (φ b) S = some (if p b then some (g b) else none, S)) → runFix f (L.map φ) S = some ((L.filter p).map g, S)
  | [], _ => rfl
  | b :: L, h => by
    rw [List.map_cons, runFix, h b List.mem_cons_self]
    simp only [Option.bind_some]
    rw [runFix_filter fun c hc => h c (List.mem_cons_of_mem _ hc), List.filter_cons]
    cases p b <;> rfl
theorem atI_nat' {α : Type} {xs : List α} {i : Nat} : atI xs (i : Int) = xs[i]? := by
  unfold atI ixN
  rw [if_pos (Int.natCast_nonneg i)]
  by_cases h : i < xs.length
  · rw [if_pos (by omega)]
    simp
  · rw [if_neg (by omega), List.getElem?_eq_none (by omega)]
    rfl
theorem strsOf_map : ∀ l : List (List Nat), strsOf (l.map .str) = some l
  | [] => rfl
  | c :: l => by rw [List.map_cons, strsOf, strsOf_map l]; rfl
theorem boolsOf_map : ∀ l : List Bool, boolsOf (l.map .bl) = some l
  | [] => rfl
  | c :: l => by rw [List.map_cons, boolsOf, boolsOf_map l]; rfl
theorem intsOf_map : ∀ l : List Int, intsOf (l.map .int) = some l
  | [] => rfl
  | c :: l => by rw [List.map_cons, intsOf, intsOf_map l]; rfl
theorem joinL_nil : ∀ l : List (List Nat), joinL [] l = l.flatten
  | [] => rfl
  | [x] => by simp [joinL]
  | x :: y :: r => by
    show x ++ [] ++ joinL [] (y :: r) = _
    rw [joinL_nil (y :: r), List.append_nil]
    rfl
section
variable {fu : Nat} {Φ : Calls} {ρ : Env} {S S1 S2 : Store}
theorem lc_fix {k : Bool} {elt : E} {g : Tg} {vs : List Nat} {it : It} {c : Es} {xs r : List D} (h1 : evI fu Φ it ρ S = some (.fix xs, S1)) (h2 : runFix (turnF g vs (evT fu Φ c) (ev fu Φ elt) ρ) xs S1 = some (r, S2)) (h3 : r.length ≤ line) :
    ev fu Φ (.lc k elt g vs it c) ρ S = some (fin k (.new (.lv r)) S2) := by
  show ((evI fu Φ it ρ S).bind fun w => (runW fu (turnF g vs (evT fu Φ c) (ev fu Φ elt) ρ) w.1 w.2).bind fun r => if r.1.length ≤ line then some (fin k (.new (.lv r.1)) r.2) else none) = _
  rw [h1]
  simp only [Option.bind_some, runW, h2, h3, if_true]
theorem lc_map {elt : E} {g : Tg} {vs : List Nat} {it : It} {c : Es} {β : Type} {L : List β} {φ : β → D} (g' : β → D) (h1 : evI fu Φ it ρ S = some (.fix (L.map φ), S1)) (h2 : ∀ b ∈ L, turnF g vs (evT fu Φ c) (ev fu Φ elt) ρ (φ b) S1 = some (some (g' b), S1)) (h3 : L.length ≤ line) :
    ev fu Φ (.lc false elt g vs it c) ρ S = some (.lv (L.map g'), S1) := lc_fix (k := false) h1 (runFix_map h2) (by rw [List.length_map]; exact h3)
theorem lc_filter {elt : E} {g : Tg} {vs : List Nat} {it : It} {c : Es} {β : Type} {L : List β} {φ : β → D} (p : β → Bool) (g' : β → D) (h1 : evI fu Φ it ρ S = some (.fix (L.map φ), S1)) (h2 : ∀ b ∈ L, turnF g vs (evT fu Φ c) (ev fu Φ elt) ρ (φ b) S1 = some (if p b then some (g' b) else none, S1)) (h3 : L.length ≤ line) :
    ev fu Φ (.lc false elt g vs it c) ρ S = some (.lv ((L.filter p).map g'), S1) := lc_fix (k := false) h1 (runFix_filter h2) (by rw [List.length_map]; exact Nat.le_trans (List.length_filter_le _ _) h3)
theorem dc_map {key val : E} {g : Tg} {vs : List Nat} {it : It} {c : Es} {β : Type} {L : List β} {φ : β → D} (g' : β → DK × D) (h1 : evI fu Φ it ρ S = some (.fix (L.map φ), S1)) (h2 : ∀ b ∈ L, turnK g vs (evT fu Φ c) (ev fu Φ key) (ev fu Φ val) ρ (φ b) S1 = some (some (g' b), S1)) (h3 : L.length ≤ line) :
    ev fu Φ (.dc false key val g vs it c) ρ S = some (.dv false (foldPut (L.map g') ([], [])).1 (foldPut (L.map g') ([], [])).2, S1) := by
  show ((evI fu Φ it ρ S).bind fun w => (runW fu (turnK g vs (evT fu Φ c) (ev fu Φ key) (ev fu Φ val) ρ) w.1 w.2).bind fun r => if r.1.length ≤ line then some (fin false (.new (.dv false (foldPut r.1 ([], [])).1 (foldPut r.1 ([], [])).2)) r.2) else none) = _
  rw [h1]
  simp only [Option.bind_some, runW, runFix_map h2, List.length_map, h3, if_true]
  rfl
end
/-! ### primitives, by their things -/
section
variable {S : Store}
theorem p_add_i (i j : Int) : opS .add (.int i) (.int j) S = some (.val (.int (i + j))) := rfl
theorem p_sub_i (i j : Int) : opS .sub (.int i) (.int j) S = some (.val (.int (i - j))) := rfl
theorem p_mul_i {i j : Int} (h : i.natAbs < 18446744073709551616 ∨ j.natAbs < 18446744073709551616) : opS .mul (.int i) (.int j) S = some (.val (.int (i * j))) := by
  show (if _ then _ else _) = _
  rw [if_pos h]
theorem p_fdiv_i {i j : Int} (h : 0 < j ∧ j.natAbs < 1073741824) : opS .fdiv (.int i) (.int j) S = some (.val (.int (i / j))) := by
  show (if _ then _ else _) = _
  rw [if_pos h]
theorem p_mod_i {i j : Int} (h : 0 < j) : opS .mod (.int i) (.int j) S = some (.val (.int (i % j))) := by
  show (if _ then _ else _) = _
  rw [if_pos h]
theorem p_pow_i {i j : Int} (h : 0 ≤ j ∧ j.natAbs < 1000001 ∧ i.natAbs < 18446744073709551616) : opS .pow (.int i) (.int j) S = some (.val (.int (i ^ j.toNat))) := by
  show (if _ then _ else _) = _
  rw [if_pos h]
theorem p_add_s {a b : List Nat} (h : a.length + b.length ≤ line) : opS .add (.str a) (.str b) S = some (.val (.str (a ++ b))) := by
  show (if _ then _ else _) = _
  rw [if_pos h]
theorem p_add_t {a b : List D} (h : a.length + b.length ≤ line) : opS .add (.tup a) (.tup b) S = some (.val (.tup (a ++ b))) := by
  show (if _ then _ else _) = _
  rw [if_pos h]
theorem eq_ii (i j : Int) : eqS S (.int i) (.int j) = some (decide (i = j)) := by
  simp only [eqS, top, okd, py, PyData.eqv, Bool.and_self, if_true]
  rw [show (i == j) = decide (i = j) from by rw [Bool.eq_iff_iff, beq_iff_eq, decide_eq_true_eq]]
theorem sOf_beq (a b : List Nat) : (sOf a == sOf b) = decide (a = b) := SX.S_beq_eq
theorem eq_ss (a b : List Nat) : eqS S (.str a) (.str b) = some (decide (a = b)) := by
  simp only [eqS, top, okd, py, PyData.eqv, Bool.and_self, if_true]
  rw [← sOf_beq]
theorem lt_ii (i j : Int) : ltS S (.int i) (.int j) = some (decide (i < j)) := by
  simp only [ltS, top, okd, py, PySem.W.alike, notNone, Bool.and_self, if_true, PySem.W.dataLt_int]
theorem lt_ss (a b : List Nat) : ltS S (.str a) (.str b) = some (decide (a < b)) := by
  simp only [ltS, top, okd, py, PySem.W.alike, notNone, Bool.and_self, if_true, PySem.W.dataLt_str]
theorem isi_non_int : bltS .isinst [.non, .ty "int"] S = some (.val (.bl false)) := by
  simp [bltS, isinstS, tyOf, knownTy, isTy]
theorem isi_non_str : bltS .isinst [.non, .ty "str"] S = some (.val (.bl false)) := by
  simp [bltS, isinstS, tyOf, knownTy, isTy]
theorem isi_non_tuple : bltS .isinst [.non, .ty "tuple"] S = some (.val (.bl false)) := by
  simp [bltS, isinstS, tyOf, knownTy, isTy]
theorem isi_non_list : bltS .isinst [.non, .ty "list"] S = some (.val (.bl false)) := by
  simp [bltS, isinstS, tyOf, knownTy, isTy]
theorem isi_non_dict : bltS .isinst [.non, .ty "dict"] S = some (.val (.bl false)) := by
  simp [bltS, isinstS, tyOf, knownTy, isTy]
theorem isi_non_bool : bltS .isinst [.non, .ty "bool"] S = some (.val (.bl false)) := by
  simp [bltS, isinstS, tyOf, knownTy, isTy]
theorem isi_bl_int (b : Bool) : bltS .isinst [(.bl b), .ty "int"] S = some (.val (.bl true)) := by
  simp [bltS, isinstS, tyOf, knownTy, isTy]
theorem isi_bl_str (b : Bool) : bltS .isinst [(.bl b), .ty "str"] S = some (.val (.bl false)) := by
  simp [bltS, isinstS, tyOf, knownTy, isTy]
theorem isi_bl_tuple (b : Bool) : bltS .isinst [(.bl b), .ty "tuple"] S = some (.val (.bl false)) := by
  simp [bltS, isinstS, tyOf, knownTy, isTy]
theorem isi_bl_list (b : Bool) : bltS .isinst [(.bl b), .ty "list"] S = some (.val (.bl false)) := by
  simp [bltS, isinstS, tyOf, knownTy, isTy]
theorem isi_bl_dict (b : Bool) : bltS .isinst [(.bl b), .ty "dict"] S = some (.val (.bl false)) := by
  simp [bltS, isinstS, tyOf, knownTy, isTy]
theorem isi_bl_bool (b : Bool) : bltS .isinst [(.bl b), .ty "bool"] S = some (.val (.bl true)) := by
  simp [bltS, isinstS, tyOf, knownTy, isTy]
theorem isi_int_int (i : Int) : bltS .isinst [(.int i), .ty "int"] S = some (.val (.bl true)) := by
  simp [bltS, isinstS, tyOf, knownTy, isTy]
theorem isi_int_str (i : Int) : bltS .isinst [(.int i), .ty "str"] S = some (.val (.bl false)) := by
  simp [bltS, isinstS, tyOf, knownTy, isTy]
theorem isi_int_tuple (i : Int) : bltS .isinst [(.int i), .ty "tuple"] S = some (.val (.bl false)) := by
  simp [bltS, isinstS, tyOf, knownTy, isTy]
theorem isi_int_list (i : Int) : bltS .isinst [(.int i), .ty "list"] S = some (.val (.bl false)) := by
  simp [bltS, isinstS, tyOf, knownTy, isTy]
theorem isi_int_dict (i : Int) : bltS .isinst [(.int i), .ty "dict"] S = some (.val (.bl false)) := by
  simp [bltS, isinstS, tyOf, knownTy, isTy]
theorem isi_int_bool (i : Int) : bltS .isinst [(.int i), .ty "bool"] S = some (.val (.bl false)) := by
  simp [bltS, isinstS, tyOf, knownTy, isTy]
theorem isi_str_int (c : List Nat) : bltS .isinst [(.str c), .ty "int"] S = some (.val (.bl false)) := by
  simp [bltS, isinstS, tyOf, knownTy, isTy]
theorem isi_str_str (c : List Nat) : bltS .isinst [(.str c), .ty "str"] S = some (.val (.bl true)) := by
  simp [bltS, isinstS, tyOf, knownTy, isTy]
theorem isi_str_tuple (c : List Nat) : bltS .isinst [(.str c), .ty "tuple"] S = some (.val (.bl false)) := by
  simp [bltS, isinstS, tyOf, knownTy, isTy]
theorem isi_str_list (c : List Nat) : bltS .isinst [(.str c), .ty "list"] S = some (.val (.bl false)) := by
  simp [bltS, isinstS, tyOf, knownTy, isTy]
theorem isi_str_dict (c : List Nat) : bltS .isinst [(.str c), .ty "dict"] S = some (.val (.bl false)) := by
  simp [bltS, isinstS, tyOf, knownTy, isTy]
theorem isi_str_bool (c : List Nat) : bltS .isinst [(.str c), .ty "bool"] S = some (.val (.bl false)) := by
  simp [bltS, isinstS, tyOf, knownTy, isTy]
theorem isi_tup_int (xs : List D) : bltS .isinst [(.tup xs), .ty "int"] S = some (.val (.bl false)) := by
  simp [bltS, isinstS, tyOf, knownTy, isTy]
theorem isi_tup_str (xs : List D) : bltS .isinst [(.tup xs), .ty "str"] S = some (.val (.bl false)) := by
  simp [bltS, isinstS, tyOf, knownTy, isTy]
theorem isi_tup_tuple (xs : List D) : bltS .isinst [(.tup xs), .ty "tuple"] S = some (.val (.bl true)) := by
  simp [bltS, isinstS, tyOf, knownTy, isTy]
theorem isi_tup_list (xs : List D) : bltS .isinst [(.tup xs), .ty "list"] S = some (.val (.bl false)) := by
  simp [bltS, isinstS, tyOf, knownTy, isTy]
theorem isi_tup_dict (xs : List D) : bltS .isinst [(.tup xs), .ty "dict"] S = some (.val (.bl false)) := by
  simp [bltS, isinstS, tyOf, knownTy, isTy]
theorem isi_tup_bool (xs : List D) : bltS .isinst [(.tup xs), .ty "bool"] S = some (.val (.bl false)) := by
  simp [bltS, isinstS, tyOf, knownTy, isTy]
theorem isi_lv_int (xs : List D) : bltS .isinst [(.lv xs), .ty "int"] S = some (.val (.bl false)) := by
  simp [bltS, isinstS, tyOf, knownTy, isTy]
theorem isi_lv_str (xs : List D) : bltS .isinst [(.lv xs), .ty "str"] S = some (.val (.bl false)) := by
  simp [bltS, isinstS, tyOf, knownTy, isTy]
theorem isi_lv_tuple (xs : List D) : bltS .isinst [(.lv xs), .ty "tuple"] S = some (.val (.bl false)) := by
  simp [bltS, isinstS, tyOf, knownTy, isTy]
theorem isi_lv_list (xs : List D) : bltS .isinst [(.lv xs), .ty "list"] S = some (.val (.bl true)) := by
  simp [bltS, isinstS, tyOf, knownTy, isTy]
theorem isi_lv_dict (xs : List D) : bltS .isinst [(.lv xs), .ty "dict"] S = some (.val (.bl false)) := by
  simp [bltS, isinstS, tyOf, knownTy, isTy]
theorem isi_lv_bool (xs : List D) : bltS .isinst [(.lv xs), .ty "bool"] S = some (.val (.bl false)) := by
  simp [bltS, isinstS, tyOf, knownTy, isTy]
theorem isi_dv_int (ks : List DK) (vs : List D) : bltS .isinst [(.dv false ks vs), .ty "int"] S = some (.val (.bl false)) := by
  simp [bltS, isinstS, tyOf, knownTy, isTy]
theorem isi_dv_str (ks : List DK) (vs : List D) : bltS .isinst [(.dv false ks vs), .ty "str"] S = some (.val (.bl false)) := by
  simp [bltS, isinstS, tyOf, knownTy, isTy]
theorem isi_dv_tuple (ks : List DK) (vs : List D) : bltS .isinst [(.dv false ks vs), .ty "tuple"] S = some (.val (.bl false)) := by
  simp [bltS, isinstS, tyOf, knownTy, isTy]
theorem isi_dv_list (ks : List DK) (vs : List D) : bltS .isinst [(.dv false ks vs), .ty "list"] S = some (.val (.bl false)) := by
  simp [bltS, isinstS, tyOf, knownTy, isTy]
theorem isi_dv_dict (ks : List DK) (vs : List D) : bltS .isinst [(.dv false ks vs), .ty "dict"] S = some (.val (.bl true)) := by
  simp [bltS, isinstS, tyOf, knownTy, isTy]
theorem isi_dv_bool (ks : List DK) (vs : List D) : bltS .isinst [(.dv false ks vs), .ty "bool"] S = some (.val (.bl false)) := by
  simp [bltS, isinstS, tyOf, knownTy, isTy]
theorem isi_scr_int (ns : List Int) : bltS .isinst [(.scr ns), .ty "int"] S = some (.val (.bl false)) := by
  simp [bltS, isinstS, tyOf, knownTy, isTy]
theorem isi_scr_str (ns : List Int) : bltS .isinst [(.scr ns), .ty "str"] S = some (.val (.bl false)) := by
  simp [bltS, isinstS, tyOf, knownTy, isTy]
theorem isi_scr_tuple (ns : List Int) : bltS .isinst [(.scr ns), .ty "tuple"] S = some (.val (.bl false)) := by
  simp [bltS, isinstS, tyOf, knownTy, isTy]
theorem isi_scr_list (ns : List Int) : bltS .isinst [(.scr ns), .ty "list"] S = some (.val (.bl true)) := by
  simp [bltS, isinstS, tyOf, knownTy, isTy]
theorem isi_scr_dict (ns : List Int) : bltS .isinst [(.scr ns), .ty "dict"] S = some (.val (.bl false)) := by
  simp [bltS, isinstS, tyOf, knownTy, isTy]
theorem isi_scr_bool (ns : List Int) : bltS .isinst [(.scr ns), .ty "bool"] S = some (.val (.bl false)) := by
  simp [bltS, isinstS, tyOf, knownTy, isTy]
theorem b_len_s {c : List Nat} (h : c.length ≤ line) : bltS .len [.str c] S = some (.val (.int c.length)) := by
  show (if _ then _ else _) = _
  rw [if_pos h]
theorem b_len_t (xs : List D) : bltS .len [.tup xs] S = some (.val (.int xs.length)) := rfl
theorem b_len_l (xs : List D) : bltS .len [.lv xs] S = some (.val (.int xs.length)) := rfl
theorem b_abs (i : Int) : bltS .abs [.int i] S = some (.val (.int (if i < 0 then -i else i))) := rfl
theorem b_int (i : Int) : bltS .int [.int i] S = some (.val (.int i)) := rfl
theorem b_tuple_l (xs : List D) : bltS .tuple [.lv xs] S = some (.val (.tup xs)) := rfl
theorem b_list_t (xs : List D) : bltS .list [.tup xs] S = some (.new (.lv xs)) := rfl
theorem b_list_l (xs : List D) : bltS .list [.lv xs] S = some (.new (.lv xs)) := rfl
theorem b_list_s {c : List Nat} (h : c.length ≤ line) : bltS .list [.str c] S = some (.new (.lv (c.map fun c => .str [c]))) := by
  show Option.map _ (if _ then _ else _) = _
  rw [if_pos h]
  rfl
theorem b_all (bs : List Bool) : bltS .all [.lv (bs.map .bl)] S = some (.val (.bl (bs.all id))) := by
  show ((some (bs.map D.bl)).bind fun xs => (boolsOf xs).map fun bs => PR.val (.bl (bs.all id))) = _
  rw [Option.bind_some, boolsOf_map]
  rfl
theorem b_any (bs : List Bool) : bltS .any [.lv (bs.map .bl)] S = some (.val (.bl (bs.any id))) := by
  show ((some (bs.map D.bl)).bind fun xs => (boolsOf xs).map fun bs => PR.val (.bl (bs.any id))) = _
  rw [Option.bind_some, boolsOf_map]
  rfl
theorem b_sum (ns : List Int) : bltS .sum [.lv (ns.map .int)] S = some (.val (.int ns.sum)) := by
  show ((some (ns.map D.int)).bind fun xs => (intsOf xs).map fun bs => PR.val (.int bs.sum)) = _
  rw [Option.bind_some, intsOf_map]
  rfl
theorem m_join_l {a : List Nat} {l : List (List Nat)} (h : (l.map (·.length)).sum + l.length * a.length ≤ line) : mthS .join (.str a) [.lv (l.map .str)] S = some (.str (joinL a l), S) := by
  show ((some (l.map D.str)).bind fun xs => (strsOf xs).bind fun ys => if (ys.map (·.length)).sum + ys.length * a.length ≤ line then some (D.str (joinL a ys), S) else none) = _
  rw [Option.bind_some, strsOf_map, Option.bind_some, if_pos h]
theorem m_count (a : List Nat) (c : Nat) : mthS .count (.str a) [.str [c]] S = some (.int (a.count c : Nat), S) := rfl
theorem i_tup (xs : List D) (j : Int) : itemS (.tup xs) (.int j) S = atI xs j := rfl
theorem i_lv (xs : List D) (j : Int) : itemS (.lv xs) (.int j) S = atI xs j := rfl
theorem i_str {c : List Nat} (j : Int) (h : c.length ≤ line) : itemS (.str c) (.int j) S = (atI c j).map fun c => .str [c] := by
  show (if _ then _ else _) = _
  rw [if_pos h]
theorem atI_0 {α : Type} (xs : List α) : atI xs 0 = xs[0]? := atI_nat' (i := 0)
theorem atI_1 {α : Type} (xs : List α) : atI xs 1 = xs[1]? := atI_nat' (i := 1)
theorem atI_2 {α : Type} (xs : List α) : atI xs 2 = xs[2]? := atI_nat' (i := 2)
theorem atI_3 {α : Type} (xs : List α) : atI xs 3 = xs[3]? := atI_nat' (i := 3)
theorem atI_4 {α : Type} (xs : List α) : atI xs 4 = xs[4]? := atI_nat' (i := 4)
theorem mem_s (c : Nat) (z : List Nat) : memS S (.str [c]) (.str z) = some (decide (c ∈ z)) := rfl
theorem ty_str (c : List Nat) : (tyOf S (.str c) = some (mthTy .join)) = True := by simp [tyOf, mthTy]
theorem ty_count (c : List Nat) : (tyOf S (.str c) = some (mthTy .count)) = True := by simp [tyOf, mthTy]
end
theorem flat_single {α β : Type} (f : α → β) : ∀ l : List α, (l.map fun x => [f x]).flatten = l.map f
  | [] => rfl
  | a :: l => by rw [List.map_cons, List.flatten_cons, flat_single f l]; rfl
theorem sum_single {α β : Type} (f : α → β) : ∀ l : List α, ((l.map fun x => [f x]).map (·.length)).sum = l.length
  | [] => rfl
  | a :: l => by
    rw [List.map_cons, List.map_cons, List.sum_cons, sum_single f l, List.length_cons]
    exact Nat.add_comm _ _
theorem range_1 {j : Int} (h : -1000000 ≤ j ∧ j ≤ 1000000) : rangeS [.int j] = some (intL 0 j.toNat) := by
  unfold rangeS
  simp only
  rw [if_pos (by omega)]
theorem range_2 {i j : Int} (h : -1000000 ≤ i ∧ i ≤ 1000000) (k : -1000000 ≤ j ∧ j ≤ 1000000) : rangeS [.int i, .int j] = some (intL i (j - i).toNat) := by
  unfold rangeS
  simp only
  rw [if_pos (by omega)]
/-- a for over a fixed list, by what holds behind so many turns -/
theorem forFix_inv {β : Type} {g : Tg} {b : Env → Store → Option (Fl × Store)} {φ : β → D} (I : Nat → Env → Store → Prop) : ∀ (L : List β) (i : Nat) (ρ : Env) (S : Store), I i ρ S →
    (∀ (j : Nat) (x : β) (ρ : Env) (S : Store), L[j]? = some x → I (i + j) ρ S → ∃ ρ1 ρ2 S2, bindTg g (φ x) ρ = some ρ1 ∧ (b ρ1 S = some (.nx ρ2, S2) ∨ b ρ1 S = some (.ct ρ2, S2)) ∧ I (i + j + 1) ρ2 S2) →
    ∃ ρ' S', forFix g b (L.map φ) ρ S = some (.nx ρ', S') ∧ I (i + L.length) ρ' S'
  | [], i, ρ, S, h, _ => ⟨ρ, S, rfl, h⟩
  | x :: L, i, ρ, S, h, hs => by
    obtain ⟨ρ1, ρ2, S2, h1, h2, h3⟩ := hs 0 x ρ S rfl h
    obtain ⟨ρ', S', e, h4⟩ := forFix_inv I L (i + 1) ρ2 S2 h3 fun j y ρ S hj hI => by
      have := hs (j + 1) y ρ S hj (by rw [show i + (j + 1) = i + 1 + j from by omega]; exact hI)
      rw [show i + (j + 1) + 1 = i + 1 + j + 1 from by omega] at this
      exact this
    refine ⟨ρ', S', ?_, ?_⟩
    · rw [List.map_cons, forFix, h1, Option.bind_some]
      rcases h2 with h2 | h2
      · rw [h2, Option.bind_some]
        exact e
      · rw [h2, Option.bind_some]
        exact e
    · rw [List.length_cons, show i + (L.length + 1) = i + 1 + L.length from by omega]
      exact h4
/-- a walk over a list in the store that the turns leave as it is -/
theorem runG_pure {α β : Type} {l : Nat} {f : D → Store → Option (Option α × Store)} {φ : β → D} {g : β → Option α} {S : Store} {L : List β} (hS : S[l]? = some (.lv (L.map φ))) (h : ∀ b ∈ L, f (φ b) S = some (g b, S)) :
    ∀ (k n i : Nat), i + k = L.length → k < n → runG (nxD l) f n i S = some ((L.drop i).filterMap g, S)
  | 0, 0, i, _, hn => absurd hn (Nat.lt_irrefl _)
  | 0, n + 1, i, hi, _ => by
    have e : (L.map φ)[i]? = none := List.getElem?_eq_none (by rw [List.length_map]; omega)
    unfold runG
    simp only [nxD, hS, e]
    rw [List.drop_eq_nil_of_le (by omega)]
    rfl
  | k + 1, 0, i, _, hn => absurd hn (Nat.not_lt_zero _)
  | k + 1, n + 1, i, hi, hn => by
    have hlt : i < L.length := by omega
    have e : (L.map φ)[i]? = some (φ L[i]) := by rw [List.getElem?_map, List.getElem?_eq_getElem hlt]; rfl
    unfold runG
    simp only [nxD, hS, e, h _ (List.getElem_mem hlt), Option.bind_some]
    rw [runG_pure hS h k n (i + 1) (by omega) (by omega), List.drop_eq_getElem_cons hlt]
    simp only [Option.map_some, List.filterMap_cons]
    cases g L[i] <;> rfl
theorem lc_dyn {fu : Nat} {Φ : Calls} {ρ : Env} {S S1 : Store} {elt : E} {g : Tg} {vs : List Nat} {it : It} {c : Es} {β : Type} {L : List β} {φ : β → D} {l : Nat} (p : β → Bool) (g' : β → D) (h1 : evI fu Φ it ρ S = some (.dyn l, S1)) (hS : S1[l]? = some (.lv (L.map φ)))
    (h2 : ∀ b ∈ L, turnF g vs (evT fu Φ c) (ev fu Φ elt) ρ (φ b) S1 = some (if p b then some (g' b) else none, S1)) (h3 : L.length ≤ line) (h4 : L.length < fu) :
    ev fu Φ (.lc false elt g vs it c) ρ S = some (.lv ((L.filter p).map g'), S1) := by
  have hr := runG_pure (g := fun b => if p b then some (g' b) else none) hS h2 L.length fu 0 (Nat.zero_add _) h4
  have e : (L.drop 0).filterMap (fun b => if p b then some (g' b) else none) = (L.filter p).map g' := by
    rw [List.drop_zero]
    clear hr hS h2 h3 h4
    induction L with
    | nil => rfl
    | cons x L ih =>
      rw [List.filterMap_cons, List.filter_cons]
      cases p x <;> simp [ih]
  rw [e] at hr
  show ((evI fu Φ it ρ S).bind fun w => (runW fu (turnF g vs (evT fu Φ c) (ev fu Φ elt) ρ) w.1 w.2).bind fun r => if r.1.length ≤ line then some (fin false (.new (.lv r.1)) r.2) else none) = _
  rw [h1]
  have hl : ((L.filter p).map g').length ≤ line := by rw [List.length_map]; exact Nat.le_trans (List.length_filter_le _ _) h3
  simp only [Option.bind_some, runW, hr, hl, if_true]
  rfl
/-! ### things in the store -/
section
variable {S : Store} {l : Nat} {xs : List D}
theorem get_last (S : Store) (x : D) : (S ++ [x])[S.length]? = some x := by simp
theorem set_last (S : Store) (x y : D) : (S ++ [x]).set S.length y = S ++ [y] := by
  rw [List.set_append_right _ _ (Nat.le_refl _), Nat.sub_self]
  rfl
theorem b_len_ref (h : S[l]? = some (.lv xs)) : bltS .len [.ref l] S = some (.val (.int xs.length)) := by
  simp only [bltS, asSq, asL, h]
theorem i_ref (h : S[l]? = some (.lv xs)) (j : Int) : itemS (.ref l) (.int j) S = atI xs j := by
  simp only [itemS, asL, h]
theorem set_ref (h : S[l]? = some (.lv xs)) {j : Int} {n : Nat} (hj : ixN xs.length j = some n) (v : D) : setS (.ref l) (.int j) v S = some (S.set l (.lv (xs.set n v))) := by
  simp only [setS, h, hj, Option.map_some]
theorem app_ref (h : S[l]? = some (.lv xs)) (hl : xs.length < line) (x : D) : mthS .append (.ref l) [x] S = some (.non, S.set l (.lv (xs ++ [x]))) := by
  simp only [mthS, h, hl, if_true]
theorem ext_ref (h : S[l]? = some (.lv xs)) {ys : List D} (hl : xs.length + ys.length ≤ line) : mthS .extend (.ref l) [.lv ys] S = some (.non, S.set l (.lv (xs ++ ys))) := by
  simp only [mthS, h, asL, hl, if_true]
theorem ty_ref (h : S[l]? = some (.lv xs)) : tyOf S (.ref l) = some "list" := by
  simp only [tyOf, h]
theorem b_tuple_ref (h : S[l]? = some (.lv xs)) : bltS .tuple [.ref l] S = some (.val (.tup xs)) := by
  simp only [bltS, asSq, asL, h, Option.map_some]
theorem w_ref (h : S[l]? = some (.lv xs)) : walkOf S (.ref l) = some (.dyn l) := by
  simp only [walkOf, h]
theorem ixN_last {n : Nat} (h : 0 < n) : ixN n (-1) = some (n - 1) := by
  unfold ixN
  rw [if_neg (by omega), if_pos (by omega)]
  congr 1
  omega
theorem atI_last' {α : Type} (xs : List α) (x : α) : atI (xs ++ [x]) (-1) = some x := by
  unfold atI
  rw [ixN_last (by simp)]
  simp
end
theorem ev_op {fu : Nat} {Φ : Calls} {ρ : Env} {S S1 S2 : Store} {o : Op2} {a b : E} {x y z : D} (h1 : ev fu Φ a ρ S = some (x, S1)) (h2 : ev fu Φ b ρ S1 = some (y, S2)) (h3 : opS o x y S2 = some (.val z)) : ev fu Φ (.op o a b) ρ S = some (z, S2) := by
  show ((ev fu Φ a ρ S).bind fun x => (ev fu Φ b ρ x.2).bind fun y => (opS o x.1 y.1 y.2).map fun r => fin false r y.2) = _
  rw [h1, Option.bind_some, h2, Option.bind_some, h3]
  rfl
theorem ev_sub {fu : Nat} {Φ : Calls} {ρ : Env} {S S1 S2 : Store} {a b : E} {x y z : D} (h1 : ev fu Φ a ρ S = some (x, S1)) (h2 : ev fu Φ b ρ S1 = some (y, S2)) (h3 : itemS x y S2 = some z) : ev fu Φ (.sub a b) ρ S = some (z, S2) := by
  show ((ev fu Φ a ρ S).bind fun x => (ev fu Φ b ρ x.2).bind fun y => (itemS x.1 y.1 y.2).map fun d => (d, y.2)) = _
  rw [h1, Option.bind_some, h2, Option.bind_some, h3]
  rfl
theorem ev_blt1 {fu : Nat} {Φ : Calls} {ρ : Env} {S S1 : Store} {b : Blt} {a : E} {x z : D} (h1 : ev fu Φ a ρ S = some (x, S1)) (h3 : bltS b [x] S1 = some (.val z)) : ev fu Φ (.blt b false (.cons a .nil)) ρ S = some (z, S1) := by
  show ((evs fu Φ (.cons a .nil) ρ S).bind fun x => (bltS b x.1 x.2).map fun r => fin false r x.2) = _
  rw [evs_one h1, Option.bind_some, h3]
  rfl
end Pd

/-! Pd22: more laws of the evaluator. -/
namespace Pd
open PySem PySem.Spec PyProof.Rows L2

theorem pos_n {k n : Nat} (h : k + 1 ≤ n) : ∃ m, n = m + 1 ∧ k ≤ m := ⟨n - 1, by omega, by omega⟩
theorem le_line {k : Nat} (h : k ≤ 1000000) : (k ≤ line) = True := eq_true (by unfold line; omega)
theorem ll {k : Nat} (h : k ≤ 1000000) : k ≤ line := by unfold line; omega
section
variable {fu : Nat} {Φ : Calls} {ρ ρ1 : Env} {S S1 : Store}
theorem run_seq {a b : Pd.T} (h1 : run fu Φ a ρ S = some (.nx ρ1, S1)) : run fu Φ (.seq a b) ρ S = run fu Φ b ρ1 S1 := by
  rw [run, h1]
  rfl
theorem run_seqR {a b : Pd.T} {d : D} (h1 : run fu Φ a ρ S = some (.rt d, S1)) : run fu Φ (.seq a b) ρ S = some (.rt d, S1) := by
  rw [run, h1]
  rfl
theorem eq_bb (a b : Bool) : eqS S (.bl a) (.bl b) = some (decide (a = b)) := by
  simp only [eqS, top, okd, py, PyData.eqv, Bool.and_self, if_true]
  cases a <;> cases b <;> rfl
theorem all_true {α : Type} (l : List α) : bltS .all [.lv (l.map fun _ => D.bl true)] S = some (.val (.bl true)) := by
  have := b_all (S := S) (l.map fun _ => true)
  rw [List.map_map] at this
  rw [show (l.map fun _ => D.bl true) = l.map (D.bl ∘ fun _ => true) from rfl, this]
  simp
theorem all_bl {α : Type} (l : List α) (p : α → Bool) : bltS .all [.lv (l.map fun x => D.bl (p x))] S = some (.val (.bl (l.all p))) := by
  have := b_all (S := S) (l.map p)
  rw [List.map_map] at this
  rw [show (l.map fun x => D.bl (p x)) = l.map (D.bl ∘ p) from rfl, this, List.all_map]
  rfl
theorem any_bl {α : Type} (l : List α) (p : α → Bool) : bltS .any [.lv (l.map fun x => D.bl (p x))] S = some (.val (.bl (l.any p))) := by
  have := b_any (S := S) (l.map p)
  rw [List.map_map] at this
  rw [show (l.map fun x => D.bl (p x)) = l.map (D.bl ∘ p) from rfl, this, List.any_map]
  rfl
theorem b_len_m {α : Type} (l : List α) (f : α → D) : bltS .len [.lv (l.map f)] S = some (.val (.int (l.length : Nat))) := by
  rw [b_len_l, List.length_map]
/-! ### slices -/
theorem cutL_from {α : Type} (xs : List α) (k : Nat) : cutL xs (some (k : Int)) none = xs.drop k := by
  unfold cutL
  rw [HT.sIx_nat, HT.sIx_none]
  by_cases h : k ≤ xs.length
  · rw [Nat.min_eq_left h]
    exact List.take_of_length_le (by rw [List.length_drop]; exact Nat.le_refl _)
  · rw [Nat.min_eq_right (by omega), List.drop_eq_nil_of_le (Nat.le_refl _), List.drop_eq_nil_of_le (by omega), List.take_nil]
theorem cutL_to {α : Type} (xs : List α) (k : Nat) : cutL xs none (some (k : Int)) = xs.take k := by
  unfold cutL
  rw [HT.sIx_nat, HT.sIx_none, List.drop_zero, Nat.sub_zero]
  by_cases h : k ≤ xs.length
  · rw [Nat.min_eq_left h]
  · rw [Nat.min_eq_right (by omega), List.take_of_length_le (Nat.le_refl _), List.take_of_length_le (by omega)]
theorem cutL_ft {α : Type} (xs : List α) {i k : Nat} (h : i ≤ k) : cutL xs (some (i : Int)) (some (k : Int)) = (xs.drop i).take (k - i) := by
  unfold cutL
  rw [HT.sIx_nat, HT.sIx_nat]
  by_cases h1 : i ≤ xs.length
  · rw [Nat.min_eq_left h1]
    by_cases h2 : k ≤ xs.length
    · rw [Nat.min_eq_left h2]
    · rw [Nat.min_eq_right (by omega), List.take_of_length_le (by rw [List.length_drop]; omega), List.take_of_length_le (by rw [List.length_drop]; omega)]
  · have e1 : min i xs.length = xs.length := by omega
    rw [e1, List.drop_eq_nil_of_le (Nat.le_refl _), List.drop_eq_nil_of_le (by omega), List.take_nil, List.take_nil]
theorem slc_tup (xs : List D) (l h : Option Int) : slcS (.tup xs) l h S = some (.val (.tup (cutL xs l h))) := rfl
theorem slc_lv (xs : List D) (l h : Option Int) : slcS (.lv xs) l h S = some (.new (.lv (cutL xs l h))) := rfl
theorem slc_str {z : List Nat} (hz : z.length ≤ line) (l h : Option Int) : slcS (.str z) l h S = some (.val (.str (cutL z l h))) := by
  show (if _ then _ else _) = _
  rw [if_pos hz]
theorem ev_slc_to {a b : E} {z : List Nat} {k : Nat} {S2 : Store} (h1 : ev fu Φ a ρ S = some (.str z, S1)) (h2 : ev fu Φ b ρ S1 = some (.int k, S2)) (hz : z.length ≤ line) : ev fu Φ (.slc a .nil (.cons b .nil)) ρ S = some (.str (z.take k), S2) := by
  simp only [ev, evs, h1, h2, Option.bind_some, Option.map_some, one?, bound?, slc_str hz, cutL_to, fin]
theorem ev_slc_from {a b : E} {z : List Nat} {k : Nat} {S2 : Store} (h1 : ev fu Φ a ρ S = some (.str z, S1)) (h2 : ev fu Φ b ρ S1 = some (.int k, S2)) (hz : z.length ≤ line) : ev fu Φ (.slc a (.cons b .nil) .nil) ρ S = some (.str (z.drop k), S2) := by
  simp only [ev, evs, h1, h2, Option.bind_some, Option.map_some, one?, bound?, slc_str hz, cutL_from, fin]
theorem ev_slc_ft {a b c : E} {z : List Nat} {i k : Nat} {S2 S3 : Store} (h1 : ev fu Φ a ρ S = some (.str z, S1)) (h2 : ev fu Φ b ρ S1 = some (.int i, S2)) (h3 : ev fu Φ c ρ S2 = some (.int k, S3)) (hi : i ≤ k) (hz : z.length ≤ line) : ev fu Φ (.slc a (.cons b .nil) (.cons c .nil)) ρ S = some (.str ((z.drop i).take (k - i)), S3) := by
  simp only [ev, evs, h1, h2, h3, Option.bind_some, Option.map_some, one?, bound?, slc_str hz, cutL_ft z hi, fin]
/-! ### items -/
theorem i_str_at {c : List Nat} {i x : Nat} (hl : c.length ≤ line) (h : c[i]? = some x) : itemS (.str c) (.int (i : Nat)) S = some (.str [x]) := by
  rw [i_str _ hl, atI_nat', h]
  rfl
theorem i_str_last {c : List Nat} {x : Nat} (hl : (c ++ [x]).length ≤ line) : itemS (.str (c ++ [x])) (.int (-1)) S = some (.str [x]) := by
  rw [i_str _ hl, atI_last']
  rfl
/-! ### zip, enumerate -/
theorem zip_str : ∀ r o : List Nat, zipL (r.map fun c => .str [c]) (o.map fun c => .str [c]) = (r.zip o).map fun p => .tup [.str [p.1], .str [p.2]]
  | [], _ => by simp [zipL]
  | _ :: _, [] => by simp [zipL]
  | a :: r, b :: o => by
    rw [List.map_cons, List.map_cons, zipL, zip_str r o]
    rfl
theorem zip_map {α β : Type} (f : α → D) (g : β → D) : ∀ (r : List α) (o : List β), zipL (r.map f) (o.map g) = (r.zip o).map fun p => .tup [f p.1, g p.2]
  | [], _ => by simp [zipL]
  | _ :: _, [] => by simp [zipL]
  | a :: r, b :: o => by
    rw [List.map_cons, List.map_cons, zipL, zip_map f g r o]
    rfl
theorem zipL_self : ∀ xs : List D, zipL xs xs = xs.map fun x => .tup [x, x]
  | [] => rfl
  | x :: xs => by rw [zipL, zipL_self xs]; rfl
theorem enum_map {α : Type} (f : α → D) : ∀ (l : List α) (n : Nat), enumL n (l.map f) = (l.zipIdx n).map fun p => .tup [.int (p.2 : Nat), f p.1]
  | [], _ => rfl
  | x :: l, n => by rw [List.map_cons, enumL, enum_map f l (n + 1)]; rfl
/-! ### walks that carry a thing -/
theorem runFix_ex {α β : Type} {f : D → Store → Option (Option α × Store)} {φ : β → D} (P : Store → Prop) (Q : α → Prop) : ∀ (L : List β) (S : Store), P S →
    (∀ b ∈ L, ∀ S, P S → ∃ y S', f (φ b) S = some (some y, S') ∧ Q y ∧ P S') → ∃ ys S', runFix f (L.map φ) S = some (ys, S') ∧ ys.length = L.length ∧ (∀ y ∈ ys, Q y) ∧ P S'
  | [], S, h, _ => ⟨[], S, rfl, rfl, fun _ h => (List.not_mem_nil h).elim, h⟩
  | b :: L, S, h, hs => by
    obtain ⟨y, S1, e1, q1, p1⟩ := hs b List.mem_cons_self S h
    obtain ⟨ys, S2, e2, l2, q2, p2⟩ := runFix_ex P Q L S1 p1 fun c hc => hs c (List.mem_cons_of_mem _ hc)
    refine ⟨y :: ys, S2, ?_, by rw [List.length_cons, List.length_cons, l2], fun z hz => ?_, p2⟩
    · rw [List.map_cons, runFix, e1, Option.bind_some, e2]
      rfl
    · rcases List.mem_cons.mp hz with rfl | hz
      · exact q1
      · exact q2 z hz
theorem all_one {ys : List D} {k : Nat} (hl : ys.length = k) (h : ∀ y ∈ ys, y = D.bl true) : ys = (List.range k).map fun _ => D.bl true := by
  apply List.ext_getElem
  · rw [hl, List.length_map, List.length_range]
  · intro i h1 h2
    rw [List.getElem_map]
    exact h _ (List.getElem_mem h1)
/-- a loop with an invariant of its slots and store -/
theorem loop_range {g : Tg} {b : Pd.T} {k : Nat} {es : Es} (I : Nat → Env → Store → Prop) (h0 : I 0 ρ S) (hr : (evs fu Φ es ρ S).bind (fun x => (rangeS x.1).map fun xs => (xs, x.2)) = some (intL 0 k, S))
    (hs : ∀ (i : Nat) (ρ : Env) (S : Store), i < k → I i ρ S → ∃ ρ1 ρ2 S2, bindTg g (.int (i : Nat)) ρ = some ρ1 ∧ run fu Φ b ρ1 S = some (.nx ρ2, S2) ∧ I (i + 1) ρ2 S2) :
    ∃ ρ' S', run fu Φ (.loop g (.range es) b) ρ S = some (.nx ρ', S') ∧ I k ρ' S' := by
  obtain ⟨ρ', S', e, h⟩ := forFix_inv (g := g) (b := run fu Φ b) (φ := fun i : Nat => D.int (0 + (i : Int))) I (List.range k) 0 ρ S h0 fun j x ρ S hj hI => by
    have hlt := (List.getElem?_eq_some_iff.mp hj).1
    rw [List.length_range] at hlt
    rw [List.getElem?_range hlt] at hj
    cases hj
    obtain ⟨ρ1, ρ2, S2, a1, a2, a3⟩ := hs j ρ S hlt (by simpa using hI)
    refine ⟨ρ1, ρ2, S2, ?_, .inl a2, by simpa using a3⟩
    show bindTg g (.int (0 + (j : Int))) ρ = _
    rw [show (0 : Int) + (j : Int) = (j : Int) from by omega]
    exact a1
  refine ⟨ρ', S', ?_, by simpa using h⟩
  simp only [Option.bind_eq_some_iff, Option.map_eq_some_iff, Prod.mk.injEq] at hr
  obtain ⟨⟨ds, S1⟩, r1, xs, r2, rfl, rfl⟩ := hr
  simp only [run, evI, r1, Option.bind_some, r2, Option.map_some]
  exact e
end
/-! ### values that are the same as themselves -/
mutual
theorem eqv_self : ∀ (n : Nat) (d : D), okd n d = true → PyData.eqv (py d) (py d) = true
  | n, .non, _ => by simp [py, PyData.eqv]
  | n, .bl b, _ => by simp [py, PyData.eqv]
  | n, .int b, _ => by simp [py, PyData.eqv]
  | n, .str b, _ => by simp [py, PyData.eqv]
  | 0, .tup xs, h => by simp [okd] at h
  | n + 1, .tup xs, h => by rw [py, PyData.eqv]; exact eqvs_self n xs (by simpa [okd] using h)
  | 0, .lv xs, h => by simp [okd] at h
  | n + 1, .lv xs, h => by rw [py, PyData.eqv]; exact eqvs_self n xs (by simpa [okd] using h)
  | n, .dv _ _ _, h => by cases n <;> simp [okd] at h
  | n, .ref _, h => by cases n <;> simp [okd] at h
  | n, .ty _, h => by cases n <;> simp [okd] at h
  | n, .scr _, h => by cases n <;> simp [okd] at h
  | n, .lk _, h => by cases n <;> simp [okd] at h
theorem eqvs_self : ∀ (n : Nat) (xs : List D), (∀ x ∈ xs, okd n x = true) → PyData.eqvAll (pys xs) (pys xs) = true
  | n, [], _ => by simp [pys, PyData.eqvAll]
  | n, x :: xs, h => by
    rw [pys, PyData.eqvAll, eqv_self n x (h x List.mem_cons_self), eqvs_self n xs fun y hy => h y (List.mem_cons_of_mem _ hy)]
    rfl
end
theorem top_pure {S : Store} {d : D} (h : pureB d = true) : top S d = d := by
  cases d <;> first | rfl | simp [pureB] at h
theorem okd_pure : ∀ {n : Nat} {d : D}, okd n d = true → ∀ l, d ≠ .ref l := fun {n d} h l e => by
  subst e
  cases n <;> simp [okd] at h
theorem top_okd {S : Store} {n : Nat} {d : D} (h : okd n d = true) : top S d = d := by
  cases d <;> first | rfl | exact absurd rfl (okd_pure h _)
/-- x == x -/
theorem eq_same {S : Store} {d : D} (h : okd 12 d = true) : eqS S d d = some true := by
  unfold eqS
  rw [top_okd h, h, eqv_self 12 d h]
  rfl
theorem okd_mono : ∀ {n : Nat} {d : D}, okd n d = true → okd (n + 1) d = true
  | 0, d, h => by cases d <;> first | rfl | simp [okd] at h
  | n + 1, d, h => by
    cases d <;> first | rfl | (simp only [okd, List.all_eq_true] at h ⊢; exact fun x hx => okd_mono (h x hx)) | simp [okd] at h
theorem okd_map {α : Type} {n : Nat} {f : α → D} {l : List α} (h : ∀ x, okd n (f x) = true) : (l.map f).all (okd n) = true := by
  rw [List.all_map, List.all_eq_true]
  exact fun x _ => h x
/-- equality by what the values stand for -/
theorem eq_inj {S : Store} {x y : D} (hx : okd 12 x = true) (hy : okd 12 y = true) {p : Prop} [Decidable p] (h : PyData.eqv (py x) (py y) = decide p) : eqS S x y = some (decide p) := by
  unfold eqS
  rw [top_okd hx, top_okd hy, hx, hy, h]
  rfl
/-! ### repr -/
def flatB : D → Bool
  | .non => true
  | .bl _ => true
  | .int i => decide (i.natAbs < 2 ^ 200)
  | .str c => decide (c.length ≤ 10000)
  | _ => false
theorem b_repr {S : Store} {x : D} (h : flatB x = true) : bltS .repr [x] S = some (.val (.str (reprL S x))) := by
  show reprS S x = _
  unfold reprS
  have hx : top S x = x := by cases x <;> first | rfl | simp [flatB] at h
  rw [if_pos]
  rw [hx]
  cases x with
  | non => rfl
  | bl b => cases b <;> rfl
  | int i =>
    have h' : i.natAbs < 2 ^ 200 := by simpa [flatB] using h
    have hl : i.natAbs.log2 < 200 := by
      by_cases z : i.natAbs = 0
      · rw [z]; decide
      · exact (Nat.log2_lt z).mpr h'
    rw [Bool.and_eq_true, Bool.and_eq_true]
    exact ⟨⟨rfl, by rw [py, PyData.showable]; exact decide_eq_true (by omega)⟩, decide_eq_true (by rw [wt]; omega)⟩
  | str c =>
    have h' : c.length ≤ 10000 := by simpa [flatB] using h
    rw [Bool.and_eq_true, Bool.and_eq_true]
    exact ⟨⟨rfl, by rw [py, PyData.showable]⟩, decide_eq_true (by rw [wt]; omega)⟩
  | _ => simp [flatB] at h
/-! ### things in the store -/
section
variable {S : Store}
theorem pop_ref {l : Nat} {xs : List D} {i : Int} {k : Nat} {y : D} (h : S[l]? = some (.lv xs)) (hi : i.natAbs < 9223372036854775808) (hk : ixN xs.length i = some k) (hy : xs[k]? = some y) : mthS .popi (.ref l) [.int i] S = some (y, S.set l (.lv (xs.eraseIdx k))) := by
  simp only [mthS, h, hi, if_true, hk, Option.bind_some, hy, Option.map_some]
theorem tyOf_s (c : List Nat) : tyOf S (.str c) = some "str" := rfl
theorem tyOf_l (c : List D) : tyOf S (.lv c) = some "list" := rfl
theorem tyOf_d (ks : List DK) (vs : List D) : tyOf S (.dv false ks vs) = some "dict" := rfl
end
theorem perm_erase : ∀ (xs : List D) (k : Nat) (y : D), xs[k]? = some y → xs.Perm (y :: xs.eraseIdx k)
  | [], _, _, h => by simp at h
  | x :: xs, 0, y, h => by
    simp only [List.getElem?_cons_zero, Option.some.injEq] at h
    subst h
    exact List.Perm.refl _
  | x :: xs, k + 1, y, h => by
    have := perm_erase xs k y (by simpa using h)
    exact (this.cons x).trans (List.Perm.swap y x _)
/-! ### joins -/
theorem join_flat {S : Store} {l : List (List Nat)} (h : (l.map (·.length)).sum ≤ 1000000) : mthS .join (.str []) [.lv (l.map .str)] S = some (.str l.flatten, S) := by
  rw [m_join_l]
  · rw [joinL_nil]
  · simp only [List.length_nil, Nat.mul_zero, Nat.add_zero]
    exact ll h
theorem join_sgn {S : Store} {α : Type} {l : List α} {f : α → Nat} (h : l.length ≤ 1000000) : mthS .join (.str []) [.lv (l.map fun x => .str [f x])] S = some (.str (l.map f), S) := by
  have e : (l.map fun x => D.str [f x]) = (l.map fun x => [f x]).map .str := by rw [List.map_map]; rfl
  rw [e, join_flat (by rw [sum_single]; exact h), flat_single]
/-! ### order -/
theorem leD_iff {x y : D} {p : Prop} [Decidable p] (h : PySem.W.dataLt (py y) (py x) = decide p) : leD x y = !decide p := by
  unfold leD
  rw [h]
theorem b_sorted {S : Store} {x : D} {xs : List D} (h : drawS S x = some xs) (h1 : alikeL xs = true) (h2 : sortableL xs = true) (h3 : xs.length ≤ line) : bltS .sorted [x] S = some (.new (.lv (xs.mergeSort leD))) := by
  show (match drawS S x with
    | some xs => if alikeL xs && sortableL xs && decide (xs.length ≤ line) then some (PR.new (.lv (xs.mergeSort leD))) else none
    | none => none) = _
  rw [h]
  simp only [h1, h2, h3, decide_true, Bool.and_self, if_true]
theorem alikeL_of {α : Type} {l : List α} {f : α → D} (h1 : ∀ x, okd 12 (f x) = true) (h2 : ∀ x, isNon (f x) = false) (h3 : ∀ x y, PySem.W.alike (py (f x)) (py (f y)) = true) : alikeL (l.map f) = true := by
  unfold alikeL
  rw [okd_map h1, Bool.true_and, List.all_map, List.all_eq_true]
  intro x _
  simp only [Function.comp, h2, Bool.not_false, Bool.true_and, List.all_map, List.all_eq_true]
  exact fun y _ => h3 x y
theorem sort_tup {l : List D} (h : ∀ x ∈ l, isTup1 x = true) : sortableL l = true := by
  unfold sortableL
  rw [List.all_eq_true.mpr h]
  rfl
theorem sort_flat {l : List D} (h : ∀ x ∈ l, isNoTup x = true) : sortableL l = true := by
  unfold sortableL
  rw [List.all_eq_true.mpr h, Bool.or_true]
theorem map_sort {α : Type} {l : List α} {f : α → D} : (l.map f).mergeSort leD = (l.mergeSort fun a b => leD (f a) (f b)).map f := (List.map_mergeSort (r := fun a b => leD (f a) (f b)) (s := leD) (f := f) fun a _ b _ => rfl).symm
end Pd

/-! Pd23: more plain facts for the walks. -/
namespace Pd
open PySem PySem.Spec PyProof.Rows L2
section
variable {n : Nat} {S S1 S2 : Store} {fu : Nat} {Φ : Calls} {ρ : Env}
abbrev natsV (l : List Nat) : List D := l.map fun k : Nat => .int (k : Int)
theorem enum_rng {α : Type} (f : α → D) (d : α) (c : List α) : enumL 0 (c.map f) = (List.range c.length).map fun i : Nat => .tup [.int (i : Nat), f (c[i]?.getD d)] := by
  apply List.ext_getElem?
  intro i
  rw [enumL_get, List.getElem?_map, List.getElem?_map, Nat.zero_add]
  by_cases h : i < c.length
  · rw [List.getElem?_range h, List.getElem?_eq_getElem h]
    simp [List.getElem?_eq_getElem h]
  · rw [List.getElem?_eq_none (by omega), List.getElem?_eq_none (by rw [List.length_range]; omega)]
    rfl
theorem lt_one (a b : Nat) : ([a] < [b]) = (a < b) := propext (by rw [List.cons_lt_cons_iff]; simp [List.lt_irrefl])
theorem lidx {l : List Nat} {a p : Nat} (hl : l.length ≤ 1000) (h : l.findIdx? (fun b => decide (b = a)) = some p) : mthS .lindex (.lv (natsV l)) [.int a] S = some (.int p, S) := by
  have e : (natsV l).findIdx? (fun z => PyData.eqv (py z) (py (top S (.int (a : Int))))) = some p := by
    rw [List.findIdx?_map, ← h]
    congr 1
    funext b
    simp only [Function.comp, py, top, PyData.eqv]
    rw [Bool.eq_iff_iff, beq_iff_eq, decide_eq_true_eq]
    omega
  have ho : (natsV l).all (okd 11) = true := okd_map fun _ => rfl
  show (if _ then _ else _) = _
  rw [ho, e]
  rfl
theorem lidx0 {l : List Nat} {p : Nat} (hl : l.length ≤ 1000) (h : l.findIdx? (fun b => decide (b = 0)) = some p) : mthS .lindex (.lv (natsV l)) [.int 0] S = some (.int p, S) := lidx (a := 0) hl h
theorem ty_lidx (xs : List D) : (tyOf S (.lv xs) = some (mthTy .lindex)) = True := by simp [tyOf, mthTy]
theorem add0 (i : Nat) : (0 : Int) + (i : Int) = (i : Int) := by omega
def addL (acc : List (List Nat)) (c : List Nat) : List (List Nat) := if c ∈ acc then acc else acc ++ [c]
def dedupL (l : List (List Nat)) : List (List Nat) := l.foldl addL []
theorem dPutV_mapS (v : D) (c : List Nat) : ∀ L : List (List Nat), dPutV (.s c) v (L.map .s) (L.map fun _ => v) = L.map fun _ => v
  | [] => rfl
  | d :: L => by
    rw [List.map_cons, List.map_cons, dPutV, dPutV_mapS v c L]
    split <;> rfl
theorem any_keyS (c : List Nat) (L : List (List Nat)) : (L.map DK.s).any (fun j => decide (j = .s c)) = decide (c ∈ L) := by
  rw [Bool.eq_iff_iff, List.any_eq_true, decide_eq_true_eq]
  constructor
  · rintro ⟨j, hj, e⟩
    obtain ⟨d, hd, rfl⟩ := List.mem_map.mp hj
    have : d = c := by simpa using of_decide_eq_true e
    exact this ▸ hd
  · intro h
    exact ⟨.s c, List.mem_map.mpr ⟨c, h, rfl⟩, by simp⟩
theorem fold_keysS (v : D) : ∀ (l acc : List (List Nat)), foldPut (l.map fun c => (DK.s c, v)) (acc.map .s, acc.map fun _ => v) = ((l.foldl addL acc).map .s, (l.foldl addL acc).map fun _ => v)
  | [], _ => rfl
  | c :: l, acc => by
    rw [List.map_cons, foldPut, List.foldl_cons]
    have e : dPut (.s c) v (acc.map .s) (acc.map fun _ => v) = ((addL acc c).map .s, (addL acc c).map fun _ => v) := by
      unfold dPut addL
      rw [any_keyS]
      by_cases h : c ∈ acc
      · rw [if_pos (decide_eq_true h), if_pos h, dPutV_mapS]
      · rw [if_neg (by simpa using h), if_neg h, List.map_append, List.map_append]
        rfl
    rw [e]
    exact fold_keysS v l _
theorem mem_foldL {l acc : List (List Nat)} {c : List Nat} : c ∈ l.foldl addL acc ↔ c ∈ acc ∨ c ∈ l := by
  induction l generalizing acc with
  | nil => simp
  | cons d l ih =>
    rw [List.foldl_cons, ih]
    have : c ∈ addL acc d ↔ c ∈ acc ∨ c = d := by
      unfold addL
      split
      · rename_i h
        exact ⟨.inl, fun z => z.elim id fun z => z ▸ h⟩
      · simp
    rw [this]
    simp only [List.mem_cons, or_assoc]
theorem mem_dedupL {l : List (List Nat)} {c : List Nat} : c ∈ dedupL l ↔ c ∈ l := by
  unfold dedupL
  rw [mem_foldL]
  simp
theorem foldL_len (l acc : List (List Nat)) : (l.foldl addL acc).length ≤ acc.length + l.length := by
  induction l generalizing acc with
  | nil => simp
  | cons d l ih =>
    rw [List.foldl_cons, List.length_cons]
    have h1 := ih (addL acc d)
    have h2 : (addL acc d).length ≤ acc.length + 1 := by unfold addL; split <;> simp
    omega
theorem alike_strs (l : List (List Nat)) : alikeL (l.map .str) = true := alikeL_of (fun _ => rfl) (fun _ => rfl) fun _ _ => by simp only [py, PySem.W.alike]
theorem sortable_strs (l : List (List Nat)) : sortableL (l.map .str) = true := sort_flat fun x hx => by
  obtain ⟨k, _, rfl⟩ := List.mem_map.mp hx
  rfl
def sortS (l : List (List Nat)) : List (List Nat) := l.mergeSort fun a b => leD (.str a) (.str b)
theorem b_sortS {S : Store} {l : List (List Nat)} (h : l.length ≤ 1000000) : bltS .sorted [.lv (l.map .str)] S = some (.new (.lv ((sortS l).map .str))) := by
  rw [b_sorted rfl (alike_strs l) (sortable_strs l) (by rw [List.length_map]; exact ll h), map_sort]
  rfl
theorem sortS_perm (l : List (List Nat)) : (sortS l).Perm l := List.mergeSort_perm _ _
/-- a for that finds what it looks for -/
theorem forFix_find {i : Nat} {b : Env → Store → Option (Fl × Store)} {w : List Nat} {S : Store} {I : Env → Prop} : ∀ (L : List (List Nat)) (ρ : Env), I ρ → w ∈ L → (∀ x ∈ L, ∀ ρ, I ρ → I (ρ.set i (some (.str x))) ∧ (x ≠ w → b (ρ.set i (some (.str x))) S = some (.nx (ρ.set i (some (.str x))), S)) ∧ (x = w → b (ρ.set i (some (.str x))) S = some (.rt (.str w), S))) →
    forFix (.nm i) b (L.map .str) ρ S = some (.rt (.str w), S)
  | [], _, _, h, _ => by cases h
  | x :: L, ρ, hI, hm, h => by
    obtain ⟨h1, h2, h3⟩ := h x List.mem_cons_self ρ hI
    rw [List.map_cons, forFix]
    show ((b (ρ.set i (some (.str x))) S).bind _) = _
    by_cases e : x = w
    · rw [h3 e]
      rfl
    · rw [h2 e]
      exact forFix_find L _ h1 ((List.mem_cons.mp hm).resolve_left fun z => e z.symm) fun y hy => h y (List.mem_cons_of_mem _ hy)
theorem drawS_str {z : List Nat} (hz : z.length ≤ line) : drawS S (.str z) = some (z.map fun c => .str [c]) := by
  show (if _ then _ else _) = _
  rw [if_pos hz]
theorem alike_sgn (l : List Nat) : alikeL (l.map fun c => .str [c]) = true := alikeL_of (fun _ => rfl) (fun _ => rfl) fun _ _ => by simp only [py, PySem.W.alike]
theorem sortable_sgn (l : List Nat) : sortableL (l.map fun c => .str [c]) = true := sort_flat fun x hx => by
  obtain ⟨k, _, rfl⟩ := List.mem_map.mp hx
  rfl
def sortC (l : List Nat) : List Nat := l.mergeSort fun a b => leD (.str [a]) (.str [b])
theorem sortC_len (l : List Nat) : (sortC l).length = l.length := List.length_mergeSort _
theorem b_sortC {z : List Nat} (hz : z.length ≤ 1000000) : bltS .sorted [.str z] S = some (.new (.lv ((sortC z).map fun c => .str [c]))) := by
  rw [b_sorted (drawS_str (ll hz)) (alike_sgn z) (sortable_sgn z) (by rw [List.length_map]; exact ll hz), map_sort]
  rfl
theorem whl_run {c : Env → Store → Option (D × Store)} {b : Env → Store → Option (Fl × Store)} {S : Store} {ρ : Nat → Env} {k : Nat} (h1 : ∀ i, i < k → c (ρ i) S = some (.bl true, S)) (h2 : ∀ i, i < k → b (ρ i) S = some (.nx (ρ (i + 1)), S)) (h3 : c (ρ k) S = some (.bl false, S)) :
    ∀ (d i f : Nat), i + d = k → d < f → whileN c b f (ρ i) S = some (.nx (ρ k), S)
  | d, i, 0, _, hf => absurd hf (Nat.not_lt_zero _)
  | 0, i, f + 1, e, _ => by
    have e : i = k := e
    subst e
    rw [whileN, h3]
    rfl
  | d + 1, i, f + 1, e, hf => by
    rw [whileN, h1 i (by omega)]
    show ((b (ρ i) S).bind _) = _
    rw [h2 i (by omega)]
    exact whl_run h1 h2 h3 d (i + 1) f (by omega) (by omega)
theorem whl_run0 {fu : Nat} {Φ : Calls} {c : E} {b : Pd.T} {S : Store} {ρ : Nat → Env} {k : Nat} (h1 : ∀ i, i < k → ev fu Φ c (ρ i) S = some (.bl true, S)) (h2 : ∀ i, i < k → run fu Φ b (ρ i) S = some (.nx (ρ (i + 1)), S)) (h3 : ev fu Φ c (ρ k) S = some (.bl false, S)) (hk : k < fu) :
    run fu Φ (.whl c b) (ρ 0) S = some (.nx (ρ k), S) := whl_run h1 h2 h3 k 0 fu (Nat.zero_add _) hk
/-- the greatest of numbers, 0 at least -/
def maxI (l : List Nat) : D := maxL (.int 0) (natsV l)
theorem b_max0 (l : List Nat) : bltS .max [.lv (D.int 0 :: natsV l)] S = some (.val (maxI l)) := by
  have e : (D.int 0 :: natsV l) = (0 :: l).map fun k : Nat => D.int (k : Int) := rfl
  have ha : alikeL (D.int 0 :: natsV l) = true := by
    rw [e]
    exact alikeL_of (fun _ => rfl) (fun _ => rfl) fun _ _ => by simp only [py, PySem.W.alike]
  show (if alikeL (D.int 0 :: natsV l) = true then some (PR.val (maxL (.int 0) (natsV l))) else none) = _
  rw [if_pos ha]
  rfl
theorem maxI_mem (l : List Nat) : ∃ k, (k = 0 ∨ k ∈ l) ∧ maxI l = .int (k : Nat) := by
  have := maxL_mem (natsV l) (.int 0)
  rcases List.mem_cons.mp this with h | h
  · exact ⟨0, .inl rfl, h⟩
  · obtain ⟨k, hk, e⟩ := List.mem_map.mp h
    exact ⟨k, .inr hk, e.symm⟩
theorem zip_next {α : Type} (d : α) (c : List α) : c.zip (c.drop 1) = (List.range (c.length - 1)).map fun i => (c[i]?.getD d, c[i + 1]?.getD d) := by
  apply List.ext_getElem
  · rw [List.length_zip, List.length_drop, List.length_map, List.length_range]; omega
  · intro i h1 h2
    rw [List.length_map, List.length_range] at h2
    rw [List.getElem_zip, List.getElem_map, List.getElem_range, List.getElem_drop, List.getElem?_eq_getElem (by omega), List.getElem?_eq_getElem (by omega)]
    simp [Nat.add_comm]
theorem cut_m1 {α : Type} (xs : List α) : cutL xs none (some (-1)) = xs.dropLast := by
  unfold cutL
  have e : HT.sIx xs.length xs.length (some (-1)) = xs.length - 1 := by
    show (if (-1 : Int) < 0 then ((-1 : Int) + (xs.length : Int)).toNat else min (-1 : Int).toNat xs.length) = _
    rw [if_pos (by decide)]
    omega
  rw [e, HT.sIx_none, List.drop_zero, Nat.sub_zero, List.dropLast_eq_take]
theorem evs_cons {e : E} {es : Es} {x : D} {ys : List D} (h1 : ev fu Φ e ρ S = some (x, S1)) (h2 : evs fu Φ es ρ S1 = some (ys, S2)) : evs fu Φ (.cons e es) ρ S = some (x :: ys, S2) := by
  show ((ev fu Φ e ρ S).bind fun x => (evs fu Φ es ρ x.2).map fun y => (x.1 :: y.1, y.2)) = _
  rw [h1, Option.bind_some, h2]
  rfl
theorem ev_call {f : Str} {es : Es} {xs : List D} (h : evs fu Φ es ρ S = some (xs, S1)) : ev fu Φ (.call f es) ρ S = Φ f xs S1 := by
  show ((evs fu Φ es ρ S).bind fun x => Φ f x.1 x.2) = _
  rw [h]
  rfl
theorem ev_lst {es : Es} {xs : List D} (h : evs fu Φ es ρ S = some (xs, S1)) (hl : xs.length ≤ line) : ev fu Φ (.lst false es) ρ S = some (.lv xs, S1) := by
  show ((evs fu Φ es ρ S).bind fun x => if x.1.length ≤ line then some (fin false (.new (.lv x.1)) x.2) else none) = _
  rw [h, Option.bind_some, if_pos hl]
  rfl
theorem run_ret {e : E} {d : D} (h : ev fu Φ e ρ S = some (d, S1)) : run fu Φ (.ret e) ρ S = some (.rt d, S1) := by
  show (ev fu Φ e ρ S).map _ = _
  rw [h]
  rfl
theorem run_set {i : Nat} {e : E} {d : D} (h : ev fu Φ e ρ S = some (d, S1)) : run fu Φ (.set i e) ρ S = some (.nx (ρ.set i (some d)), S1) := by
  show (ev fu Φ e ρ S).map _ = _
  rw [h]
  rfl
theorem p_mul_s {z : List Nat} {k : Nat} (h : z.length * k ≤ 100000) (hk : k ≤ 1000000) : opS .mul (.str z) (.int k) S = some (.val (.str (List.replicate k z).flatten)) := by
  show (if _ then _ else _) = _
  rw [if_pos ⟨by omega, by rw [Int.toNat_natCast]; exact ll (by omega)⟩, Int.toNat_natCast]
theorem add_one (i : Nat) : (1 : Int) + (i : Int) = ((1 + i : Nat) : Int) := by omega
theorem sub_back (i : Nat) : ((1 + i : Nat) : Int) - 1 = (i : Int) := by omega
theorem leC (a b : Nat) : leD (.str [a]) (.str [b]) = !decide (b < a) := leD_iff (by simp only [py, pys, PySem.W.dataLt_str, lt_one])
theorem sortC_eq {w l : List Nat} (hp : l.Perm w) (hw : l.Pairwise (fun a b => a ≤ b)) : sortC w = l := by
  have hs : (sortC w).Pairwise (fun a b => a ≤ b) := by
    have := List.pairwise_mergeSort (le := fun a b => leD (.str [a]) (.str [b])) (fun a b c => by simp only [leC, Bool.not_eq_true', decide_eq_false_iff_not]; omega) (fun a b => by simp only [leC, Bool.or_eq_true, Bool.not_eq_true', decide_eq_false_iff_not]; omega) w
    exact this.imp fun h => by simp only [leC, Bool.not_eq_true', decide_eq_false_iff_not] at h; omega
  exact ((List.mergeSort_perm _ _).trans hp.symm).eq_of_pairwise (fun a b _ _ h1 h2 => Nat.le_antisymm h1 h2) hs hw
theorem ints_eq {xs ys : List Int} (h : xs = ys) : eqS S (.tup (xs.map .int)) (.tup (ys.map .int)) = some true := by
  subst h
  exact eq_same (okd_map fun _ => rfl)
end
section
variable {S : Store} {fu : Nat} {Φ : Calls} {ρ : Env}
/-- a for over a list that stays, in the store -/
theorem forG_inv {β : Type} {l : Nat} {g : Tg} {b : Env → Store → Option (Fl × Store)} {φ : β → D} {L : List β} (hS : S[l]? = some (.lv (L.map φ))) (I : Nat → Env → Prop)
    (hs : ∀ (j : Nat) (x : β) (ρ : Env), L[j]? = some x → I j ρ → ∃ ρ1 ρ2, bindTg g (φ x) ρ = some ρ1 ∧ b ρ1 S = some (.nx ρ2, S) ∧ I (j + 1) ρ2) :
    ∀ (k n i : Nat) (ρ : Env), i + k = L.length → k < n → I i ρ → ∃ ρ', forG (nxD l) g b n i ρ S = some (.nx ρ', S) ∧ I L.length ρ'
  | k, 0, i, ρ, _, h, _ => absurd h (Nat.not_lt_zero _)
  | 0, n + 1, i, ρ, e, _, hI => by
    refine ⟨ρ, ?_, by rw [← e]; exact hI⟩
    rw [forG]
    simp only [nxD, hS]
    rw [List.getElem?_eq_none (by rw [List.length_map]; omega)]
  | k + 1, n + 1, i, ρ, e, h, hI => by
    have hlt : i < L.length := by omega
    obtain ⟨ρ1, ρ2, h1, h2, h3⟩ := hs i L[i] ρ (List.getElem?_eq_getElem hlt) hI
    obtain ⟨ρ', h4, h5⟩ := forG_inv hS I hs k n (i + 1) ρ2 (by omega) (by omega) h3
    refine ⟨ρ', ?_, h5⟩
    rw [forG]
    simp only [nxD, hS]
    rw [List.getElem?_map, List.getElem?_eq_getElem hlt]
    simp only [Option.map_some, h1, h2, Option.bind_some, h4]
/-- a for over what is drawn, the store staying -/
theorem loop_any {β : Type} {g : Tg} {e : E} {b : Pd.T} {φ : β → D} {L : List β} {d : D} (he : ev fu Φ e ρ S = some (d, S)) (hd : walkOf S d = some (.fix (L.map φ)) ∨ ∃ l, walkOf S d = some (.dyn l) ∧ S[l]? = some (.lv (L.map φ))) (hl : L.length < fu) (I : Nat → Env → Prop) (h0 : I 0 ρ)
    (hs : ∀ (j : Nat) (x : β) (ρ : Env), L[j]? = some x → I j ρ → ∃ ρ1 ρ2, bindTg g (φ x) ρ = some ρ1 ∧ run fu Φ b ρ1 S = some (.nx ρ2, S) ∧ I (j + 1) ρ2) :
    ∃ ρ', run fu Φ (.loop g (.of e) b) ρ S = some (.nx ρ', S) ∧ I L.length ρ' := by
  show ∃ ρ', (((ev fu Φ e ρ S).bind fun x => (walkOf x.2 x.1).map fun w => (w, x.2)).bind _) = _ ∧ _
  rw [he, Option.bind_some]
  rcases hd with hd | ⟨l, hd, hS⟩
  · obtain ⟨ρ', S', h1, h2, h3⟩ := forFix_inv (g := g) (b := run fu Φ b) (φ := φ) (fun i ρ S' => I i ρ ∧ S' = S) L 0 ρ S ⟨h0, rfl⟩ fun j x ρ S' hj ⟨hI, e⟩ => by
      subst e
      obtain ⟨ρ1, ρ2, q1, q2, q3⟩ := hs j x ρ hj (by rwa [Nat.zero_add] at hI)
      exact ⟨ρ1, ρ2, _, q1, .inl q2, by rw [Nat.zero_add]; exact q3, rfl⟩
    subst h3
    rw [Nat.zero_add] at h2
    refine ⟨ρ', ?_, h2⟩
    simp only [hd, Option.map_some, Option.bind_some]
    exact h1
  · obtain ⟨ρ', h1, h2⟩ := forG_inv (g := g) (b := run fu Φ b) hS I hs L.length fu 0 ρ (Nat.zero_add _) hl h0
    refine ⟨ρ', ?_, h2⟩
    simp only [hd, Option.map_some, Option.bind_some]
    exact h1
theorem turn2_go {g g1 : Tg} {vs vs1 : List Nat} {ft ft1 : Env → Store → Option (Bool × Store)} {fi1 : Env → Store → Option (W × Store)} {fe : Env → Store → Option (D × Store)} {d : D} {ρ1 : Env} {xs ys : List D} (h1 : bindTg g d (wipeE ρ vs) = some ρ1) (h2 : ft ρ1 S = some (true, S)) (h3 : fi1 ρ1 S = some (.fix xs, S)) (h4 : runFix (turnF g1 vs1 ft1 fe ρ1) xs S = some (ys, S)) :
    turn2 fu g vs ft fi1 g1 vs1 ft1 fe ρ d S = some (some ys, S) := by
  unfold turn2
  rw [h1, Option.bind_some, h2, Option.bind_some, if_pos rfl, h3, Option.bind_some]
  show (runFix (turnF g1 vs1 ft1 fe ρ1) xs S).map _ = _
  rw [h4]
  rfl
/-- two generators, nothing changing -/
theorem lc2_fix {elt : E} {g g1 : Tg} {vs vs1 : List Nat} {it it1 : It} {c c1 : Es} {β : Type} {L : List β} {φ : β → D} (G : β → List D) (h1 : evI fu Φ it ρ S = some (.fix (L.map φ), S))
    (h2 : ∀ b ∈ L, turn2 fu g vs (evT fu Φ c) (evI fu Φ it1) g1 vs1 (evT fu Φ c1) (ev fu Φ elt) ρ (φ b) S = some (some (G b), S)) (h3 : (L.map G).flatten.length ≤ line) :
    ev fu Φ (.lc2 elt g vs it c g1 vs1 it1 c1) ρ S = some (.lv (L.map G).flatten, S) := by
  show ((evI fu Φ it ρ S).bind fun w => (runW fu (turn2 fu g vs (evT fu Φ c) (evI fu Φ it1) g1 vs1 (evT fu Φ c1) (ev fu Φ elt) ρ) w.1 w.2).bind fun r => if r.1.flatten.length ≤ line then some (D.lv r.1.flatten, r.2) else none) = _
  rw [h1]
  simp only [Option.bind_some, runW, runFix_map h2, h3, if_true]
end
end Pd

namespace Pd
open PySem PySem.Spec PyProof.Rows L2
def d_is_letters_c1 : E := .lc false (.cmp .mem (.var 3) (.gv "LETTERS" (.str [97, 98, 99, 100, 101, 102, 103, 104, 105, 106, 107, 108, 109, 110, 111, 112, 113, 114, 115, 116, 117, 118, 119, 120, 121, 122]))) (.nm 3) [3] (.of (.var 0)) (.nil)
def d_is_letters : Fn := ⟨"is_letters", ["thing", "least", "most"], ["thing", "least", "most", "sign"],
  .seq (.ret (.and (.blt .isinst false (.cons (.var 0) (.cons (.ty "str") .nil))) (.and (.chain .le .le (.var 1) (.blt .len false (.cons (.var 0) .nil)) (.var 2)) (.blt .all false (.cons (d_is_letters_c1) .nil))))) .skip, false⟩
def d_is_text : Fn := ⟨"is_text", ["thing"], ["thing"],
  .seq (.ret (.call "is_letters" (.cons (.var 0) (.cons (.int 0) (.cons (.gv "MOST_TEXT" (.int (12))) .nil))))) .skip, false⟩
def d_check_text : Fn := ⟨"check_text", ["thing"], ["thing"],
  .seq (.ite (.not (.call "is_text" (.cons (.var 0) .nil))) (.seq (.never) .skip) (.skip)) .skip, false⟩
def d_check_two : Fn := ⟨"check_two", ["one", "other"], ["one", "other"],
  .seq (.ex (.call "check_text" (.cons (.var 0) .nil))) (.seq (.ex (.call "check_text" (.cons (.var 1) .nil))) .skip), false⟩
def d_raw_dots_c1 : E := .lc false (.ite (.cmp .eq (.var 2) (.var 3)) (.gv "DOT" (.str [35])) (.gv "BARE" (.str [46]))) (.nm 3) [3] (.of (.var 1)) (.nil)
def d_raw_dots_c2 : E := .lc false (.mth .join (.str []) (.cons (d_raw_dots_c1) .nil)) (.nm 2) [2] (.of (.var 0)) (.nil)
def d_raw_dots : Fn := ⟨"raw_dots", ["one", "other"], ["one", "other", "letter", "its"],
  .seq (.ret (d_raw_dots_c2)) .skip, false⟩
def d_dots : Fn := ⟨"dots", ["one", "other"], ["one", "other"],
  .seq (.ex (.call "check_two" (.cons (.var 0) (.cons (.var 1) .nil)))) (.seq (.ret (.blt .tuple false (.cons (.call "raw_dots" (.cons (.var 0) (.cons (.var 1) .nil))) .nil))) .skip), false⟩
def d_is_dot : Fn := ⟨"is_dot", ["one", "other", "i", "j"], ["one", "other", "i", "j"],
  .seq (.ret (.and (.chain .le .lt (.int 0) (.var 2) (.blt .len false (.cons (.var 0) .nil))) (.and (.chain .le .lt (.int 0) (.var 3) (.blt .len false (.cons (.var 1) .nil))) (.cmp .eq (.sub (.var 0) (.var 2)) (.sub (.var 1) (.var 3)))))) .skip, false⟩
def d_all_dots_c1 : E := .lc2 (.tup (.cons (.var 2) (.cons (.var 3) .nil))) (.nm 2) [2, 3] (.range (.cons (.blt .len false (.cons (.var 0) .nil)) .nil)) (.nil) (.nm 3) [3] (.range (.cons (.blt .len false (.cons (.var 1) .nil)) .nil)) (.cons (.cmp .eq (.sub (.var 0) (.var 2)) (.sub (.var 1) (.var 3))) .nil)
def d_all_dots : Fn := ⟨"all_dots", ["one", "other"], ["one", "other", "i", "j"],
  .seq (.ret (d_all_dots_c1)) .skip, false⟩
def d_dots_many : Fn := ⟨"dots_many", ["one", "other"], ["one", "other"],
  .seq (.ex (.call "check_two" (.cons (.var 0) (.cons (.var 1) .nil)))) (.seq (.ret (.blt .len false (.cons (.call "all_dots" (.cons (.var 0) (.cons (.var 1) .nil))) .nil))) .skip), false⟩
def d_slant_length_o1 : E := .op .add (.var 6) (.op .mul (.var 3) (.var 4))
def d_slant_length_b1 : T := .seq (.aug 4 .add (.int 1)) .skip
def d_slant_length : Fn := ⟨"slant_length", ["one", "other", "pair", "way"], ["one", "other", "pair", "way", "many", "i", "j"],
  .seq (.tset [5, 6] (.var 2)) (.seq (.set 4 (.int 0)) (.seq (.whl (.call "is_dot" (.cons (.var 0) (.cons (.var 1) (.cons (.op .add (.var 5) (.var 4)) (.cons (d_slant_length_o1) .nil))))) (d_slant_length_b1)) (.seq (.ret (.var 4)) .skip))), false⟩
def d_raw_slants_b1 : T := .seq (.ite (.not (.call "is_dot" (.cons (.var 0) (.cons (.var 1) (.cons (.op .sub (.var 4) (.int 1)) (.cons (.op .sub (.var 5) (.var 2)) .nil)))))) (.seq (.set 6 (.call "slant_length" (.cons (.var 0) (.cons (.var 1) (.cons (.tup (.cons (.var 4) (.cons (.var 5) .nil))) (.cons (.var 2) .nil)))))) (.seq (.set 3 (.op .add (.var 3) (.ite (.cmp .ge (.var 6) (.gv "LEAST_SLANT" (.int (2)))) (.lst false (.cons (.tup (.cons (.var 4) (.cons (.var 5) (.cons (.var 6) .nil)))) .nil)) (.lst false (.nil))))) .skip)) (.skip)) .skip
def d_raw_slants : Fn := ⟨"raw_slants", ["one", "other", "way"], ["one", "other", "way", "found", "i", "j", "many"],
  .seq (.set 3 (.lst false (.nil))) (.seq (.loop (.tp [4, 5]) (.of (.call "all_dots" (.cons (.var 0) (.cons (.var 1) .nil)))) (d_raw_slants_b1)) (.seq (.ret (.var 3)) .skip)), false⟩
def d_slants : Fn := ⟨"slants", ["one", "other"], ["one", "other"],
  .seq (.ex (.call "check_two" (.cons (.var 0) (.cons (.var 1) .nil)))) (.seq (.ret (.blt .tuple false (.cons (.call "raw_slants" (.cons (.var 0) (.cons (.var 1) (.cons (.int 1) .nil)))) .nil))) .skip), false⟩
def d_longest_slant_c1 : E := .lc false (.tup (.cons (.neg (.var 5)) (.cons (.tup (.cons (.var 3) (.cons (.var 4) (.cons (.var 5) .nil)))) .nil))) (.tp [3, 4, 5]) [3, 4, 5] (.of (.call "raw_slants" (.cons (.var 0) (.cons (.var 1) (.cons (.int 1) .nil))))) (.nil)
def d_longest_slant : Fn := ⟨"longest_slant", ["one", "other"], ["one", "other", "some", "i", "j", "many"],
  .seq (.ex (.call "check_two" (.cons (.var 0) (.cons (.var 1) .nil)))) (.seq (.set 2 (d_longest_slant_c1)) (.seq (.ret (.ite (.cmp .gt (.blt .len false (.cons (.var 2) .nil)) (.int 0)) (.sub (.blt .min false (.cons (.var 2) .nil)) (.int 1)) (.non))) .skip)), false⟩
def d_back_slants : Fn := ⟨"back_slants", ["one", "other"], ["one", "other"],
  .seq (.ex (.call "check_two" (.cons (.var 0) (.cons (.var 1) .nil)))) (.seq (.ret (.blt .tuple false (.cons (.call "raw_slants" (.cons (.var 0) (.cons (.var 1) (.cons (.neg (.int 1)) .nil)))) .nil))) .skip), false⟩
def d_raw_sums_b1 : T := .seq (.setI (.var 2) (.op .sub (.var 4) (.var 3)) (.op .add (.mth .get (.var 2) (.cons (.op .sub (.var 4) (.var 3)) (.cons (.int 0) .nil))) (.int 1))) .skip
def d_raw_sums : Fn := ⟨"raw_sums", ["one", "other"], ["one", "other", "found", "i", "j"],
  .seq (.set 2 (.dct true false .nil .nil)) (.seq (.loop (.tp [3, 4]) (.of (.call "all_dots" (.cons (.var 0) (.cons (.var 1) .nil)))) (d_raw_sums_b1)) (.seq (.ret (.var 2)) .skip)), false⟩
def d_slant_sums : Fn := ⟨"slant_sums", ["one", "other"], ["one", "other"],
  .seq (.ex (.call "check_two" (.cons (.var 0) (.cons (.var 1) .nil)))) (.seq (.ret (.call "raw_sums" (.cons (.var 0) (.cons (.var 1) .nil)))) .skip), false⟩
def d_best_shift_c1 : E := .lc false (.tup (.cons (.neg (.sub (.var 2) (.var 4))) (.cons (.blt .abs false (.cons (.var 4) .nil)) (.cons (.var 4) .nil)))) (.nm 4) [4] (.of (.var 2)) (.nil)
def d_best_shift : Fn := ⟨"best_shift", ["one", "other"], ["one", "other", "told", "some", "shift"],
  .seq (.ex (.call "check_two" (.cons (.var 0) (.cons (.var 1) .nil)))) (.seq (.set 2 (.call "raw_sums" (.cons (.var 0) (.cons (.var 1) .nil)))) (.seq (.set 3 (d_best_shift_c1)) (.seq (.ret (.ite (.cmp .gt (.blt .len false (.cons (.var 3) .nil)) (.int 0)) (.sub (.blt .min false (.cons (.var 3) .nil)) (.int 2)) (.non))) .skip))), false⟩
def d_rows_without_c1 : E := .lc false (.var 2) (.tp [2, 3]) [2, 3] (.enum (.var 0)) (.cons (.cmp .nmem (.var 3) (.var 1)) .nil)
def d_rows_without : Fn := ⟨"rows_without", ["one", "other"], ["one", "other", "i", "letter"],
  .seq (.ex (.call "check_two" (.cons (.var 0) (.cons (.var 1) .nil)))) (.seq (.ret (.blt .tuple false (.cons (d_rows_without_c1) .nil))) .skip), false⟩
def d_law_hand_o1 : E := .op .add (.int 401) (.op .mul (.int 337) (.blt .len false (.cons (.var 1) .nil)))
def d_law_hand_c1 : E := .lc false (.blt .abs false (.cons (.blt .int false (.cons (.var 2) .nil)) .nil)) (.nm 2) [2] (.of (.slc (.var 0) (.nil) (.cons (.int 63) .nil))) (.nil)
def d_law_hand : Fn := ⟨"_law_hand", ["script"], ["script", "cells_here", "cell"],
  .seq (.set 1 (d_law_hand_c1)) (.seq (.ret (.lst true (.cons (.var 1) (.cons (.int 0) (.cons (.int 0) (.cons (d_law_hand_o1) (.cons (.int 0) .nil))))))) .skip), true⟩
def d_law_draw_o1 : E := .op .mod (.blt .int false (.cons (.op .fdiv (.var 2) (.int 16)) .nil)) (.var 1)
def d_law_draw_o2 : E := .op .mod (.blt .int false (.cons (.op .mul (.var 2) (.op .add (.op .fdiv (.var 2) (.int 2003)) (.int 40692))) .nil)) (.int 2147483399)
def d_law_draw_o3 : E := .op .mod (.blt .int false (.cons (.op .mul (.var 2) (.op .add (.op .fdiv (.var 2) (.int 1009)) (.int 69621))) .nil)) (.int 2147483647)
def d_law_draw_o4 : E := .op .mod (.blt .int false (.cons (.op .mul (.blt .int false (.cons (.op .add (.sub (.var 0) (.int 3)) (.op .mul (.int 7919) (.sub (.var 0) (.int 4)))) .nil)) (.int 48271)) .nil)) (.int 2147483647)
def d_law_draw_o5 : E := .op .fdiv (.sub (.var 0) (.int 2)) (.var 1)
def d_law_draw_o6 : E := .op .mod (.blt .int false (.cons (.sub (.var 0) (.int 2)) .nil)) (.var 1)
def d_law_draw_o7 : E := .op .pow (.int 10) (.int 18)
def d_law_draw_o8 : E := .op .mod (.blt .int false (.cons (.op .add (.op .add (.op .mul (.sub (.var 0) (.int 3)) (.int 69621)) (.var 3)) (.int 367)) .nil)) (.int 2147483629)
def d_law_draw : Fn := ⟨"_law_draw", ["hand", "many"], ["hand", "many", "number", "cell", "digit"],
  .seq (.ite (.and (.cmp .eq (.sub (.var 0) (.int 2)) (.int 0)) (.cmp .lt (.sub (.var 0) (.int 1)) (.blt .len false (.cons (.sub (.var 0) (.int 0)) .nil)))) (.seq (.set 3 (.sub (.sub (.var 0) (.int 0)) (.sub (.var 0) (.int 1)))) (.seq (.setI (.var 0) (.int 1) (.op .add (.sub (.var 0) (.int 1)) (.int 1))) (.seq (.setI (.var 0) (.int 3) (d_law_draw_o8)) (.seq (.ite (.cmp .ge (.var 3) (d_law_draw_o7)) (.seq (.setI (.var 0) (.int 2) (.var 3)) .skip) (.skip)) .skip)))) (.skip)) (.seq (.ite (.cmp .gt (.sub (.var 0) (.int 2)) (.int 0)) (.seq (.set 4 (d_law_draw_o6)) (.seq (.setI (.var 0) (.int 2) (d_law_draw_o5)) (.seq (.ret (.var 4)) .skip))) (.skip)) (.seq (.setI (.var 0) (.int 4) (.op .add (.sub (.var 0) (.int 4)) (.int 1))) (.seq (.set 2 (d_law_draw_o4)) (.seq (.set 2 (d_law_draw_o3)) (.seq (.set 2 (d_law_draw_o2)) (.seq (.ret (d_law_draw_o1)) .skip)))))), false⟩
def d_law_any : Fn := ⟨"_law_any", ["hand", "things"], ["hand", "things"],
  .seq (.ret (.sub (.var 1) (.call "_law_draw" (.cons (.var 0) (.cons (.blt .len false (.cons (.var 1) .nil)) .nil))))) .skip, false⟩
def d_law_is_c1 : E := .lc false (.call "_law_is" (.cons (.var 2) (.cons (.var 3) .nil))) (.tp [2, 3]) [2, 3] (.zip (.var 0) (.var 1)) (.nil)
def d_law_is : Fn := ⟨"_law_is", ["came", "due"], ["came", "due", "one", "other"],
  .seq (.ite (.blt .isinst false (.cons (.var 1) (.cons (.tup (.cons (.ty "tuple") (.cons (.ty "list") .nil))) .nil))) (.seq (.ite (.or (.cmp .ne (.blt .isinst false (.cons (.var 0) (.cons (.ty "tuple") .nil))) (.blt .isinst false (.cons (.var 1) (.cons (.ty "tuple") .nil)))) (.not (.blt .isinst false (.cons (.var 0) (.cons (.tup (.cons (.ty "tuple") (.cons (.ty "list") .nil))) .nil))))) (.seq (.ret (.bl false)) .skip) (.skip)) (.seq (.ret (.and (.cmp .eq (.blt .len false (.cons (.var 0) .nil)) (.blt .len false (.cons (.var 1) .nil))) (.blt .all false (.cons (d_law_is_c1) .nil)))) .skip)) (.skip)) (.seq (.ite (.or (.cmp .isN (.var 1) (.non)) (.blt .isinst false (.cons (.var 1) (.cons (.ty "bool") .nil)))) (.seq (.ret (.ite (.cmp .isN (.var 1) (.non)) (.cmp .isN (.var 0) (.non)) (.and (.blt .isinst false (.cons (.var 0) (.cons (.ty "bool") .nil))) (.cmp .eq (.blt .repr false (.cons (.var 0) .nil)) (.blt .repr false (.cons (.var 1) .nil)))))) .skip) (.skip)) (.seq (.ite (.blt .isinst false (.cons (.var 1) (.cons (.ty "str") .nil))) (.seq (.ret (.and (.blt .isinst false (.cons (.var 0) (.cons (.ty "str") .nil))) (.cmp .eq (.blt .repr false (.cons (.var 0) .nil)) (.blt .repr false (.cons (.var 1) .nil))))) .skip) (.skip)) (.seq (.ret (.and (.blt .isinst false (.cons (.var 0) (.cons (.ty "int") .nil))) (.and (.not (.blt .isinst false (.cons (.var 0) (.cons (.ty "bool") .nil)))) (.cmp .eq (.blt .repr false (.cons (.var 0) .nil)) (.blt .repr false (.cons (.var 1) .nil)))))) .skip))), false⟩
def d_law_letters_b1 : T := .seq (.set 3 (.op .add (.var 3) (.call "_law_any" (.cons (.var 0) (.cons (.var 2) .nil))))) .skip
def d_law_letters : Fn := ⟨"_law_letters", ["hand", "many"], ["hand", "many", "some", "found", "step"],
  .seq (.set 2 (.slc (.str [97, 98, 99, 100, 101, 102]) (.nil) (.cons (.op .add (.int 2) (.call "_law_draw" (.cons (.var 0) (.cons (.int 5) .nil)))) .nil))) (.seq (.set 3 (.str [])) (.seq (.loop (.nm 4) (.range (.cons (.var 1) .nil)) (d_law_letters_b1)) (.seq (.ret (.var 3)) .skip))), false⟩
def d_law_text : Fn := ⟨"_law_text", ["hand", "most"], ["hand", "most"],
  .seq (.ret (.call "_law_letters" (.cons (.var 0) (.cons (.call "_law_draw" (.cons (.var 0) (.cons (.op .add (.var 1) (.int 1)) .nil))) .nil)))) .skip, false⟩
def d_law_led_b1 : T := .seq (.ite (.cmp .ne (.sub (.var 2) (.int 0)) (.str [112, 117, 116])) (.seq (.ite (.or (.cmp .eq (.var 4) (.blt .len false (.cons (.var 0) .nil))) (.and (.cmp .eq (.sub (.var 2) (.int 0)) (.str [99, 104, 97, 110, 103, 101])) (.cmp .eq (.sub (.var 2) (.int 1)) (.sub (.var 0) (.var 4))))) (.seq (.ret (.non)) .skip) (.skip)) (.seq (.set 5 (.ite (.cmp .eq (.sub (.var 2) (.int 0)) (.str [107, 101, 101, 112])) (.sub (.var 0) (.var 4)) (.str []))) (.seq (.set 3 (.op .add (.var 3) (.ite (.cmp .eq (.sub (.var 2) (.int 0)) (.str [99, 104, 97, 110, 103, 101])) (.sub (.var 2) (.int 1)) (.var 5)))) (.seq (.set 4 (.op .add (.var 4) (.int 1))) .skip)))) (.seq (.set 3 (.op .add (.var 3) (.sub (.var 2) (.int 1)))) .skip)) .skip
def d_law_led : Fn := ⟨"_law_led", ["one", "script"], ["one", "script", "step", "found", "at", "sign"],
  .seq (.par [3, 4] (.cons (.str []) (.cons (.int 0) (.nil)))) (.seq (.loop (.nm 2) (.of (.var 1)) (d_law_led_b1)) (.seq (.ret (.ite (.cmp .eq (.var 4) (.blt .len false (.cons (.var 0) .nil))) (.var 3) (.non))) .skip)), false⟩
def d_law_script_o1 : E := .op .mul (.lst false (.cons (.tup (.cons (.str [107, 101, 101, 112]) .nil)) .nil)) (.blt .len false (.cons (.var 1) .nil))
def d_law_script_b1 : T := .seq (.ex (.mth .append (.var 3) (.cons (.tup (.cons (.str [112, 117, 116]) (.cons (.call "_law_letters" (.cons (.var 0) (.cons (.int 1) .nil))) .nil))) .nil))) .skip
def d_law_script_c1 : E := .lc false (.var 7) (.nm 7) [7] (.of (.str [97, 98, 99, 100, 101, 102, 103])) (.cons (.cmp .ne (.var 7) (.var 4)) .nil)
def d_law_script_b2 : T := .seq (.ite (.cmp .eq (.call "_law_draw" (.cons (.var 0) (.cons (.int 4) .nil))) (.int 0)) (.seq (.ex (.mth .append (.var 3) (.cons (.tup (.cons (.str [112, 117, 116]) (.cons (.call "_law_letters" (.cons (.var 0) (.cons (.int 1) .nil))) .nil))) .nil))) .skip) (.skip)) (.seq (.set 6 (.call "_law_any" (.cons (.var 0) (.cons (d_law_script_c1) .nil)))) (.seq (.ex (.mth .append (.var 3) (.cons (.call "_law_any" (.cons (.var 0) (.cons (.lst false (.cons (.tup (.cons (.str [107, 101, 101, 112]) .nil)) (.cons (.tup (.cons (.str [107, 101, 101, 112]) .nil)) (.cons (.tup (.cons (.str [100, 114, 111, 112]) .nil)) (.cons (.tup (.cons (.str [99, 104, 97, 110, 103, 101]) (.cons (.var 6) .nil))) .nil))))) .nil))) .nil))) .skip))
def d_law_script : Fn := ⟨"_law_script", ["hand", "one", "most"], ["hand", "one", "most", "found", "sign", "step", "other", "its"],
  .seq (.set 3 (.lst true (.nil))) (.seq (.loop (.nm 4) (.of (.var 1)) (d_law_script_b2)) (.seq (.loop (.nm 5) (.range (.cons (.call "_law_draw" (.cons (.var 0) (.cons (.int 3) .nil))) .nil)) (d_law_script_b1)) (.seq (.ite (.cmp .gt (.blt .len false (.cons (.call "_law_led" (.cons (.var 1) (.cons (.var 3) .nil))) .nil)) (.var 2)) (.seq (.ret (.blt .tuple false (.cons (d_law_script_o1) .nil))) .skip) (.skip)) (.seq (.ret (.blt .tuple false (.cons (.var 3) .nil))) .skip)))), false⟩
def d_law_two : Fn := ⟨"_law_two", ["hand", "most"], ["hand", "most", "one", "other"],
  .seq (.set 2 (.call "_law_text" (.cons (.var 0) (.cons (.var 1) .nil)))) (.seq (.set 3 (.ite (.cmp .le (.blt .len false (.cons (.var 2) .nil)) (.var 1)) (.call "_law_led" (.cons (.var 2) (.cons (.call "_law_script" (.cons (.var 0) (.cons (.var 2) (.cons (.var 1) .nil)))) .nil))) (.var 2))) (.seq (.ret (.call "_law_any" (.cons (.var 0) (.cons (.lst false (.cons (.tup (.cons (.var 2) (.cons (.var 3) .nil))) (.cons (.tup (.cons (.var 3) (.cons (.var 2) .nil))) (.cons (.tup (.cons (.var 2) (.cons (.call "_law_text" (.cons (.var 0) (.cons (.var 1) .nil))) .nil))) .nil)))) .nil)))) .skip)), false⟩
def d_law_dots_c1 : E := .lc false (.ite (.cmp .eq (.var 2) (.var 3)) (.str [35]) (.str [46])) (.nm 3) [3] (.of (.var 1)) (.nil)
def d_law_dots_c2 : E := .lc false (.mth .join (.str []) (.cons (d_law_dots_c1) .nil)) (.nm 2) [2] (.of (.var 0)) (.nil)
def d_law_dots : Fn := ⟨"_law_dots", ["one", "other"], ["one", "other", "sign", "its"],
  .seq (.ret (d_law_dots_c2)) .skip, false⟩
def d_law_slants_o1 : E := .op .add (.var 6) (.op .mul (.var 1) (.var 8))
def d_law_slants_b1 : T := .seq (.set 8 (.op .add (.var 8) (.int 1))) .skip
def d_law_slants_b2 : T := .seq (.ite (.cmp .nmem (.tup (.cons (.op .sub (.var 4) (.int 1)) (.cons (.op .sub (.var 6) (.var 1)) .nil))) (.var 3)) (.seq (.set 8 (.int 1)) (.seq (.whl (.cmp .mem (.tup (.cons (.op .add (.var 4) (.var 8)) (.cons (d_law_slants_o1) .nil))) (.var 3)) (d_law_slants_b1)) (.seq (.set 2 (.op .add (.var 2) (.ite (.cmp .gt (.var 8) (.int 1)) (.lst false (.cons (.tup (.cons (.var 4) (.cons (.var 6) (.cons (.var 8) .nil)))) .nil)) (.lst false (.nil))))) .skip))) (.skip)) .skip
def d_law_slants_b3 : T := .seq (.ite (.cmp .eq (.var 7) (.str [35])) (.seq (.setI (.var 3) (.tup (.cons (.var 4) (.cons (.var 6) .nil))) (.bl true)) .skip) (.skip)) .skip
def d_law_slants_b4 : T := .seq (.loop (.tp [6, 7]) (.enum (.var 5)) (d_law_slants_b3)) .skip
def d_law_slants : Fn := ⟨"_law_slants", ["rows", "by"], ["rows", "by", "found", "dots_here", "i", "row", "j", "sign", "size"],
  .seq (.par [2, 3] (.cons (.lst false (.nil)) (.cons (.dct true true .nil .nil) (.nil)))) (.seq (.loop (.tp [4, 5]) (.enum (.var 0)) (d_law_slants_b4)) (.seq (.loop (.tp [4, 6]) (.of (.blt .sorted false (.cons (.var 3) .nil))) (d_law_slants_b2)) (.seq (.ret (.var 2)) .skip))), false⟩
def d_law_is_right_s1 : T := .tset [10, 11] (.call "_law_two" (.cons (.var 0) (.cons (.int 12) .nil)))
def d_law_is_right_s2 : T := .set 1 (.call "_law_dots" (.cons (.var 10) (.cons (.var 11) .nil)))
def d_law_is_right_s3 : T := .set 2 (.call "dots" (.cons (.var 10) (.cons (.var 11) .nil)))
def d_law_is_right_c1 : E := .lc false (.mth .count (.var 9) (.cons (.str [35]) .nil)) (.nm 9) [9] (.of (.var 1)) (.nil)
def d_law_is_right_s4 : T := .ite (.not (.call "_law_is" (.cons (.lst false (.cons (.var 2) (.cons (.call "dots_many" (.cons (.var 10) (.cons (.var 11) .nil))) .nil))) (.cons (.lst false (.cons (.blt .tuple false (.cons (.var 1) .nil)) (.cons (.blt .sum false (.cons (d_law_is_right_c1) .nil)) .nil))) .nil)))) (.seq (.ret (.bl false)) .skip) (.skip)
def d_law_is_right_s5 : T := .set 3 (.call "_law_slants" (.cons (.var 1) (.cons (.int 1) .nil)))
def d_law_is_right_c2 : E := .lc false (.sub (.var 9) (.int 2)) (.nm 9) [9] (.of (.var 3)) (.nil)
def d_law_is_right_s6 : T := .set 4 (.ite (.cmp .ne (.var 3) (.lst false (.nil))) (.blt .max false (.cons (d_law_is_right_c2) .nil)) (.int 0))
def d_law_is_right_c3 : E := .lc false (.var 9) (.nm 9) [9] (.of (.var 3)) (.cons (.cmp .eq (.sub (.var 9) (.int 2)) (.var 4)) .nil)
def d_law_is_right_s7 : T := .set 5 (.ite (.cmp .ne (.var 3) (.lst false (.nil))) (.sub (d_law_is_right_c3) (.int 0)) (.non))
def d_law_is_right_s8 : T := .ite (.not (.call "_law_is" (.cons (.lst false (.cons (.call "slants" (.cons (.var 10) (.cons (.var 11) .nil))) (.cons (.call "longest_slant" (.cons (.var 10) (.cons (.var 11) .nil))) .nil))) (.cons (.lst false (.cons (.blt .tuple false (.cons (.var 3) .nil)) (.cons (.var 5) .nil))) .nil)))) (.seq (.ret (.bl false)) .skip) (.skip)
def d_law_is_right_s9 : T := .ite (.not (.call "_law_is" (.cons (.call "back_slants" (.cons (.var 10) (.cons (.var 11) .nil))) (.cons (.blt .tuple false (.cons (.call "_law_slants" (.cons (.var 1) (.cons (.neg (.int 1)) .nil))) .nil)) .nil)))) (.seq (.ret (.bl false)) .skip) (.skip)
def d_law_is_right_s10 : T := .set 6 (.dct true false .nil .nil)
def d_law_is_right_b1 : T := .seq (.ite (.cmp .eq (.var 15) (.str [35])) (.seq (.setI (.var 6) (.op .sub (.var 14) (.var 12)) (.op .add (.mth .get (.var 6) (.cons (.op .sub (.var 14) (.var 12)) (.cons (.int 0) .nil))) (.int 1))) .skip) (.skip)) .skip
def d_law_is_right_b2 : T := .seq (.loop (.tp [14, 15]) (.enum (.var 9)) (d_law_is_right_b1)) .skip
def d_law_is_right_s11 : T := .loop (.tp [12, 9]) (.enum (.var 1)) (d_law_is_right_b2)
def d_law_is_right_s12 : T := .set 7 (.call "slant_sums" (.cons (.var 10) (.cons (.var 11) .nil)))
def d_law_is_right_s13 : T := .ite (.or (.not (.blt .isinst false (.cons (.var 7) (.cons (.ty "dict") .nil)))) (.not (.call "_law_is" (.cons (.sit (.var 7)) (.cons (.sit (.var 6)) .nil))))) (.seq (.ret (.bl false)) .skip) (.skip)
def d_law_is_right_c4 : E := .lc false (.tup (.cons (.op .sub (.int 0) (.sub (.var 6) (.var 16))) (.cons (.blt .abs false (.cons (.var 16) .nil)) (.cons (.var 16) .nil)))) (.nm 16) [16] (.of (.blt .sorted false (.cons (.var 6) .nil))) (.nil)
def d_law_is_right_s14 : T := .set 8 (.blt .sorted false (.cons (d_law_is_right_c4) .nil))
def d_law_is_right_s15 : T := .ite (.not (.call "_law_is" (.cons (.lst false (.cons (.call "best_shift" (.cons (.var 10) (.cons (.var 11) .nil))) .nil)) (.cons (.lst false (.cons (.ite (.cmp .ne (.var 8) (.lst false (.nil))) (.sub (.sub (.var 8) (.int 0)) (.int 2)) (.non)) .nil)) .nil)))) (.seq (.ret (.bl false)) .skip) (.skip)
def d_law_is_right_c5 : E := .lc false (.var 17) (.tp [17, 9]) [17, 9] (.enum (.var 1)) (.cons (.cmp .nmem (.str [35]) (.var 9)) .nil)
def d_law_is_right_s16 : T := .ite (.not (.call "_law_is" (.cons (.call "rows_without" (.cons (.var 10) (.cons (.var 11) .nil))) (.cons (.blt .tuple false (.cons (d_law_is_right_c5) .nil)) .nil)))) (.seq (.ret (.bl false)) .skip) (.skip)
def d_law_is_right_c6 : E := .lc false (.and (.cmp .eq (.var 15) (.str [35])) (.cmp .eq (.sub (.var 13) (.var 17)) (.str [35]))) (.tp [17, 15]) [17, 15] (.enum (.var 9)) (.nil)
def d_law_is_right_b3 : T := .seq (.ite (.and (.blt .any false (.cons (d_law_is_right_c6) .nil)) (.cmp .ne (.var 9) (.var 13))) (.seq (.ret (.bl false)) .skip) (.skip)) .skip
def d_law_is_right_b4 : T := .seq (.loop (.nm 13) (.of (.var 2)) (d_law_is_right_b3)) .skip
def d_law_is_right_s17 : T := .loop (.nm 9) (.of (.var 2)) (d_law_is_right_b4)
def d_law_is_right_s18 : T := .ret (.bl true)
def d_law_is_right : Fn := ⟨"_law_is_right", ["hand"], ["hand", "rows", "told", "right", "longest", "due_first", "sums", "got", "best", "row", "one", "other", "i", "its", "j", "sign", "shift", "at"],
  .seq d_law_is_right_s1 (.seq d_law_is_right_s2 (.seq d_law_is_right_s3 (.seq d_law_is_right_s4 (.seq d_law_is_right_s5 (.seq d_law_is_right_s6 (.seq d_law_is_right_s7 (.seq d_law_is_right_s8 (.seq d_law_is_right_s9 (.seq d_law_is_right_s10 (.seq d_law_is_right_s11 (.seq d_law_is_right_s12 (.seq d_law_is_right_s13 (.seq d_law_is_right_s14 (.seq d_law_is_right_s15 (.seq d_law_is_right_s16 (.seq d_law_is_right_s17 (.seq d_law_is_right_s18 .skip))))))))))))))))), false⟩
def d_law_s1 : T := .set 1 (.call "_law_hand" (.cons (.var 0) .nil))
def d_law_s2 : T := .ite (.or (.cmp .ne (.call "dots" (.cons (.str [97, 98, 97]) (.cons (.str [97, 98]) .nil))) (.tup (.cons (.str [35, 46]) (.cons (.str [46, 35]) (.cons (.str [35, 46]) .nil))))) (.cmp .ne (.call "slants" (.cons (.str [97, 98, 97]) (.cons (.str [97, 98]) .nil))) (.tup (.cons (.tup (.cons (.int 0) (.cons (.int 0) (.cons (.int 2) .nil)))) .nil)))) (.seq (.ret (.bl false)) .skip) (.skip)
def d_law_s3 : T := .ite (.or (.cmp .ne (.call "dots_many" (.cons (.str [97, 98, 97]) (.cons (.str [97, 98]) .nil))) (.int 3)) (.cmp .ne (.call "rows_without" (.cons (.str [97, 120, 97]) (.cons (.str [97, 98]) .nil))) (.tup (.cons (.int 1) .nil)))) (.seq (.ret (.bl false)) .skip) (.skip)
def d_law_s4 : T := .ite (.or (.cmp .ne (.call "back_slants" (.cons (.str [97, 98, 97]) (.cons (.str [97, 98]) .nil))) (.tup (.cons (.tup (.cons (.int 1) (.cons (.int 1) (.cons (.int 2) .nil)))) .nil))) (.cmp .ne (.call "best_shift" (.cons (.str [97, 98, 97]) (.cons (.str [97, 98]) .nil))) (.int 0))) (.seq (.ret (.bl false)) .skip) (.skip)
def d_law_s5 : T := .ite (.or (.cmp .ne (.call "dots" (.cons (.str []) (.cons (.str [97, 98]) .nil))) (.tup (.nil))) (.or (.cmp .notN (.call "longest_slant" (.cons (.str [97]) (.cons (.str [98]) .nil))) (.non)) (.cmp .ne (.call "slant_sums" (.cons (.str [97, 98, 97]) (.cons (.str [97, 98]) .nil))) (.dsp false (.cons (.int 0) (.cons (.int 2) (.cons (.neg (.int 2)) (.cons (.int 1) .nil)))))))) (.seq (.ret (.bl false)) .skip) (.skip)
def d_law_c1 : E := .lc false (.call "_law_is_right" (.cons (.var 1) .nil)) (.nm 2) [2] (.range (.cons (.int 8) .nil)) (.nil)
def d_law_s6 : T := .ret (.blt .all false (.cons (d_law_c1) .nil))
def d_law : Fn := ⟨"law", ["script"], ["script", "hand", "lap_no"],
  .seq d_law_s1 (.seq d_law_s2 (.seq d_law_s3 (.seq d_law_s4 (.seq d_law_s5 (.seq d_law_s6 .skip))))), false⟩
def progL : List Fn := [d_is_letters, d_is_text, d_check_text, d_check_two, d_raw_dots, d_dots, d_is_dot, d_all_dots, d_dots_many, d_slant_length, d_raw_slants, d_slants, d_longest_slant, d_back_slants, d_raw_sums, d_slant_sums, d_best_shift, d_rows_without, d_law_hand, d_law_draw, d_law_any, d_law_is, d_law_letters, d_law_text, d_law_led, d_law_script, d_law_two, d_law_dots, d_law_slants, d_law_is_right, d_law]
def topI : List Nat := [6, 7, 8, 9, 14, 15, 16, 17, 18, 19, 20, 21, 22, 23, 24, 25, 26, 27, 29, 30, 31, 32, 33, 34, 35, 36, 37, 38, 39, 40, 41]
def sig : Sig := ⟨progL.map fun g => (g.nm, g.ps), [("LEAST_SLANT", .int (2)), ("MOST_TEXT", .int (12)), ("LETTERS", .str [97, 98, 99, 100, 101, 102, 103, 104, 105, 106, 107, 108, 109, 110, 111, 112, 113, 114, 115, 116, 117, 118, 119, 120, 121, 122]), ("DOT", .str [35]), ("BARE", .str [46])]⟩
def topS (i : Nat) : Stmt := PySem.Challenge.pw_twotexts_k76_whole_dots_of_two_texts.main.body.getD i (.Pass ⟨0, 0, 0, 0⟩)
def okAt (g : Fn) (i : Nat) : Bool := C8.scC g.N g.ps (defScope (topS i)) && chkSs sig g.N (defScope (topS i)) g.body (defBody (topS i))
theorem ck_is_letters : okAt d_is_letters 6 = true := by decide +kernel
theorem ck_is_text : okAt d_is_text 7 = true := by decide +kernel
theorem ck_check_text : okAt d_check_text 8 = true := by decide +kernel
theorem ck_check_two : okAt d_check_two 9 = true := by decide +kernel
theorem ck_raw_dots : okAt d_raw_dots 14 = true := by decide +kernel
theorem ck_dots : okAt d_dots 15 = true := by decide +kernel
theorem ck_is_dot : okAt d_is_dot 16 = true := by decide +kernel
theorem ck_all_dots : okAt d_all_dots 17 = true := by decide +kernel
theorem ck_dots_many : okAt d_dots_many 18 = true := by decide +kernel
theorem ck_slant_length : okAt d_slant_length 19 = true := by decide +kernel
theorem ck_raw_slants : okAt d_raw_slants 20 = true := by decide +kernel
theorem ck_slants : okAt d_slants 21 = true := by decide +kernel
theorem ck_longest_slant : okAt d_longest_slant 22 = true := by decide +kernel
theorem ck_back_slants : okAt d_back_slants 23 = true := by decide +kernel
theorem ck_raw_sums : okAt d_raw_sums 24 = true := by decide +kernel
theorem ck_slant_sums : okAt d_slant_sums 25 = true := by decide +kernel
theorem ck_best_shift : okAt d_best_shift 26 = true := by decide +kernel
theorem ck_rows_without : okAt d_rows_without 27 = true := by decide +kernel
theorem ck_law_hand : okAt d_law_hand 29 = true := by decide +kernel
theorem ck_law_draw : okAt d_law_draw 30 = true := by decide +kernel
theorem ck_law_any : okAt d_law_any 31 = true := by decide +kernel
theorem ck_law_is : okAt d_law_is 32 = true := by decide +kernel
theorem ck_law_letters : okAt d_law_letters 33 = true := by decide +kernel
theorem ck_law_text : okAt d_law_text 34 = true := by decide +kernel
theorem ck_law_led : okAt d_law_led 35 = true := by decide +kernel
theorem ck_law_script : okAt d_law_script 36 = true := by decide +kernel
theorem ck_law_two : okAt d_law_two 37 = true := by decide +kernel
theorem ck_law_dots : okAt d_law_dots 38 = true := by decide +kernel
theorem ck_law_slants : okAt d_law_slants 39 = true := by decide +kernel
theorem ck_law_is_right : okAt d_law_is_right 40 = true := by decide +kernel
theorem ck_law : okAt d_law 41 = true := by decide +kernel

theorem fi_is_letters : progL.find? (fun h => h.nm == ("is_letters" : Str)) = some d_is_letters := by kernel_rfl
theorem fi_is_text : progL.find? (fun h => h.nm == ("is_text" : Str)) = some d_is_text := by kernel_rfl
theorem fi_check_text : progL.find? (fun h => h.nm == ("check_text" : Str)) = some d_check_text := by kernel_rfl
theorem fi_check_two : progL.find? (fun h => h.nm == ("check_two" : Str)) = some d_check_two := by kernel_rfl
theorem fi_raw_dots : progL.find? (fun h => h.nm == ("raw_dots" : Str)) = some d_raw_dots := by kernel_rfl
theorem fi_dots : progL.find? (fun h => h.nm == ("dots" : Str)) = some d_dots := by kernel_rfl
theorem fi_is_dot : progL.find? (fun h => h.nm == ("is_dot" : Str)) = some d_is_dot := by kernel_rfl
theorem fi_all_dots : progL.find? (fun h => h.nm == ("all_dots" : Str)) = some d_all_dots := by kernel_rfl
theorem fi_dots_many : progL.find? (fun h => h.nm == ("dots_many" : Str)) = some d_dots_many := by kernel_rfl
theorem fi_slant_length : progL.find? (fun h => h.nm == ("slant_length" : Str)) = some d_slant_length := by kernel_rfl
theorem fi_raw_slants : progL.find? (fun h => h.nm == ("raw_slants" : Str)) = some d_raw_slants := by kernel_rfl
theorem fi_slants : progL.find? (fun h => h.nm == ("slants" : Str)) = some d_slants := by kernel_rfl
theorem fi_longest_slant : progL.find? (fun h => h.nm == ("longest_slant" : Str)) = some d_longest_slant := by kernel_rfl
theorem fi_back_slants : progL.find? (fun h => h.nm == ("back_slants" : Str)) = some d_back_slants := by kernel_rfl
theorem fi_raw_sums : progL.find? (fun h => h.nm == ("raw_sums" : Str)) = some d_raw_sums := by kernel_rfl
theorem fi_slant_sums : progL.find? (fun h => h.nm == ("slant_sums" : Str)) = some d_slant_sums := by kernel_rfl
theorem fi_best_shift : progL.find? (fun h => h.nm == ("best_shift" : Str)) = some d_best_shift := by kernel_rfl
theorem fi_rows_without : progL.find? (fun h => h.nm == ("rows_without" : Str)) = some d_rows_without := by kernel_rfl
theorem fi_law_hand : progL.find? (fun h => h.nm == ("_law_hand" : Str)) = some d_law_hand := by kernel_rfl
theorem fi_law_draw : progL.find? (fun h => h.nm == ("_law_draw" : Str)) = some d_law_draw := by kernel_rfl
theorem fi_law_any : progL.find? (fun h => h.nm == ("_law_any" : Str)) = some d_law_any := by kernel_rfl
theorem fi_law_is : progL.find? (fun h => h.nm == ("_law_is" : Str)) = some d_law_is := by kernel_rfl
theorem fi_law_letters : progL.find? (fun h => h.nm == ("_law_letters" : Str)) = some d_law_letters := by kernel_rfl
theorem fi_law_text : progL.find? (fun h => h.nm == ("_law_text" : Str)) = some d_law_text := by kernel_rfl
theorem fi_law_led : progL.find? (fun h => h.nm == ("_law_led" : Str)) = some d_law_led := by kernel_rfl
theorem fi_law_script : progL.find? (fun h => h.nm == ("_law_script" : Str)) = some d_law_script := by kernel_rfl
theorem fi_law_two : progL.find? (fun h => h.nm == ("_law_two" : Str)) = some d_law_two := by kernel_rfl
theorem fi_law_dots : progL.find? (fun h => h.nm == ("_law_dots" : Str)) = some d_law_dots := by kernel_rfl
theorem fi_law_slants : progL.find? (fun h => h.nm == ("_law_slants" : Str)) = some d_law_slants := by kernel_rfl
theorem fi_law_is_right : progL.find? (fun h => h.nm == ("_law_is_right" : Str)) = some d_law_is_right := by kernel_rfl
theorem fi_law : progL.find? (fun h => h.nm == ("law" : Str)) = some d_law := by kernel_rfl
end Pd
namespace Pd
open PySem PySem.Spec PyProof.Rows L2
abbrev cN (n : Nat) (f : Str) (ds : List D) (S : Store) : Option (D × Store) := callN 1000 progL n f ds S
section
variable {n : Nat} {S : Store}
/-- a small letter -/
def ltr (c : Nat) : Prop := 97 ≤ c ∧ c ≤ 122
theorem ltr_in {c : Nat} (h : ltr c) : c ∈ [97, 98, 99, 100, 101, 102, 103, 104, 105, 106, 107, 108, 109, 110, 111, 112, 113, 114, 115, 116, 117, 118, 119, 120, 121, 122] := by
  unfold ltr at h
  simp only [List.mem_cons, List.not_mem_nil, or_false]
  omega
/-- a text of so many letters -/
structure Txt1 (a b : Nat) (t : List Nat) : Prop where
  ok : ∀ c ∈ t, ltr c
  ge : a ≤ t.length
  le : t.length ≤ b
theorem is_letters_ok (hn : 1 ≤ n) {t : List Nat} {a b : Nat} (h : Txt1 a b t) (hb : b ≤ 1000) : callN 1000 progL n "is_letters" [.str t, .int a, .int b] S = some (.bl true, S) := by
  obtain ⟨m, rfl, hm⟩ := pos_n hn
  rw [callN_at fi_is_letters rfl]
  have hl : t.length ≤ line := ll (by have := h.le; omega)
  have hc : ev 1000 (callN 1000 progL m) d_is_letters_c1 [some (.str t), some (.int a), some (.int b), none] S = some (.lv (t.map fun _ => .bl true), S) := by
    refine lc_map (φ := fun c => .str [c]) (fun _ => .bl true) (by simp only [eq_self, Bool.and_self, Bool.and_true, pb_non, pb_bl, pb_int, pb_str, pb_tup, pb_lv, pb_dv, pl_nil, pl_cons, pu_ints, pu_strs, pu_sgn, pu_nat, end_rt, end_nx, end_own, run, ev, evs, evT, evI, fin, Option.bind_some, Option.map_some, startE, List.map_cons, List.map_nil, List.length_cons, List.length_nil, List.cons_append, List.nil_append, List.replicate_succ, List.replicate_zero, Nat.reduceAdd, Nat.reduceSub, Nat.zero_add, List.getElem?_cons_zero, List.getElem?_cons_succ, List.set_cons_zero, List.set_cons_succ, wipeE, bindTg, setAll, cmpS, eq_ii, eq_ss, lt_ii, lt_ss, mem_s, p_add_i, p_sub_i, b_len_t, b_len_l, b_abs, b_int, b_tuple_l, b_list_t, b_list_l, m_count, i_tup, i_lv, atI_0, atI_1, atI_2, atI_3, atI_4, decide_eq_true_eq, Bool.not_true, Bool.not_false, Bool.false_eq_true, if_true, if_false, ite_true, ite_false, reduceIte, isNon, walkOf, walkS, isi_non_int, isi_non_str, isi_non_tuple, isi_non_list, isi_non_dict, isi_non_bool, isi_bl_int, isi_bl_str, isi_bl_tuple, isi_bl_list, isi_bl_dict, isi_bl_bool, isi_int_int, isi_int_str, isi_int_tuple, isi_int_list, isi_int_dict, isi_int_bool, isi_str_int, isi_str_str, isi_str_tuple, isi_str_list, isi_str_dict, isi_str_bool, isi_tup_int, isi_tup_str, isi_tup_tuple, isi_tup_list, isi_tup_dict, isi_tup_bool, isi_lv_int, isi_lv_str, isi_lv_tuple, isi_lv_list, isi_lv_dict, isi_lv_bool, isi_dv_int, isi_dv_str, isi_dv_tuple, isi_dv_list, isi_dv_dict, isi_dv_bool, isi_scr_int, isi_scr_str, isi_scr_tuple, isi_scr_list, isi_scr_dict, isi_scr_bool]) (fun c hc => ?_) hl
    simp only [turnF, ltr_in (h.ok c hc), decide_true, eq_self, Bool.and_self, Bool.and_true, pb_non, pb_bl, pb_int, pb_str, pb_tup, pb_lv, pb_dv, pl_nil, pl_cons, pu_ints, pu_strs, pu_sgn, pu_nat, end_rt, end_nx, end_own, run, ev, evs, evT, evI, fin, Option.bind_some, Option.map_some, startE, List.map_cons, List.map_nil, List.length_cons, List.length_nil, List.cons_append, List.nil_append, List.replicate_succ, List.replicate_zero, Nat.reduceAdd, Nat.reduceSub, Nat.zero_add, List.getElem?_cons_zero, List.getElem?_cons_succ, List.set_cons_zero, List.set_cons_succ, wipeE, bindTg, setAll, cmpS, eq_ii, eq_ss, lt_ii, lt_ss, mem_s, p_add_i, p_sub_i, b_len_t, b_len_l, b_abs, b_int, b_tuple_l, b_list_t, b_list_l, m_count, i_tup, i_lv, atI_0, atI_1, atI_2, atI_3, atI_4, decide_eq_true_eq, Bool.not_true, Bool.not_false, Bool.false_eq_true, if_true, if_false, ite_true, ite_false, reduceIte, isNon, walkOf, walkS, isi_non_int, isi_non_str, isi_non_tuple, isi_non_list, isi_non_dict, isi_non_bool, isi_bl_int, isi_bl_str, isi_bl_tuple, isi_bl_list, isi_bl_dict, isi_bl_bool, isi_int_int, isi_int_str, isi_int_tuple, isi_int_list, isi_int_dict, isi_int_bool, isi_str_int, isi_str_str, isi_str_tuple, isi_str_list, isi_str_dict, isi_str_bool, isi_tup_int, isi_tup_str, isi_tup_tuple, isi_tup_list, isi_tup_dict, isi_tup_bool, isi_lv_int, isi_lv_str, isi_lv_tuple, isi_lv_list, isi_lv_dict, isi_lv_bool, isi_dv_int, isi_dv_str, isi_dv_tuple, isi_dv_list, isi_dv_dict, isi_dv_bool, isi_scr_int, isi_scr_str, isi_scr_tuple, isi_scr_list, isi_scr_dict, isi_scr_bool]
  have e1 : ¬ (t.length : Int) < a := by have := h.ge; omega
  have e2 : ¬ (b : Int) < (t.length : Int) := by have := h.le; omega
  simp only [d_is_letters, b_len_s hl, hc, e1, e2, decide_false, all_true, eq_self, Bool.and_self, Bool.and_true, pb_non, pb_bl, pb_int, pb_str, pb_tup, pb_lv, pb_dv, pl_nil, pl_cons, pu_ints, pu_strs, pu_sgn, pu_nat, end_rt, end_nx, end_own, run, ev, evs, evT, evI, fin, Option.bind_some, Option.map_some, startE, List.map_cons, List.map_nil, List.length_cons, List.length_nil, List.cons_append, List.nil_append, List.replicate_succ, List.replicate_zero, Nat.reduceAdd, Nat.reduceSub, Nat.zero_add, List.getElem?_cons_zero, List.getElem?_cons_succ, List.set_cons_zero, List.set_cons_succ, wipeE, bindTg, setAll, cmpS, eq_ii, eq_ss, lt_ii, lt_ss, mem_s, p_add_i, p_sub_i, b_len_t, b_len_l, b_abs, b_int, b_tuple_l, b_list_t, b_list_l, m_count, i_tup, i_lv, atI_0, atI_1, atI_2, atI_3, atI_4, decide_eq_true_eq, Bool.not_true, Bool.not_false, Bool.false_eq_true, if_true, if_false, ite_true, ite_false, reduceIte, isNon, walkOf, walkS, isi_non_int, isi_non_str, isi_non_tuple, isi_non_list, isi_non_dict, isi_non_bool, isi_bl_int, isi_bl_str, isi_bl_tuple, isi_bl_list, isi_bl_dict, isi_bl_bool, isi_int_int, isi_int_str, isi_int_tuple, isi_int_list, isi_int_dict, isi_int_bool, isi_str_int, isi_str_str, isi_str_tuple, isi_str_list, isi_str_dict, isi_str_bool, isi_tup_int, isi_tup_str, isi_tup_tuple, isi_tup_list, isi_tup_dict, isi_tup_bool, isi_lv_int, isi_lv_str, isi_lv_tuple, isi_lv_list, isi_lv_dict, isi_lv_bool, isi_dv_int, isi_dv_str, isi_dv_tuple, isi_dv_list, isi_dv_dict, isi_dv_bool, isi_scr_int, isi_scr_str, isi_scr_tuple, isi_scr_list, isi_scr_dict, isi_scr_bool]
theorem is_text_ok (hn : 2 ≤ n) {t : List Nat} (h : Txt1 0 12 t) : callN 1000 progL n "is_text" [.str t] S = some (.bl true, S) := by
  obtain ⟨m, rfl, hm⟩ := pos_n hn
  rw [callN_at fi_is_text rfl]
  have k1 : callN 1000 progL m "is_letters" [.str t, .int 0, .int 12] S = _ := is_letters_ok (S := S) hm h (by decide)
  simp only [d_is_text, k1, eq_self, Bool.and_self, Bool.and_true, pb_non, pb_bl, pb_int, pb_str, pb_tup, pb_lv, pb_dv, pl_nil, pl_cons, pu_ints, pu_strs, pu_sgn, pu_nat, end_rt, end_nx, end_own, run, ev, evs, evT, evI, fin, Option.bind_some, Option.map_some, startE, List.map_cons, List.map_nil, List.length_cons, List.length_nil, List.cons_append, List.nil_append, List.replicate_succ, List.replicate_zero, Nat.reduceAdd, Nat.reduceSub, Nat.zero_add, List.getElem?_cons_zero, List.getElem?_cons_succ, List.set_cons_zero, List.set_cons_succ, wipeE, bindTg, setAll, cmpS, eq_ii, eq_ss, lt_ii, lt_ss, mem_s, p_add_i, p_sub_i, b_len_t, b_len_l, b_abs, b_int, b_tuple_l, b_list_t, b_list_l, m_count, i_tup, i_lv, atI_0, atI_1, atI_2, atI_3, atI_4, decide_eq_true_eq, Bool.not_true, Bool.not_false, Bool.false_eq_true, if_true, if_false, ite_true, ite_false, reduceIte, isNon, walkOf, walkS, isi_non_int, isi_non_str, isi_non_tuple, isi_non_list, isi_non_dict, isi_non_bool, isi_bl_int, isi_bl_str, isi_bl_tuple, isi_bl_list, isi_bl_dict, isi_bl_bool, isi_int_int, isi_int_str, isi_int_tuple, isi_int_list, isi_int_dict, isi_int_bool, isi_str_int, isi_str_str, isi_str_tuple, isi_str_list, isi_str_dict, isi_str_bool, isi_tup_int, isi_tup_str, isi_tup_tuple, isi_tup_list, isi_tup_dict, isi_tup_bool, isi_lv_int, isi_lv_str, isi_lv_tuple, isi_lv_list, isi_lv_dict, isi_lv_bool, isi_dv_int, isi_dv_str, isi_dv_tuple, isi_dv_list, isi_dv_dict, isi_dv_bool, isi_scr_int, isi_scr_str, isi_scr_tuple, isi_scr_list, isi_scr_dict, isi_scr_bool]
theorem check_text_ok (hn : 3 ≤ n) {t : List Nat} (h : Txt1 0 12 t) : callN 1000 progL n "check_text" [.str t] S = some (.non, S) := by
  obtain ⟨m, rfl, hm⟩ := pos_n hn
  rw [callN_at fi_check_text rfl]
  have k1 := is_text_ok (S := S) hm h
  simp only [d_check_text, k1, eq_self, Bool.and_self, Bool.and_true, pb_non, pb_bl, pb_int, pb_str, pb_tup, pb_lv, pb_dv, pl_nil, pl_cons, pu_ints, pu_strs, pu_sgn, pu_nat, end_rt, end_nx, end_own, run, ev, evs, evT, evI, fin, Option.bind_some, Option.map_some, startE, List.map_cons, List.map_nil, List.length_cons, List.length_nil, List.cons_append, List.nil_append, List.replicate_succ, List.replicate_zero, Nat.reduceAdd, Nat.reduceSub, Nat.zero_add, List.getElem?_cons_zero, List.getElem?_cons_succ, List.set_cons_zero, List.set_cons_succ, wipeE, bindTg, setAll, cmpS, eq_ii, eq_ss, lt_ii, lt_ss, mem_s, p_add_i, p_sub_i, b_len_t, b_len_l, b_abs, b_int, b_tuple_l, b_list_t, b_list_l, m_count, i_tup, i_lv, atI_0, atI_1, atI_2, atI_3, atI_4, decide_eq_true_eq, Bool.not_true, Bool.not_false, Bool.false_eq_true, if_true, if_false, ite_true, ite_false, reduceIte, isNon, walkOf, walkS, isi_non_int, isi_non_str, isi_non_tuple, isi_non_list, isi_non_dict, isi_non_bool, isi_bl_int, isi_bl_str, isi_bl_tuple, isi_bl_list, isi_bl_dict, isi_bl_bool, isi_int_int, isi_int_str, isi_int_tuple, isi_int_list, isi_int_dict, isi_int_bool, isi_str_int, isi_str_str, isi_str_tuple, isi_str_list, isi_str_dict, isi_str_bool, isi_tup_int, isi_tup_str, isi_tup_tuple, isi_tup_list, isi_tup_dict, isi_tup_bool, isi_lv_int, isi_lv_str, isi_lv_tuple, isi_lv_list, isi_lv_dict, isi_lv_bool, isi_dv_int, isi_dv_str, isi_dv_tuple, isi_dv_list, isi_dv_dict, isi_dv_bool, isi_scr_int, isi_scr_str, isi_scr_tuple, isi_scr_list, isi_scr_dict, isi_scr_bool]
theorem check_two_ok (hn : 4 ≤ n) {t u : List Nat} (h : Txt1 0 12 t) (h2 : Txt1 0 12 u) : callN 1000 progL n "check_two" [.str t, .str u] S = some (.non, S) := by
  obtain ⟨m, rfl, hm⟩ := pos_n hn
  rw [callN_at fi_check_two rfl]
  have k1 := check_text_ok (S := S) hm h
  have k2 := check_text_ok (S := S) hm h2
  simp only [d_check_two, k1, k2, eq_self, Bool.and_self, Bool.and_true, pb_non, pb_bl, pb_int, pb_str, pb_tup, pb_lv, pb_dv, pl_nil, pl_cons, pu_ints, pu_strs, pu_sgn, pu_nat, end_rt, end_nx, end_own, run, ev, evs, evT, evI, fin, Option.bind_some, Option.map_some, startE, List.map_cons, List.map_nil, List.length_cons, List.length_nil, List.cons_append, List.nil_append, List.replicate_succ, List.replicate_zero, Nat.reduceAdd, Nat.reduceSub, Nat.zero_add, List.getElem?_cons_zero, List.getElem?_cons_succ, List.set_cons_zero, List.set_cons_succ, wipeE, bindTg, setAll, cmpS, eq_ii, eq_ss, lt_ii, lt_ss, mem_s, p_add_i, p_sub_i, b_len_t, b_len_l, b_abs, b_int, b_tuple_l, b_list_t, b_list_l, m_count, i_tup, i_lv, atI_0, atI_1, atI_2, atI_3, atI_4, decide_eq_true_eq, Bool.not_true, Bool.not_false, Bool.false_eq_true, if_true, if_false, ite_true, ite_false, reduceIte, isNon, walkOf, walkS, isi_non_int, isi_non_str, isi_non_tuple, isi_non_list, isi_non_dict, isi_non_bool, isi_bl_int, isi_bl_str, isi_bl_tuple, isi_bl_list, isi_bl_dict, isi_bl_bool, isi_int_int, isi_int_str, isi_int_tuple, isi_int_list, isi_int_dict, isi_int_bool, isi_str_int, isi_str_str, isi_str_tuple, isi_str_list, isi_str_dict, isi_str_bool, isi_tup_int, isi_tup_str, isi_tup_tuple, isi_tup_list, isi_tup_dict, isi_tup_bool, isi_lv_int, isi_lv_str, isi_lv_tuple, isi_lv_list, isi_lv_dict, isi_lv_bool, isi_dv_int, isi_dv_str, isi_dv_tuple, isi_dv_list, isi_dv_dict, isi_dv_bool, isi_scr_int, isi_scr_str, isi_scr_tuple, isi_scr_list, isi_scr_dict, isi_scr_bool]
end
end Pd

namespace Pd
open PySem PySem.Spec PyProof.Rows L2
/-! the law's own draws -/
structure Hand where
  cells : List Int
  i : Int
  b : Int
  c : Int
  d : Int
structure HandOk (h : Hand) : Prop where
  cells : ∀ x ∈ h.cells, 0 ≤ x
  i : 0 ≤ h.i
  b : 0 ≤ h.b
  c : 0 ≤ h.c
  d : 0 ≤ h.d
abbrev handD (h : Hand) : D := .lv [.lv (h.cells.map .int), .int h.i, .int h.b, .int h.c, .int h.d]
theorem hand_pure (h : Hand) : pureB (handD h) = true := by
  simp only [handD, pb_lv, pl_cons, pl_nil, pb_int, pu_ints, Bool.and_self]
section
variable {n : Nat} {T : Store} {fu : Nat} {Φ : Calls}
theorem hend {h h' : Hand} {T : Store} {d : D} (hd : pureB d = true) : endC false (handD h :: T) (.rt d, handD h' :: T) = some (d, handD h' :: T) := end_hand0 (hand_pure h') hd
theorem hendG {h h' : Hand} {T G : Store} {d : D} (hd : pureB d = true) : endC false (handD h :: T) (.rt d, handD h' :: (T ++ G)) = some (d, handD h' :: T) := end_handP (hand_pure h') hd
theorem hendR {h h' : Hand} {T G : Store} {l : Nat} {c : D} (hl : T.length + 1 ≤ l) (e : (handD h' :: (T ++ G))[l]? = some c) (hd : pureB c = true) : endC false (handD h :: T) (.rt (.ref l), handD h' :: (T ++ G)) = some (c, handD h' :: T) := end_hand (hand_pure h') (shut_ref hl e hd)
theorem g0 (xs : List D) (T : Store) (j : Int) : itemS (.ref 0) (.int j) (.lv xs :: T) = atI xs j := i_ref (S := .lv xs :: T) rfl j
theorem s0 (xs : List D) (T : Store) (j : Int) (v : D) : setS (.ref 0) (.int j) v (.lv xs :: T) = (ixN xs.length j).map fun n => .lv (xs.set n v) :: T := by
  simp only [setS, List.getElem?_cons_zero, List.set_cons_zero]
theorem x1 : ixN 5 1 = some 1 := rfl
theorem x2 : ixN 5 2 = some 2 := rfl
theorem x3 : ixN 5 3 = some 3 := rfl
theorem x4 : ixN 5 4 = some 4 := rfl
theorem hand_at (h : Hand) (T : Store) (x1 x2 x3 x4 : Option D) :
    ev fu Φ (.sub (.var 0) (.int 2)) [some (.ref 0), x1, x2, x3, x4] (handD h :: T) = some (.int h.b, handD h :: T) ∧
    ev fu Φ (.sub (.var 0) (.int 3)) [some (.ref 0), x1, x2, x3, x4] (handD h :: T) = some (.int h.c, handD h :: T) ∧
    ev fu Φ (.sub (.var 0) (.int 4)) [some (.ref 0), x1, x2, x3, x4] (handD h :: T) = some (.int h.d, handD h :: T) :=
  ⟨ev_sub (x := .ref 0) (y := .int 2) rfl rfl rfl, ev_sub (x := .ref 0) (y := .int 3) rfl rfl rfl, ev_sub (x := .ref 0) (y := .int 4) rfl rfl rfl⟩
theorem o8_ok (h : Hand) (T : Store) (cell : Int) (x1 x2 x4 : Option D) :
    ev fu Φ d_law_draw_o8 [some (.ref 0), x1, x2, some (.int cell), x4] (handD h :: T) = some (.int ((h.c * 69621 + cell + 367) % 2147483629), handD h :: T) :=
  ev_op (ev_blt1 (ev_op (ev_op (ev_op (hand_at h T _ _ _ _).2.1 rfl (p_mul_i (.inr (by decide)))) rfl rfl) rfl rfl) rfl) rfl (p_mod_i (by decide))
theorem o7_ok (ρ : Env) (S : Store) : ev fu Φ d_law_draw_o7 ρ S = some (.int (10 ^ 18), S) := ev_op rfl rfl (p_pow_i (i := 10) (j := 18) (by decide))
theorem o6_ok (h : Hand) (T : Store) {k : Int} (hk : 0 < k) (x2 x3 x4 : Option D) :
    ev fu Φ d_law_draw_o6 [some (.ref 0), some (.int k), x2, x3, x4] (handD h :: T) = some (.int (h.b % k), handD h :: T) :=
  ev_op (ev_blt1 (hand_at h T _ _ _ _).1 rfl) rfl (p_mod_i hk)
theorem o5_ok (h : Hand) (T : Store) {k : Int} (hk : 0 < k ∧ k.natAbs < 1073741824) (x2 x3 x4 : Option D) :
    ev fu Φ d_law_draw_o5 [some (.ref 0), some (.int k), x2, x3, x4] (handD h :: T) = some (.int (h.b / k), handD h :: T) :=
  ev_op (hand_at h T _ _ _ _).1 rfl (p_fdiv_i hk)
theorem o4_ok (h : Hand) (T : Store) (x1 x2 x3 x4 : Option D) :
    ev fu Φ d_law_draw_o4 [some (.ref 0), x1, x2, x3, x4] (handD h :: T) = some (.int ((h.c + 7919 * h.d) * 48271 % 2147483647), handD h :: T) :=
  ev_op (ev_blt1 (ev_op (ev_blt1 (ev_op (hand_at h T _ _ _ _).2.1 (ev_op rfl (hand_at h T _ _ _ _).2.2 (p_mul_i (.inl (by decide)))) rfl) rfl) rfl (p_mul_i (.inr (by decide)))) rfl) rfl (p_mod_i (by decide))
theorem o3_ok (S : Store) {v : Int} (hv : v.natAbs < 18446744073709551616) (x0 x1 x3 x4 : Option D) :
    ev fu Φ d_law_draw_o3 [x0, x1, some (.int v), x3, x4] S = some (.int (v * (v / 1009 + 69621) % 2147483647), S) :=
  ev_op (ev_blt1 (ev_op rfl (ev_op (ev_op rfl rfl (p_fdiv_i (by decide))) rfl rfl) (p_mul_i (.inl hv))) rfl) rfl (p_mod_i (by decide))
theorem o2_ok (S : Store) {v : Int} (hv : v.natAbs < 18446744073709551616) (x0 x1 x3 x4 : Option D) :
    ev fu Φ d_law_draw_o2 [x0, x1, some (.int v), x3, x4] S = some (.int (v * (v / 2003 + 40692) % 2147483399), S) :=
  ev_op (ev_blt1 (ev_op rfl (ev_op (ev_op rfl rfl (p_fdiv_i (by decide))) rfl rfl) (p_mul_i (.inl hv))) rfl) rfl (p_mod_i (by decide))
theorem o1_ok (S : Store) {v k : Int} (hk : 0 < k) (x0 x3 x4 : Option D) :
    ev fu Φ d_law_draw_o1 [x0, some (.int k), some (.int v), x3, x4] S = some (.int (v / 16 % k), S) :=
  ev_op (ev_blt1 (ev_op rfl rfl (p_fdiv_i (by decide))) rfl) rfl (p_mod_i hk)
theorem mod_small (a b : Int) (hb : 0 < b) (hs : b ≤ 4294967296) : (a % b).natAbs < 18446744073709551616 := by
  have h1 := Int.emod_nonneg a (show b ≠ 0 by omega)
  have h2 := Int.emod_lt_of_pos a hb
  omega
/-- the last part of a draw -/
theorem draw_tail (hn : 1 ≤ n) {h : Hand} (hh : HandOk h) {k : Int} (hk : 0 < k ∧ k.natAbs < 1073741824) (T : Store) (x3 : Option D) :
    ∃ v h', HandOk h' ∧ 0 ≤ v ∧ v < k ∧
      (run fu Φ (.seq (.ite (.cmp .gt (.sub (.var 0) (.int 2)) (.int 0)) (.seq (.set 4 (d_law_draw_o6)) (.seq (.setI (.var 0) (.int 2) (d_law_draw_o5)) (.seq (.ret (.var 4)) .skip))) (.skip)) (.seq (.setI (.var 0) (.int 4) (.op .add (.sub (.var 0) (.int 4)) (.int 1))) (.seq (.set 2 (d_law_draw_o4)) (.seq (.set 2 (d_law_draw_o3)) (.seq (.set 2 (d_law_draw_o2)) (.seq (.ret (d_law_draw_o1)) .skip)))))) [some (.ref 0), some (.int k), none, x3, none] (handD h :: T)) = some (.rt (.int v), handD h' :: T) := by
  by_cases hb : 0 < h.b
  · refine ⟨h.b % k, { h with b := h.b / k }, ⟨hh.cells, hh.i, Int.ediv_nonneg hh.b (by omega), hh.c, hh.d⟩, Int.emod_nonneg _ (by omega), Int.emod_lt_of_pos _ hk.1, ?_⟩
    have e6 := o6_ok (fu := fu) (Φ := Φ) h T hk.1 none x3 none
    have e5 := o5_ok (fu := fu) (Φ := Φ) h T hk none x3 (some (.int (h.b % k)))
    have e0 := (hand_at (fu := fu) (Φ := Φ) h T (some (.int k)) none x3 none).1
    simp only [hb, e6, e5, g0, s0, x2, decide_true, eq_self, Bool.and_self, Bool.and_true, pb_non, pb_bl, pb_int, pb_str, pb_tup, pb_lv, pb_dv, pl_nil, pl_cons, pu_ints, pu_strs, pu_sgn, pu_nat, end_rt, end_nx, end_own, run, ev, evs, evT, evI, fin, Option.bind_some, Option.map_some, startE, List.map_cons, List.map_nil, List.length_cons, List.length_nil, List.cons_append, List.nil_append, List.replicate_succ, List.replicate_zero, Nat.reduceAdd, Nat.reduceSub, Nat.zero_add, List.getElem?_cons_zero, List.getElem?_cons_succ, List.set_cons_zero, List.set_cons_succ, wipeE, bindTg, setAll, cmpS, eq_ii, eq_ss, lt_ii, lt_ss, mem_s, p_add_i, p_sub_i, b_len_t, b_len_l, b_abs, b_int, b_tuple_l, b_list_t, b_list_l, m_count, i_tup, i_lv, atI_0, atI_1, atI_2, atI_3, atI_4, decide_eq_true_eq, Bool.not_true, Bool.not_false, Bool.false_eq_true, if_true, if_false, ite_true, ite_false, reduceIte, isNon, walkOf, walkS, isi_non_int, isi_non_str, isi_non_tuple, isi_non_list, isi_non_dict, isi_non_bool, isi_bl_int, isi_bl_str, isi_bl_tuple, isi_bl_list, isi_bl_dict, isi_bl_bool, isi_int_int, isi_int_str, isi_int_tuple, isi_int_list, isi_int_dict, isi_int_bool, isi_str_int, isi_str_str, isi_str_tuple, isi_str_list, isi_str_dict, isi_str_bool, isi_tup_int, isi_tup_str, isi_tup_tuple, isi_tup_list, isi_tup_dict, isi_tup_bool, isi_lv_int, isi_lv_str, isi_lv_tuple, isi_lv_list, isi_lv_dict, isi_lv_bool, isi_dv_int, isi_dv_str, isi_dv_tuple, isi_dv_list, isi_dv_dict, isi_dv_bool, isi_scr_int, isi_scr_str, isi_scr_tuple, isi_scr_list, isi_scr_dict, isi_scr_bool]
  · let h1 : Hand := { h with d := h.d + 1 }
    have hh1 : HandOk h1 := ⟨hh.cells, hh.i, hh.b, hh.c, by have := hh.d; show 0 ≤ h.d + 1; omega⟩
    let v1 : Int := (h1.c + 7919 * h1.d) * 48271 % 2147483647
    let v2 : Int := v1 * (v1 / 1009 + 69621) % 2147483647
    let v3 : Int := v2 * (v2 / 2003 + 40692) % 2147483399
    refine ⟨v3 / 16 % k, h1, hh1, Int.emod_nonneg _ (by omega), Int.emod_lt_of_pos _ hk.1, ?_⟩
    have e4 := o4_ok (fu := fu) (Φ := Φ) h1 T (some (.int k)) none x3 none
    have e3 := o3_ok (fu := fu) (Φ := Φ) (handD h1 :: T) (v := v1) (mod_small _ _ (by decide) (by decide)) (some (.ref 0)) (some (.int k)) x3 none
    have e2 := o2_ok (fu := fu) (Φ := Φ) (handD h1 :: T) (v := v2) (mod_small _ _ (by decide) (by decide)) (some (.ref 0)) (some (.int k)) x3 none
    have e1 := o1_ok (fu := fu) (Φ := Φ) (handD h1 :: T) (v := v3) hk.1 (some (.ref 0)) x3 none
    simp only [h1] at e4 e3 e2 e1 ⊢
    simp only [hb, e4, e3, e2, e1, g0, s0, x4, decide_false, v1, v2, v3, h1, eq_self, Bool.and_self, Bool.and_true, pb_non, pb_bl, pb_int, pb_str, pb_tup, pb_lv, pb_dv, pl_nil, pl_cons, pu_ints, pu_strs, pu_sgn, pu_nat, end_rt, end_nx, end_own, run, ev, evs, evT, evI, fin, Option.bind_some, Option.map_some, startE, List.map_cons, List.map_nil, List.length_cons, List.length_nil, List.cons_append, List.nil_append, List.replicate_succ, List.replicate_zero, Nat.reduceAdd, Nat.reduceSub, Nat.zero_add, List.getElem?_cons_zero, List.getElem?_cons_succ, List.set_cons_zero, List.set_cons_succ, wipeE, bindTg, setAll, cmpS, eq_ii, eq_ss, lt_ii, lt_ss, mem_s, p_add_i, p_sub_i, b_len_t, b_len_l, b_abs, b_int, b_tuple_l, b_list_t, b_list_l, m_count, i_tup, i_lv, atI_0, atI_1, atI_2, atI_3, atI_4, decide_eq_true_eq, Bool.not_true, Bool.not_false, Bool.false_eq_true, if_true, if_false, ite_true, ite_false, reduceIte, isNon, walkOf, walkS, isi_non_int, isi_non_str, isi_non_tuple, isi_non_list, isi_non_dict, isi_non_bool, isi_bl_int, isi_bl_str, isi_bl_tuple, isi_bl_list, isi_bl_dict, isi_bl_bool, isi_int_int, isi_int_str, isi_int_tuple, isi_int_list, isi_int_dict, isi_int_bool, isi_str_int, isi_str_str, isi_str_tuple, isi_str_list, isi_str_dict, isi_str_bool, isi_tup_int, isi_tup_str, isi_tup_tuple, isi_tup_list, isi_tup_dict, isi_tup_bool, isi_lv_int, isi_lv_str, isi_lv_tuple, isi_lv_list, isi_lv_dict, isi_lv_bool, isi_dv_int, isi_dv_str, isi_dv_tuple, isi_dv_list, isi_dv_dict, isi_dv_bool, isi_scr_int, isi_scr_str, isi_scr_tuple, isi_scr_list, isi_scr_dict, isi_scr_bool]
theorem hb0 (h : Hand) (T : Store) (x1 x2 x3 x4 : Option D) :
    ev fu Φ (.sub (.var 0) (.int 0)) [some (.ref 0), x1, x2, x3, x4] (handD h :: T) = some (.lv (h.cells.map .int), handD h :: T) ∧
    ev fu Φ (.sub (.var 0) (.int 1)) [some (.ref 0), x1, x2, x3, x4] (handD h :: T) = some (.int h.i, handD h :: T) :=
  ⟨ev_sub (x := .ref 0) (y := .int 0) rfl rfl rfl, ev_sub (x := .ref 0) (y := .int 1) rfl rfl rfl⟩
theorem atI_ge {xs : List Int} {i : Int} (h0 : 0 ≤ i) (h1 : i < xs.length) : ∃ x, atI (xs.map D.int) i = some (.int x) ∧ x ∈ xs := by
  obtain ⟨j, rfl⟩ : ∃ j : Nat, i = j := ⟨i.toNat, by omega⟩
  have hj : j < xs.length := by omega
  refine ⟨xs[j], ?_, List.getElem_mem hj⟩
  rw [atI_nat', List.getElem?_map, List.getElem?_eq_getElem hj]
  rfl
theorem draw_int (hn : 1 ≤ n) {h : Hand} (hh : HandOk h) {k : Int} (hk : 0 < k ∧ k.natAbs < 1073741824) (T : Store) :
    ∃ v h', HandOk h' ∧ 0 ≤ v ∧ v < k ∧ callN 1000 progL n "_law_draw" [.ref 0, .int k] (handD h :: T) = some (.int v, handD h' :: T) := by
  obtain ⟨m, rfl, hm⟩ := pos_n hn
  by_cases hc : h.b = 0 ∧ h.i < ((h.cells.map D.int).length : Nat)
  · obtain ⟨c1, c2⟩ := hc
    obtain ⟨x, hx, hxm⟩ := atI_ge (xs := h.cells) hh.i (by rw [List.length_map] at c2; exact c2)
    have hx0 : 0 ≤ x := hh.cells x hxm
    let h1 : Hand := { h with i := h.i + 1 }
    let h2 : Hand := { h1 with c := (h1.c * 69621 + x + 367) % 2147483629 }
    let h3 : Hand := if 10 ^ 18 ≤ x then { h2 with b := x } else h2
    have hh3 : HandOk h3 := by
      have z : 0 ≤ h.i + 1 := by have := hh.i; omega
      have w : 0 ≤ (h1.c * 69621 + x + 367) % 2147483629 := Int.emod_nonneg _ (by decide)
      show HandOk (if 10 ^ 18 ≤ x then { h2 with b := x } else h2)
      split
      · exact ⟨hh.cells, z, hx0, w, hh.d⟩
      · exact ⟨hh.cells, z, hh.b, w, hh.d⟩
    obtain ⟨v, h', k1, k2, k3, k4⟩ := draw_tail (n := 1) (fu := 1000) (Φ := callN 1000 progL m) (Nat.le_refl _) hh3 hk T (some (.int x))
    refine ⟨v, h', k1, k2, k3, ?_⟩
    rw [callN_at fi_law_draw rfl]
    have e8 := o8_ok (fu := 1000) (Φ := callN 1000 progL m) h1 T x (some (.int k)) none none
    simp only [h1, c1] at e8
    have e0 : startE d_law_draw.N.length [.ref 0, .int k] = [some (.ref 0), some (.int k), none, none, none] := rfl
    rw [e0]
    show ((run 1000 (callN 1000 progL m) (.seq _ (.seq _ _)) [some (.ref 0), some (.int k), none, none, none] (handD h :: T))).bind (endC false _) = _
    have first : run 1000 (callN 1000 progL m) (.ite (.and (.cmp .eq (.sub (.var 0) (.int 2)) (.int 0)) (.cmp .lt (.sub (.var 0) (.int 1)) (.blt .len false (.cons (.sub (.var 0) (.int 0)) .nil)))) (.seq (.set 3 (.sub (.sub (.var 0) (.int 0)) (.sub (.var 0) (.int 1)))) (.seq (.setI (.var 0) (.int 1) (.op .add (.sub (.var 0) (.int 1)) (.int 1))) (.seq (.setI (.var 0) (.int 3) (d_law_draw_o8)) (.seq (.ite (.cmp .ge (.var 3) (d_law_draw_o7)) (.seq (.setI (.var 0) (.int 2) (.var 3)) .skip) (.skip)) .skip)))) (.skip)) [some (.ref 0), some (.int k), none, none, none] (handD h :: T) =
        some (.nx [some (.ref 0), some (.int k), none, some (.int x), none], handD h3 :: T) := by
      by_cases hbig : (10 : Int) ^ 18 ≤ x
      · have hbig' : ¬ x < (10 : Int) ^ 18 := by omega
        simp only [h3, h2, h1, hbig, hbig', c1, c2, e8, o7_ok, hx, g0, s0, x1, Pd.x2, Pd.x3, x4, decide_true, decide_false, eq_self, Bool.and_self, Bool.and_true, pb_non, pb_bl, pb_int, pb_str, pb_tup, pb_lv, pb_dv, pl_nil, pl_cons, pu_ints, pu_strs, pu_sgn, pu_nat, end_rt, end_nx, end_own, run, ev, evs, evT, evI, fin, Option.bind_some, Option.map_some, startE, List.map_cons, List.map_nil, List.length_cons, List.length_nil, List.cons_append, List.nil_append, List.replicate_succ, List.replicate_zero, Nat.reduceAdd, Nat.reduceSub, Nat.zero_add, List.getElem?_cons_zero, List.getElem?_cons_succ, List.set_cons_zero, List.set_cons_succ, wipeE, bindTg, setAll, cmpS, eq_ii, eq_ss, lt_ii, lt_ss, mem_s, p_add_i, p_sub_i, b_len_t, b_len_l, b_abs, b_int, b_tuple_l, b_list_t, b_list_l, m_count, i_tup, i_lv, atI_0, atI_1, atI_2, atI_3, atI_4, decide_eq_true_eq, Bool.not_true, Bool.not_false, Bool.false_eq_true, if_true, if_false, ite_true, ite_false, reduceIte, isNon, walkOf, walkS, isi_non_int, isi_non_str, isi_non_tuple, isi_non_list, isi_non_dict, isi_non_bool, isi_bl_int, isi_bl_str, isi_bl_tuple, isi_bl_list, isi_bl_dict, isi_bl_bool, isi_int_int, isi_int_str, isi_int_tuple, isi_int_list, isi_int_dict, isi_int_bool, isi_str_int, isi_str_str, isi_str_tuple, isi_str_list, isi_str_dict, isi_str_bool, isi_tup_int, isi_tup_str, isi_tup_tuple, isi_tup_list, isi_tup_dict, isi_tup_bool, isi_lv_int, isi_lv_str, isi_lv_tuple, isi_lv_list, isi_lv_dict, isi_lv_bool, isi_dv_int, isi_dv_str, isi_dv_tuple, isi_dv_list, isi_dv_dict, isi_dv_bool, isi_scr_int, isi_scr_str, isi_scr_tuple, isi_scr_list, isi_scr_dict, isi_scr_bool]
      · have hbig' : x < (10 : Int) ^ 18 := by omega
        simp only [h3, h2, h1, hbig, hbig', c1, c2, e8, o7_ok, hx, g0, s0, x1, Pd.x2, Pd.x3, x4, decide_true, decide_false, eq_self, Bool.and_self, Bool.and_true, pb_non, pb_bl, pb_int, pb_str, pb_tup, pb_lv, pb_dv, pl_nil, pl_cons, pu_ints, pu_strs, pu_sgn, pu_nat, end_rt, end_nx, end_own, run, ev, evs, evT, evI, fin, Option.bind_some, Option.map_some, startE, List.map_cons, List.map_nil, List.length_cons, List.length_nil, List.cons_append, List.nil_append, List.replicate_succ, List.replicate_zero, Nat.reduceAdd, Nat.reduceSub, Nat.zero_add, List.getElem?_cons_zero, List.getElem?_cons_succ, List.set_cons_zero, List.set_cons_succ, wipeE, bindTg, setAll, cmpS, eq_ii, eq_ss, lt_ii, lt_ss, mem_s, p_add_i, p_sub_i, b_len_t, b_len_l, b_abs, b_int, b_tuple_l, b_list_t, b_list_l, m_count, i_tup, i_lv, atI_0, atI_1, atI_2, atI_3, atI_4, decide_eq_true_eq, Bool.not_true, Bool.not_false, Bool.false_eq_true, if_true, if_false, ite_true, ite_false, reduceIte, isNon, walkOf, walkS, isi_non_int, isi_non_str, isi_non_tuple, isi_non_list, isi_non_dict, isi_non_bool, isi_bl_int, isi_bl_str, isi_bl_tuple, isi_bl_list, isi_bl_dict, isi_bl_bool, isi_int_int, isi_int_str, isi_int_tuple, isi_int_list, isi_int_dict, isi_int_bool, isi_str_int, isi_str_str, isi_str_tuple, isi_str_list, isi_str_dict, isi_str_bool, isi_tup_int, isi_tup_str, isi_tup_tuple, isi_tup_list, isi_tup_dict, isi_tup_bool, isi_lv_int, isi_lv_str, isi_lv_tuple, isi_lv_list, isi_lv_dict, isi_lv_bool, isi_dv_int, isi_dv_str, isi_dv_tuple, isi_dv_list, isi_dv_dict, isi_dv_bool, isi_scr_int, isi_scr_str, isi_scr_tuple, isi_scr_list, isi_scr_dict, isi_scr_bool]
    rw [run_seq first, k4]
    exact hend (pb_int _)
  · obtain ⟨v, h', k1, k2, k3, k4⟩ := draw_tail (n := 1) (fu := 1000) (Φ := callN 1000 progL m) (Nat.le_refl _) hh hk T none
    refine ⟨v, h', k1, k2, k3, ?_⟩
    rw [callN_at fi_law_draw rfl]
    have e0 : startE d_law_draw.N.length [.ref 0, .int k] = [some (.ref 0), some (.int k), none, none, none] := rfl
    rw [e0]
    show ((run 1000 (callN 1000 progL m) (.seq _ (.seq _ _)) [some (.ref 0), some (.int k), none, none, none] (handD h :: T))).bind (endC false _) = _
    have first : run 1000 (callN 1000 progL m) (.ite (.and (.cmp .eq (.sub (.var 0) (.int 2)) (.int 0)) (.cmp .lt (.sub (.var 0) (.int 1)) (.blt .len false (.cons (.sub (.var 0) (.int 0)) .nil)))) (.seq (.set 3 (.sub (.sub (.var 0) (.int 0)) (.sub (.var 0) (.int 1)))) (.seq (.setI (.var 0) (.int 1) (.op .add (.sub (.var 0) (.int 1)) (.int 1))) (.seq (.setI (.var 0) (.int 3) (d_law_draw_o8)) (.seq (.ite (.cmp .ge (.var 3) (d_law_draw_o7)) (.seq (.setI (.var 0) (.int 2) (.var 3)) .skip) (.skip)) .skip)))) (.skip)) [some (.ref 0), some (.int k), none, none, none] (handD h :: T) =
        some (.nx [some (.ref 0), some (.int k), none, none, none], handD h :: T) := by
      by_cases c1 : h.b = 0
      · have c2 : ¬ h.i < ((h.cells.map D.int).length : Nat) := fun z => hc ⟨c1, z⟩
        simp only [c1, c2, g0, decide_true, decide_false, eq_self, Bool.and_self, Bool.and_true, pb_non, pb_bl, pb_int, pb_str, pb_tup, pb_lv, pb_dv, pl_nil, pl_cons, pu_ints, pu_strs, pu_sgn, pu_nat, end_rt, end_nx, end_own, run, ev, evs, evT, evI, fin, Option.bind_some, Option.map_some, startE, List.map_cons, List.map_nil, List.length_cons, List.length_nil, List.cons_append, List.nil_append, List.replicate_succ, List.replicate_zero, Nat.reduceAdd, Nat.reduceSub, Nat.zero_add, List.getElem?_cons_zero, List.getElem?_cons_succ, List.set_cons_zero, List.set_cons_succ, wipeE, bindTg, setAll, cmpS, eq_ii, eq_ss, lt_ii, lt_ss, mem_s, p_add_i, p_sub_i, b_len_t, b_len_l, b_abs, b_int, b_tuple_l, b_list_t, b_list_l, m_count, i_tup, i_lv, atI_0, atI_1, atI_2, atI_3, atI_4, decide_eq_true_eq, Bool.not_true, Bool.not_false, Bool.false_eq_true, if_true, if_false, ite_true, ite_false, reduceIte, isNon, walkOf, walkS, isi_non_int, isi_non_str, isi_non_tuple, isi_non_list, isi_non_dict, isi_non_bool, isi_bl_int, isi_bl_str, isi_bl_tuple, isi_bl_list, isi_bl_dict, isi_bl_bool, isi_int_int, isi_int_str, isi_int_tuple, isi_int_list, isi_int_dict, isi_int_bool, isi_str_int, isi_str_str, isi_str_tuple, isi_str_list, isi_str_dict, isi_str_bool, isi_tup_int, isi_tup_str, isi_tup_tuple, isi_tup_list, isi_tup_dict, isi_tup_bool, isi_lv_int, isi_lv_str, isi_lv_tuple, isi_lv_list, isi_lv_dict, isi_lv_bool, isi_dv_int, isi_dv_str, isi_dv_tuple, isi_dv_list, isi_dv_dict, isi_dv_bool, isi_scr_int, isi_scr_str, isi_scr_tuple, isi_scr_list, isi_scr_dict, isi_scr_bool]
      · simp only [c1, g0, decide_true, decide_false, eq_self, Bool.and_self, Bool.and_true, pb_non, pb_bl, pb_int, pb_str, pb_tup, pb_lv, pb_dv, pl_nil, pl_cons, pu_ints, pu_strs, pu_sgn, pu_nat, end_rt, end_nx, end_own, run, ev, evs, evT, evI, fin, Option.bind_some, Option.map_some, startE, List.map_cons, List.map_nil, List.length_cons, List.length_nil, List.cons_append, List.nil_append, List.replicate_succ, List.replicate_zero, Nat.reduceAdd, Nat.reduceSub, Nat.zero_add, List.getElem?_cons_zero, List.getElem?_cons_succ, List.set_cons_zero, List.set_cons_succ, wipeE, bindTg, setAll, cmpS, eq_ii, eq_ss, lt_ii, lt_ss, mem_s, p_add_i, p_sub_i, b_len_t, b_len_l, b_abs, b_int, b_tuple_l, b_list_t, b_list_l, m_count, i_tup, i_lv, atI_0, atI_1, atI_2, atI_3, atI_4, decide_eq_true_eq, Bool.not_true, Bool.not_false, Bool.false_eq_true, if_true, if_false, ite_true, ite_false, reduceIte, isNon, walkOf, walkS, isi_non_int, isi_non_str, isi_non_tuple, isi_non_list, isi_non_dict, isi_non_bool, isi_bl_int, isi_bl_str, isi_bl_tuple, isi_bl_list, isi_bl_dict, isi_bl_bool, isi_int_int, isi_int_str, isi_int_tuple, isi_int_list, isi_int_dict, isi_int_bool, isi_str_int, isi_str_str, isi_str_tuple, isi_str_list, isi_str_dict, isi_str_bool, isi_tup_int, isi_tup_str, isi_tup_tuple, isi_tup_list, isi_tup_dict, isi_tup_bool, isi_lv_int, isi_lv_str, isi_lv_tuple, isi_lv_list, isi_lv_dict, isi_lv_bool, isi_dv_int, isi_dv_str, isi_dv_tuple, isi_dv_list, isi_dv_dict, isi_dv_bool, isi_scr_int, isi_scr_str, isi_scr_tuple, isi_scr_list, isi_scr_dict, isi_scr_bool]
    rw [run_seq first, k4]
    exact hend (pb_int _)
/-- a draw -/
theorem draw_ok (hn : 1 ≤ n) {h : Hand} (hh : HandOk h) {k : Nat} (hk : 0 < k ∧ k < 1000000) (T : Store) :
    ∃ (v : Nat) (h' : Hand), HandOk h' ∧ v < k ∧ callN 1000 progL n "_law_draw" [.ref 0, .int k] (handD h :: T) = some (.int v, handD h' :: T) := by
  obtain ⟨v, h', a1, a2, a3, a4⟩ := draw_int hn hh (k := k) (by omega) T
  obtain ⟨j, rfl⟩ : ∃ j : Nat, v = j := ⟨v.toNat, by omega⟩
  exact ⟨j, h', a1, by omega, a4⟩
/-- one of a list -/
theorem some_ok (hn : 2 ≤ n) {h : Hand} (hh : HandOk h) {xs : List D} (h0 : xs ≠ []) (hl : xs.length ≤ 1000) (hp : pureL xs = true) (T : Store) :
    ∃ d h', d ∈ xs ∧ HandOk h' ∧ callN 1000 progL n "_law_any" [.ref 0, .lv xs] (handD h :: T) = some (d, handD h' :: T) := by
  obtain ⟨m, rfl, hm⟩ := pos_n hn
  have hpos : 0 < xs.length := List.length_pos_iff.mpr h0
  obtain ⟨v, h', k1, k3, k4⟩ := draw_ok (n := m) hm hh (k := xs.length) (by omega) T
  refine ⟨xs[v], h', List.getElem_mem k3, k1, ?_⟩
  rw [callN_at fi_law_any rfl]
  have e : atI xs (v : Int) = some xs[v] := by rw [atI_nat', List.getElem?_eq_getElem k3]
  simp only [d_law_any, k4, e, hend (pureL_mem hp (List.getElem_mem k3)), eq_self, Bool.and_self, Bool.and_true, pb_non, pb_bl, pb_int, pb_str, pb_tup, pb_lv, pb_dv, pl_nil, pl_cons, pu_ints, pu_strs, pu_sgn, pu_nat, end_rt, end_nx, end_own, run, ev, evs, evT, evI, fin, Option.bind_some, Option.map_some, startE, List.map_cons, List.map_nil, List.length_cons, List.length_nil, List.cons_append, List.nil_append, List.replicate_succ, List.replicate_zero, Nat.reduceAdd, Nat.reduceSub, Nat.zero_add, List.getElem?_cons_zero, List.getElem?_cons_succ, List.set_cons_zero, List.set_cons_succ, wipeE, bindTg, setAll, cmpS, eq_ii, eq_ss, lt_ii, lt_ss, mem_s, p_add_i, p_sub_i, b_len_t, b_len_l, b_abs, b_int, b_tuple_l, b_list_t, b_list_l, m_count, i_tup, i_lv, atI_0, atI_1, atI_2, atI_3, atI_4, decide_eq_true_eq, Bool.not_true, Bool.not_false, Bool.false_eq_true, if_true, if_false, ite_true, ite_false, reduceIte, isNon, walkOf, walkS, isi_non_int, isi_non_str, isi_non_tuple, isi_non_list, isi_non_dict, isi_non_bool, isi_bl_int, isi_bl_str, isi_bl_tuple, isi_bl_list, isi_bl_dict, isi_bl_bool, isi_int_int, isi_int_str, isi_int_tuple, isi_int_list, isi_int_dict, isi_int_bool, isi_str_int, isi_str_str, isi_str_tuple, isi_str_list, isi_str_dict, isi_str_bool, isi_tup_int, isi_tup_str, isi_tup_tuple, isi_tup_list, isi_tup_dict, isi_tup_bool, isi_lv_int, isi_lv_str, isi_lv_tuple, isi_lv_list, isi_lv_dict, isi_lv_bool, isi_dv_int, isi_dv_str, isi_dv_tuple, isi_dv_list, isi_dv_dict, isi_dv_bool, isi_scr_int, isi_scr_str, isi_scr_tuple, isi_scr_list, isi_scr_dict, isi_scr_bool]
/-- one sign of a text -/
theorem some_sign (hn : 2 ≤ n) {h : Hand} (hh : HandOk h) {xs : List Nat} (h0 : xs ≠ []) (hl : xs.length ≤ 1000) (T : Store) :
    ∃ c h', c ∈ xs ∧ HandOk h' ∧ callN 1000 progL n "_law_any" [.ref 0, .str xs] (handD h :: T) = some (.str [c], handD h' :: T) := by
  obtain ⟨m, rfl, hm⟩ := pos_n hn
  have hpos : 0 < xs.length := List.length_pos_iff.mpr h0
  have hz : xs.length ≤ line := ll (by omega)
  obtain ⟨v, h', k1, k3, k4⟩ := draw_ok (n := m) hm hh (k := xs.length) (by omega) T
  refine ⟨xs[v], h', List.getElem_mem k3, k1, ?_⟩
  rw [callN_at fi_law_any rfl]
  have e : ∀ S : Store, itemS (.str xs) (.int (v : Nat)) S = some (.str [xs[v]]) := fun S => i_str_at hz (List.getElem?_eq_getElem k3)
  simp only [d_law_any, k4, e, b_len_s hz, hend (pb_str [xs[v]]), eq_self, Bool.and_self, Bool.and_true, pb_non, pb_bl, pb_int, pb_str, pb_tup, pb_lv, pb_dv, pl_nil, pl_cons, pu_ints, pu_strs, pu_sgn, pu_nat, end_rt, end_nx, end_own, run, ev, evs, evT, evI, fin, Option.bind_some, Option.map_some, startE, List.map_cons, List.map_nil, List.length_cons, List.length_nil, List.cons_append, List.nil_append, List.replicate_succ, List.replicate_zero, Nat.reduceAdd, Nat.reduceSub, Nat.zero_add, List.getElem?_cons_zero, List.getElem?_cons_succ, List.set_cons_zero, List.set_cons_succ, wipeE, bindTg, setAll, cmpS, eq_ii, eq_ss, lt_ii, lt_ss, mem_s, p_add_i, p_sub_i, b_len_t, b_len_l, b_abs, b_int, b_tuple_l, b_list_t, b_list_l, m_count, i_tup, i_lv, atI_0, atI_1, atI_2, atI_3, atI_4, decide_eq_true_eq, Bool.not_true, Bool.not_false, Bool.false_eq_true, if_true, if_false, ite_true, ite_false, reduceIte, isNon, walkOf, walkS, isi_non_int, isi_non_str, isi_non_tuple, isi_non_list, isi_non_dict, isi_non_bool, isi_bl_int, isi_bl_str, isi_bl_tuple, isi_bl_list, isi_bl_dict, isi_bl_bool, isi_int_int, isi_int_str, isi_int_tuple, isi_int_list, isi_int_dict, isi_int_bool, isi_str_int, isi_str_str, isi_str_tuple, isi_str_list, isi_str_dict, isi_str_bool, isi_tup_int, isi_tup_str, isi_tup_tuple, isi_tup_list, isi_tup_dict, isi_tup_bool, isi_lv_int, isi_lv_str, isi_lv_tuple, isi_lv_list, isi_lv_dict, isi_lv_bool, isi_dv_int, isi_dv_str, isi_dv_tuple, isi_dv_list, isi_dv_dict, isi_dv_bool, isi_scr_int, isi_scr_str, isi_scr_tuple, isi_scr_list, isi_scr_dict, isi_scr_bool]
end
end Pd

namespace Pd
open PySem PySem.Spec PyProof.Rows L2
section
variable {n : Nat} {T S : Store} {fu : Nat} {Φ : Calls}
theorem hand_ok (hn : 1 ≤ n) (ns : List Int) (hl : ns.length ≤ 63) : ∃ h, HandOk h ∧ callN 1000 progL n "_law_hand" [.scr ns] [] = some (.ref 0, [handD h]) := by
  obtain ⟨m, rfl, hm⟩ := pos_n hn
  let cs : List Int := ns.map fun i => if i < 0 then -i else i
  refine ⟨⟨cs, 0, 0, 401 + 337 * (cs.length : Int), 0⟩, ⟨fun x hx => ?_, Int.le_refl 0, Int.le_refl 0, show (0 : Int) ≤ 401 + 337 * (cs.length : Int) from by omega, Int.le_refl 0⟩, ?_⟩
  · obtain ⟨i, _, rfl⟩ := List.mem_map.mp hx
    show (0 : Int) ≤ (if i < 0 then -i else i)
    split <;> omega
  · rw [callN_at fi_law_hand rfl]
    have hc : ev 1000 (callN 1000 progL m) d_law_hand_c1 [some (.scr ns), none, none] [] = some (.lv (ns.map fun i => .int (if i < 0 then -i else i)), []) := by
      refine lc_map (L := ns) (φ := .int) (fun i => .int (if i < 0 then -i else i)) ?_ (fun i _ => by simp only [turnF, eq_self, Bool.and_self, Bool.and_true, pb_non, pb_bl, pb_int, pb_str, pb_tup, pb_lv, pb_dv, pl_nil, pl_cons, pu_ints, pu_strs, pu_sgn, pu_nat, end_rt, end_nx, end_own, run, ev, evs, evT, evI, fin, Option.bind_some, Option.map_some, startE, List.map_cons, List.map_nil, List.length_cons, List.length_nil, List.cons_append, List.nil_append, List.replicate_succ, List.replicate_zero, Nat.reduceAdd, Nat.reduceSub, Nat.zero_add, List.getElem?_cons_zero, List.getElem?_cons_succ, List.set_cons_zero, List.set_cons_succ, wipeE, bindTg, setAll, cmpS, eq_ii, eq_ss, lt_ii, lt_ss, mem_s, p_add_i, p_sub_i, b_len_t, b_len_l, b_abs, b_int, b_tuple_l, b_list_t, b_list_l, m_count, i_tup, i_lv, atI_0, atI_1, atI_2, atI_3, atI_4, decide_eq_true_eq, Bool.not_true, Bool.not_false, Bool.false_eq_true, if_true, if_false, ite_true, ite_false, reduceIte, isNon, walkOf, walkS, isi_non_int, isi_non_str, isi_non_tuple, isi_non_list, isi_non_dict, isi_non_bool, isi_bl_int, isi_bl_str, isi_bl_tuple, isi_bl_list, isi_bl_dict, isi_bl_bool, isi_int_int, isi_int_str, isi_int_tuple, isi_int_list, isi_int_dict, isi_int_bool, isi_str_int, isi_str_str, isi_str_tuple, isi_str_list, isi_str_dict, isi_str_bool, isi_tup_int, isi_tup_str, isi_tup_tuple, isi_tup_list, isi_tup_dict, isi_tup_bool, isi_lv_int, isi_lv_str, isi_lv_tuple, isi_lv_list, isi_lv_dict, isi_lv_bool, isi_dv_int, isi_dv_str, isi_dv_tuple, isi_dv_list, isi_dv_dict, isi_dv_bool, isi_scr_int, isi_scr_str, isi_scr_tuple, isi_scr_list, isi_scr_dict, isi_scr_bool]) (ll (by omega))
      have e : cutL ns none (some (63 : Int)) = ns := by
        have := cutL_to ns 63
        rw [List.take_of_length_le hl] at this
        exact this
      simp only [slcS, e, one?, bound?, eq_self, Bool.and_self, Bool.and_true, pb_non, pb_bl, pb_int, pb_str, pb_tup, pb_lv, pb_dv, pl_nil, pl_cons, pu_ints, pu_strs, pu_sgn, pu_nat, end_rt, end_nx, end_own, run, ev, evs, evT, evI, fin, Option.bind_some, Option.map_some, startE, List.map_cons, List.map_nil, List.length_cons, List.length_nil, List.cons_append, List.nil_append, List.replicate_succ, List.replicate_zero, Nat.reduceAdd, Nat.reduceSub, Nat.zero_add, List.getElem?_cons_zero, List.getElem?_cons_succ, List.set_cons_zero, List.set_cons_succ, wipeE, bindTg, setAll, cmpS, eq_ii, eq_ss, lt_ii, lt_ss, mem_s, p_add_i, p_sub_i, b_len_t, b_len_l, b_abs, b_int, b_tuple_l, b_list_t, b_list_l, m_count, i_tup, i_lv, atI_0, atI_1, atI_2, atI_3, atI_4, decide_eq_true_eq, Bool.not_true, Bool.not_false, Bool.false_eq_true, if_true, if_false, ite_true, ite_false, reduceIte, isNon, walkOf, walkS, isi_non_int, isi_non_str, isi_non_tuple, isi_non_list, isi_non_dict, isi_non_bool, isi_bl_int, isi_bl_str, isi_bl_tuple, isi_bl_list, isi_bl_dict, isi_bl_bool, isi_int_int, isi_int_str, isi_int_tuple, isi_int_list, isi_int_dict, isi_int_bool, isi_str_int, isi_str_str, isi_str_tuple, isi_str_list, isi_str_dict, isi_str_bool, isi_tup_int, isi_tup_str, isi_tup_tuple, isi_tup_list, isi_tup_dict, isi_tup_bool, isi_lv_int, isi_lv_str, isi_lv_tuple, isi_lv_list, isi_lv_dict, isi_lv_bool, isi_dv_int, isi_dv_str, isi_dv_tuple, isi_dv_list, isi_dv_dict, isi_dv_bool, isi_scr_int, isi_scr_str, isi_scr_tuple, isi_scr_list, isi_scr_dict, isi_scr_bool]
    have ho : ev 1000 (callN 1000 progL m) d_law_hand_o1 [some (.scr ns), some (.lv (cs.map .int)), none] [] = some (.int (401 + 337 * (cs.length : Int)), []) :=
      ev_op rfl (ev_op rfl (ev_blt1 (x := .lv (cs.map .int)) rfl (by rw [b_len_m])) (p_mul_i (.inl (by decide)))) rfl
    have ec : (ns.map fun i => D.int (if i < 0 then -i else i)) = cs.map .int := by rw [List.map_map]; rfl
    rw [ec] at hc
    have h5 : (5 ≤ line) = True := le_line (by omega)
    simp only [d_law_hand, hc, ho, h5, eq_self, Bool.and_self, Bool.and_true, pb_non, pb_bl, pb_int, pb_str, pb_tup, pb_lv, pb_dv, pl_nil, pl_cons, pu_ints, pu_strs, pu_sgn, pu_nat, end_rt, end_nx, end_own, run, ev, evs, evT, evI, fin, Option.bind_some, Option.map_some, startE, List.map_cons, List.map_nil, List.length_cons, List.length_nil, List.cons_append, List.nil_append, List.replicate_succ, List.replicate_zero, Nat.reduceAdd, Nat.reduceSub, Nat.zero_add, List.getElem?_cons_zero, List.getElem?_cons_succ, List.set_cons_zero, List.set_cons_succ, wipeE, bindTg, setAll, cmpS, eq_ii, eq_ss, lt_ii, lt_ss, mem_s, p_add_i, p_sub_i, b_len_t, b_len_l, b_abs, b_int, b_tuple_l, b_list_t, b_list_l, m_count, i_tup, i_lv, atI_0, atI_1, atI_2, atI_3, atI_4, decide_eq_true_eq, Bool.not_true, Bool.not_false, Bool.false_eq_true, if_true, if_false, ite_true, ite_false, reduceIte, isNon, walkOf, walkS, isi_non_int, isi_non_str, isi_non_tuple, isi_non_list, isi_non_dict, isi_non_bool, isi_bl_int, isi_bl_str, isi_bl_tuple, isi_bl_list, isi_bl_dict, isi_bl_bool, isi_int_int, isi_int_str, isi_int_tuple, isi_int_list, isi_int_dict, isi_int_bool, isi_str_int, isi_str_str, isi_str_tuple, isi_str_list, isi_str_dict, isi_str_bool, isi_tup_int, isi_tup_str, isi_tup_tuple, isi_tup_list, isi_tup_dict, isi_tup_bool, isi_lv_int, isi_lv_str, isi_lv_tuple, isi_lv_list, isi_lv_dict, isi_lv_bool, isi_dv_int, isi_dv_str, isi_dv_tuple, isi_dv_list, isi_dv_dict, isi_dv_bool, isi_scr_int, isi_scr_str, isi_scr_tuple, isi_scr_list, isi_scr_dict, isi_scr_bool]
theorem isa_tl_tup (xs : List D) : bltS .isinst [.tup xs, .tup [.ty "tuple", .ty "list"]] S = some (.val (.bl true)) := by simp [bltS, isAny, isinstS, tyOf, knownTy, isTy]
theorem isa_tl_lv (xs : List D) : bltS .isinst [.lv xs, .tup [.ty "tuple", .ty "list"]] S = some (.val (.bl true)) := by simp [bltS, isAny, isinstS, tyOf, knownTy, isTy]
theorem isa_tl_int (i : Int) : bltS .isinst [.int i, .tup [.ty "tuple", .ty "list"]] S = some (.val (.bl false)) := by simp [bltS, isAny, isinstS, tyOf, knownTy, isTy]
theorem isa_tl_str (i : List Nat) : bltS .isinst [.str i, .tup [.ty "tuple", .ty "list"]] S = some (.val (.bl false)) := by simp [bltS, isAny, isinstS, tyOf, knownTy, isTy]
theorem isa_tl_bl (i : Bool) : bltS .isinst [.bl i, .tup [.ty "tuple", .ty "list"]] S = some (.val (.bl false)) := by simp [bltS, isAny, isinstS, tyOf, knownTy, isTy]
theorem isa_tl_non : bltS .isinst [.non, .tup [.ty "tuple", .ty "list"]] S = some (.val (.bl false)) := by simp [bltS, isAny, isinstS, tyOf, knownTy, isTy]
/-- what the law's own look can compare -/
def isD : Nat → D → Prop
  | 0, _ => False
  | k + 1, d => (∃ xs, (d = .tup xs ∨ d = .lv xs) ∧ xs.length ≤ 1000 ∧ ∀ x ∈ xs, isD k x) ∨ (∃ i, d = .int i ∧ flatB (.int i) = true) ∨ (∃ c, d = .str c ∧ c.length ≤ 10000) ∨ d = .non ∨ (∃ b, d = .bl b)
theorem isD_int {k : Nat} {i : Int} (h : i.natAbs < 1000000000000) : isD (k + 1) (.int i) := .inr (.inl ⟨i, rfl, by simp only [flatB, decide_eq_true_eq]; exact Nat.lt_trans h (by decide)⟩)
theorem isD_nat {k i : Nat} (h : i < 1000000000000) : isD (k + 1) (.int (i : Nat)) := isD_int (by omega)
theorem isD_str {k : Nat} {c : List Nat} (h : c.length ≤ 10000) : isD (k + 1) (.str c) := .inr (.inr (.inl ⟨c, rfl, h⟩))
theorem isD_non {k : Nat} : isD (k + 1) .non := .inr (.inr (.inr (.inl rfl)))
theorem isD_bl {k : Nat} (b : Bool) : isD (k + 1) (.bl b) := .inr (.inr (.inr (.inr ⟨b, rfl⟩)))
theorem isD_tup {k : Nat} {xs : List D} (h : xs.length ≤ 1000) (hx : ∀ x ∈ xs, isD k x) : isD (k + 1) (.tup xs) := .inl ⟨xs, .inl rfl, h, hx⟩
theorem isD_lv {k : Nat} {xs : List D} (h : xs.length ≤ 1000) (hx : ∀ x ∈ xs, isD k x) : isD (k + 1) (.lv xs) := .inl ⟨xs, .inr rfl, h, hx⟩
theorem is_c1 {m k : Nat} (ih : ∀ d, isD k d → callN 1000 progL m "_law_is" [d, d] S = some (.bl true, S)) {xs : List D} (hl : xs.length ≤ 1000) (hx : ∀ x ∈ xs, isD k x) {d : D} (hd : walkS d = some xs) :
    ev 1000 (callN 1000 progL m) d_law_is_c1 [some d, some d, none, none] S = some (.lv (xs.map fun _ => .bl true), S) := by
  refine lc_map (L := xs) (φ := fun x => .tup [x, x]) (fun _ => .bl true) ?_ (fun x hm => ?_) (ll (by omega))
  · simp only [evI, ev, List.getElem?_cons_zero, List.getElem?_cons_succ, Option.bind_some, hd, Option.map_some, zipL_self]
  · simp only [turnF, ih x (hx x hm), eq_self, Bool.and_self, Bool.and_true, pb_non, pb_bl, pb_int, pb_str, pb_tup, pb_lv, pb_dv, pl_nil, pl_cons, pu_ints, pu_strs, pu_sgn, pu_nat, end_rt, end_nx, end_own, run, ev, evs, evT, evI, fin, Option.bind_some, Option.map_some, startE, List.map_cons, List.map_nil, List.length_cons, List.length_nil, List.cons_append, List.nil_append, List.replicate_succ, List.replicate_zero, Nat.reduceAdd, Nat.reduceSub, Nat.zero_add, List.getElem?_cons_zero, List.getElem?_cons_succ, List.set_cons_zero, List.set_cons_succ, wipeE, bindTg, setAll, cmpS, eq_ii, eq_ss, lt_ii, lt_ss, mem_s, p_add_i, p_sub_i, b_len_t, b_len_l, b_abs, b_int, b_tuple_l, b_list_t, b_list_l, m_count, i_tup, i_lv, atI_0, atI_1, atI_2, atI_3, atI_4, decide_eq_true_eq, Bool.not_true, Bool.not_false, Bool.false_eq_true, if_true, if_false, ite_true, ite_false, reduceIte, isNon, walkOf, walkS, isi_non_int, isi_non_str, isi_non_tuple, isi_non_list, isi_non_dict, isi_non_bool, isi_bl_int, isi_bl_str, isi_bl_tuple, isi_bl_list, isi_bl_dict, isi_bl_bool, isi_int_int, isi_int_str, isi_int_tuple, isi_int_list, isi_int_dict, isi_int_bool, isi_str_int, isi_str_str, isi_str_tuple, isi_str_list, isi_str_dict, isi_str_bool, isi_tup_int, isi_tup_str, isi_tup_tuple, isi_tup_list, isi_tup_dict, isi_tup_bool, isi_lv_int, isi_lv_str, isi_lv_tuple, isi_lv_list, isi_lv_dict, isi_lv_bool, isi_dv_int, isi_dv_str, isi_dv_tuple, isi_dv_list, isi_dv_dict, isi_dv_bool, isi_scr_int, isi_scr_str, isi_scr_tuple, isi_scr_list, isi_scr_dict, isi_scr_bool]
theorem is_ok : ∀ (k n : Nat), k ≤ n → ∀ d, isD k d → callN 1000 progL n "_law_is" [d, d] S = some (.bl true, S)
  | 0, _, _, _, h => h.elim
  | k + 1, n, hn, d, h => by
    obtain ⟨m, rfl, hm⟩ := pos_n hn
    rw [callN_at fi_law_is rfl]
    have h2 : (2 ≤ line) = True := le_line (by omega)
    rcases h with ⟨xs, h, hl, hx⟩ | ⟨i, rfl, hi⟩ | ⟨c, rfl, hc⟩ | rfl | ⟨b, rfl⟩
    · rcases h with rfl | rfl
      · have hc := is_c1 (m := m) (is_ok k m hm) hl hx (d := .tup xs) rfl
        simp only [d_law_is, isa_tl_tup, h2, hc, eq_bb, all_true, decide_true, eq_self, Bool.and_self, Bool.and_true, pb_non, pb_bl, pb_int, pb_str, pb_tup, pb_lv, pb_dv, pl_nil, pl_cons, pu_ints, pu_strs, pu_sgn, pu_nat, end_rt, end_nx, end_own, run, ev, evs, evT, evI, fin, Option.bind_some, Option.map_some, startE, List.map_cons, List.map_nil, List.length_cons, List.length_nil, List.cons_append, List.nil_append, List.replicate_succ, List.replicate_zero, Nat.reduceAdd, Nat.reduceSub, Nat.zero_add, List.getElem?_cons_zero, List.getElem?_cons_succ, List.set_cons_zero, List.set_cons_succ, wipeE, bindTg, setAll, cmpS, eq_ii, eq_ss, lt_ii, lt_ss, mem_s, p_add_i, p_sub_i, b_len_t, b_len_l, b_abs, b_int, b_tuple_l, b_list_t, b_list_l, m_count, i_tup, i_lv, atI_0, atI_1, atI_2, atI_3, atI_4, decide_eq_true_eq, Bool.not_true, Bool.not_false, Bool.false_eq_true, if_true, if_false, ite_true, ite_false, reduceIte, isNon, walkOf, walkS, isi_non_int, isi_non_str, isi_non_tuple, isi_non_list, isi_non_dict, isi_non_bool, isi_bl_int, isi_bl_str, isi_bl_tuple, isi_bl_list, isi_bl_dict, isi_bl_bool, isi_int_int, isi_int_str, isi_int_tuple, isi_int_list, isi_int_dict, isi_int_bool, isi_str_int, isi_str_str, isi_str_tuple, isi_str_list, isi_str_dict, isi_str_bool, isi_tup_int, isi_tup_str, isi_tup_tuple, isi_tup_list, isi_tup_dict, isi_tup_bool, isi_lv_int, isi_lv_str, isi_lv_tuple, isi_lv_list, isi_lv_dict, isi_lv_bool, isi_dv_int, isi_dv_str, isi_dv_tuple, isi_dv_list, isi_dv_dict, isi_dv_bool, isi_scr_int, isi_scr_str, isi_scr_tuple, isi_scr_list, isi_scr_dict, isi_scr_bool]
      · have hc := is_c1 (m := m) (is_ok k m hm) hl hx (d := .lv xs) rfl
        simp only [d_law_is, isa_tl_lv, h2, hc, eq_bb, all_true, decide_true, eq_self, Bool.and_self, Bool.and_true, pb_non, pb_bl, pb_int, pb_str, pb_tup, pb_lv, pb_dv, pl_nil, pl_cons, pu_ints, pu_strs, pu_sgn, pu_nat, end_rt, end_nx, end_own, run, ev, evs, evT, evI, fin, Option.bind_some, Option.map_some, startE, List.map_cons, List.map_nil, List.length_cons, List.length_nil, List.cons_append, List.nil_append, List.replicate_succ, List.replicate_zero, Nat.reduceAdd, Nat.reduceSub, Nat.zero_add, List.getElem?_cons_zero, List.getElem?_cons_succ, List.set_cons_zero, List.set_cons_succ, wipeE, bindTg, setAll, cmpS, eq_ii, eq_ss, lt_ii, lt_ss, mem_s, p_add_i, p_sub_i, b_len_t, b_len_l, b_abs, b_int, b_tuple_l, b_list_t, b_list_l, m_count, i_tup, i_lv, atI_0, atI_1, atI_2, atI_3, atI_4, decide_eq_true_eq, Bool.not_true, Bool.not_false, Bool.false_eq_true, if_true, if_false, ite_true, ite_false, reduceIte, isNon, walkOf, walkS, isi_non_int, isi_non_str, isi_non_tuple, isi_non_list, isi_non_dict, isi_non_bool, isi_bl_int, isi_bl_str, isi_bl_tuple, isi_bl_list, isi_bl_dict, isi_bl_bool, isi_int_int, isi_int_str, isi_int_tuple, isi_int_list, isi_int_dict, isi_int_bool, isi_str_int, isi_str_str, isi_str_tuple, isi_str_list, isi_str_dict, isi_str_bool, isi_tup_int, isi_tup_str, isi_tup_tuple, isi_tup_list, isi_tup_dict, isi_tup_bool, isi_lv_int, isi_lv_str, isi_lv_tuple, isi_lv_list, isi_lv_dict, isi_lv_bool, isi_dv_int, isi_dv_str, isi_dv_tuple, isi_dv_list, isi_dv_dict, isi_dv_bool, isi_scr_int, isi_scr_str, isi_scr_tuple, isi_scr_list, isi_scr_dict, isi_scr_bool]
    · have hr := b_repr (S := S) hi
      simp only [d_law_is, isa_tl_int, h2, hr, eq_bb, decide_true, eq_self, Bool.and_self, Bool.and_true, pb_non, pb_bl, pb_int, pb_str, pb_tup, pb_lv, pb_dv, pl_nil, pl_cons, pu_ints, pu_strs, pu_sgn, pu_nat, end_rt, end_nx, end_own, run, ev, evs, evT, evI, fin, Option.bind_some, Option.map_some, startE, List.map_cons, List.map_nil, List.length_cons, List.length_nil, List.cons_append, List.nil_append, List.replicate_succ, List.replicate_zero, Nat.reduceAdd, Nat.reduceSub, Nat.zero_add, List.getElem?_cons_zero, List.getElem?_cons_succ, List.set_cons_zero, List.set_cons_succ, wipeE, bindTg, setAll, cmpS, eq_ii, eq_ss, lt_ii, lt_ss, mem_s, p_add_i, p_sub_i, b_len_t, b_len_l, b_abs, b_int, b_tuple_l, b_list_t, b_list_l, m_count, i_tup, i_lv, atI_0, atI_1, atI_2, atI_3, atI_4, decide_eq_true_eq, Bool.not_true, Bool.not_false, Bool.false_eq_true, if_true, if_false, ite_true, ite_false, reduceIte, isNon, walkOf, walkS, isi_non_int, isi_non_str, isi_non_tuple, isi_non_list, isi_non_dict, isi_non_bool, isi_bl_int, isi_bl_str, isi_bl_tuple, isi_bl_list, isi_bl_dict, isi_bl_bool, isi_int_int, isi_int_str, isi_int_tuple, isi_int_list, isi_int_dict, isi_int_bool, isi_str_int, isi_str_str, isi_str_tuple, isi_str_list, isi_str_dict, isi_str_bool, isi_tup_int, isi_tup_str, isi_tup_tuple, isi_tup_list, isi_tup_dict, isi_tup_bool, isi_lv_int, isi_lv_str, isi_lv_tuple, isi_lv_list, isi_lv_dict, isi_lv_bool, isi_dv_int, isi_dv_str, isi_dv_tuple, isi_dv_list, isi_dv_dict, isi_dv_bool, isi_scr_int, isi_scr_str, isi_scr_tuple, isi_scr_list, isi_scr_dict, isi_scr_bool]
    · have hr := b_repr (S := S) (x := .str c) (by simp [flatB, hc])
      simp only [d_law_is, isa_tl_str, h2, hr, eq_bb, decide_true, eq_self, Bool.and_self, Bool.and_true, pb_non, pb_bl, pb_int, pb_str, pb_tup, pb_lv, pb_dv, pl_nil, pl_cons, pu_ints, pu_strs, pu_sgn, pu_nat, end_rt, end_nx, end_own, run, ev, evs, evT, evI, fin, Option.bind_some, Option.map_some, startE, List.map_cons, List.map_nil, List.length_cons, List.length_nil, List.cons_append, List.nil_append, List.replicate_succ, List.replicate_zero, Nat.reduceAdd, Nat.reduceSub, Nat.zero_add, List.getElem?_cons_zero, List.getElem?_cons_succ, List.set_cons_zero, List.set_cons_succ, wipeE, bindTg, setAll, cmpS, eq_ii, eq_ss, lt_ii, lt_ss, mem_s, p_add_i, p_sub_i, b_len_t, b_len_l, b_abs, b_int, b_tuple_l, b_list_t, b_list_l, m_count, i_tup, i_lv, atI_0, atI_1, atI_2, atI_3, atI_4, decide_eq_true_eq, Bool.not_true, Bool.not_false, Bool.false_eq_true, if_true, if_false, ite_true, ite_false, reduceIte, isNon, walkOf, walkS, isi_non_int, isi_non_str, isi_non_tuple, isi_non_list, isi_non_dict, isi_non_bool, isi_bl_int, isi_bl_str, isi_bl_tuple, isi_bl_list, isi_bl_dict, isi_bl_bool, isi_int_int, isi_int_str, isi_int_tuple, isi_int_list, isi_int_dict, isi_int_bool, isi_str_int, isi_str_str, isi_str_tuple, isi_str_list, isi_str_dict, isi_str_bool, isi_tup_int, isi_tup_str, isi_tup_tuple, isi_tup_list, isi_tup_dict, isi_tup_bool, isi_lv_int, isi_lv_str, isi_lv_tuple, isi_lv_list, isi_lv_dict, isi_lv_bool, isi_dv_int, isi_dv_str, isi_dv_tuple, isi_dv_list, isi_dv_dict, isi_dv_bool, isi_scr_int, isi_scr_str, isi_scr_tuple, isi_scr_list, isi_scr_dict, isi_scr_bool]
    · simp only [d_law_is, isa_tl_non, h2, eq_bb, decide_true, eq_self, Bool.and_self, Bool.and_true, pb_non, pb_bl, pb_int, pb_str, pb_tup, pb_lv, pb_dv, pl_nil, pl_cons, pu_ints, pu_strs, pu_sgn, pu_nat, end_rt, end_nx, end_own, run, ev, evs, evT, evI, fin, Option.bind_some, Option.map_some, startE, List.map_cons, List.map_nil, List.length_cons, List.length_nil, List.cons_append, List.nil_append, List.replicate_succ, List.replicate_zero, Nat.reduceAdd, Nat.reduceSub, Nat.zero_add, List.getElem?_cons_zero, List.getElem?_cons_succ, List.set_cons_zero, List.set_cons_succ, wipeE, bindTg, setAll, cmpS, eq_ii, eq_ss, lt_ii, lt_ss, mem_s, p_add_i, p_sub_i, b_len_t, b_len_l, b_abs, b_int, b_tuple_l, b_list_t, b_list_l, m_count, i_tup, i_lv, atI_0, atI_1, atI_2, atI_3, atI_4, decide_eq_true_eq, Bool.not_true, Bool.not_false, Bool.false_eq_true, if_true, if_false, ite_true, ite_false, reduceIte, isNon, walkOf, walkS, isi_non_int, isi_non_str, isi_non_tuple, isi_non_list, isi_non_dict, isi_non_bool, isi_bl_int, isi_bl_str, isi_bl_tuple, isi_bl_list, isi_bl_dict, isi_bl_bool, isi_int_int, isi_int_str, isi_int_tuple, isi_int_list, isi_int_dict, isi_int_bool, isi_str_int, isi_str_str, isi_str_tuple, isi_str_list, isi_str_dict, isi_str_bool, isi_tup_int, isi_tup_str, isi_tup_tuple, isi_tup_list, isi_tup_dict, isi_tup_bool, isi_lv_int, isi_lv_str, isi_lv_tuple, isi_lv_list, isi_lv_dict, isi_lv_bool, isi_dv_int, isi_dv_str, isi_dv_tuple, isi_dv_list, isi_dv_dict, isi_dv_bool, isi_scr_int, isi_scr_str, isi_scr_tuple, isi_scr_list, isi_scr_dict, isi_scr_bool]
    · have hr := b_repr (S := S) (x := .bl b) rfl
      simp only [d_law_is, isa_tl_bl, h2, hr, eq_bb, decide_true, eq_self, Bool.and_self, Bool.and_true, pb_non, pb_bl, pb_int, pb_str, pb_tup, pb_lv, pb_dv, pl_nil, pl_cons, pu_ints, pu_strs, pu_sgn, pu_nat, end_rt, end_nx, end_own, run, ev, evs, evT, evI, fin, Option.bind_some, Option.map_some, startE, List.map_cons, List.map_nil, List.length_cons, List.length_nil, List.cons_append, List.nil_append, List.replicate_succ, List.replicate_zero, Nat.reduceAdd, Nat.reduceSub, Nat.zero_add, List.getElem?_cons_zero, List.getElem?_cons_succ, List.set_cons_zero, List.set_cons_succ, wipeE, bindTg, setAll, cmpS, eq_ii, eq_ss, lt_ii, lt_ss, mem_s, p_add_i, p_sub_i, b_len_t, b_len_l, b_abs, b_int, b_tuple_l, b_list_t, b_list_l, m_count, i_tup, i_lv, atI_0, atI_1, atI_2, atI_3, atI_4, decide_eq_true_eq, Bool.not_true, Bool.not_false, Bool.false_eq_true, if_true, if_false, ite_true, ite_false, reduceIte, isNon, walkOf, walkS, isi_non_int, isi_non_str, isi_non_tuple, isi_non_list, isi_non_dict, isi_non_bool, isi_bl_int, isi_bl_str, isi_bl_tuple, isi_bl_list, isi_bl_dict, isi_bl_bool, isi_int_int, isi_int_str, isi_int_tuple, isi_int_list, isi_int_dict, isi_int_bool, isi_str_int, isi_str_str, isi_str_tuple, isi_str_list, isi_str_dict, isi_str_bool, isi_tup_int, isi_tup_str, isi_tup_tuple, isi_tup_list, isi_tup_dict, isi_tup_bool, isi_lv_int, isi_lv_str, isi_lv_tuple, isi_lv_list, isi_lv_dict, isi_lv_bool, isi_dv_int, isi_dv_str, isi_dv_tuple, isi_dv_list, isi_dv_dict, isi_dv_bool, isi_scr_int, isi_scr_str, isi_scr_tuple, isi_scr_list, isi_scr_dict, isi_scr_bool]
/-- letters drawn -/
theorem letters_step {m : Nat} (hm : 2 ≤ m) {sg : List Nat} (h0 : sg ≠ []) (hl : sg.length ≤ 1000) {h : Hand} (hh : HandOk h) (T : Store) (x1 x4 : Option D) {acc : List Nat} (ha : acc.length ≤ 1000) :
    ∃ (c : Nat) (h' : Hand), c ∈ sg ∧ HandOk h' ∧ run 1000 (callN 1000 progL m) d_law_letters_b1 [some (.ref 0), x1, some (.str sg), some (.str acc), x4] (handD h :: T) =
      some (.nx [some (.ref 0), x1, some (.str sg), some (.str (acc ++ [c])), x4], handD h' :: T) := by
  obtain ⟨c, h', hc, hh', e⟩ := some_sign hm hh h0 hl T
  refine ⟨c, h', hc, hh', ?_⟩
  have ea : opS .add (.str acc) (.str [c]) (handD h' :: T) = some (.val (.str (acc ++ [c]))) := p_add_s (ll (by simp; omega))
  simp only [d_law_letters_b1, e, ea, eq_self, Bool.and_self, Bool.and_true, pb_non, pb_bl, pb_int, pb_str, pb_tup, pb_lv, pb_dv, pl_nil, pl_cons, pu_ints, pu_strs, pu_sgn, pu_nat, end_rt, end_nx, end_own, run, ev, evs, evT, evI, fin, Option.bind_some, Option.map_some, startE, List.map_cons, List.map_nil, List.length_cons, List.length_nil, List.cons_append, List.nil_append, List.replicate_succ, List.replicate_zero, Nat.reduceAdd, Nat.reduceSub, Nat.zero_add, List.getElem?_cons_zero, List.getElem?_cons_succ, List.set_cons_zero, List.set_cons_succ, wipeE, bindTg, setAll, cmpS, eq_ii, eq_ss, lt_ii, lt_ss, mem_s, p_add_i, p_sub_i, b_len_t, b_len_l, b_abs, b_int, b_tuple_l, b_list_t, b_list_l, m_count, i_tup, i_lv, atI_0, atI_1, atI_2, atI_3, atI_4, decide_eq_true_eq, Bool.not_true, Bool.not_false, Bool.false_eq_true, if_true, if_false, ite_true, ite_false, reduceIte, isNon, walkOf, walkS, isi_non_int, isi_non_str, isi_non_tuple, isi_non_list, isi_non_dict, isi_non_bool, isi_bl_int, isi_bl_str, isi_bl_tuple, isi_bl_list, isi_bl_dict, isi_bl_bool, isi_int_int, isi_int_str, isi_int_tuple, isi_int_list, isi_int_dict, isi_int_bool, isi_str_int, isi_str_str, isi_str_tuple, isi_str_list, isi_str_dict, isi_str_bool, isi_tup_int, isi_tup_str, isi_tup_tuple, isi_tup_list, isi_tup_dict, isi_tup_bool, isi_lv_int, isi_lv_str, isi_lv_tuple, isi_lv_list, isi_lv_dict, isi_lv_bool, isi_dv_int, isi_dv_str, isi_dv_tuple, isi_dv_list, isi_dv_dict, isi_dv_bool, isi_scr_int, isi_scr_str, isi_scr_tuple, isi_scr_list, isi_scr_dict, isi_scr_bool]
theorem letters_ok (hn : 3 ≤ n) {h : Hand} (hh : HandOk h) {k : Nat} (hk : k ≤ 900) (T : Store) :
    ∃ (t : List Nat) (h' : Hand), Txt1 k k t ∧ HandOk h' ∧ callN 1000 progL n "_law_letters" [.ref 0, .int k] (handD h :: T) = some (.str t, handD h' :: T) := by
  obtain ⟨m, rfl, hm⟩ := pos_n hn
  obtain ⟨v, h1, hh1, hv, e1⟩ := draw_ok (n := m) (by omega) hh (k := 5) (by decide) T
  let sg : List Nat := [97, 98, 99, 100, 101, 102].take (2 + v)
  have hsg : sg ≠ [] := by
    show List.take (2 + v) [97, 98, 99, 100, 101, 102] ≠ []
    rw [show 2 + v = (v + 1) + 1 from by omega, List.take_succ_cons]
    exact List.cons_ne_nil _ _
  have hsl : sg.length ≤ 1000 := by
    have : sg.length ≤ 6 := List.length_take_le' _ _
    omega
  have hsa : ∀ c ∈ sg, ltr c := fun c hc => by
    have : c ∈ [97, 98, 99, 100, 101, 102] := List.mem_of_mem_take hc
    simp only [List.mem_cons, List.not_mem_nil, or_false] at this
    unfold ltr
    omega
  have hs1 : ev 1000 (callN 1000 progL m) (.slc (.str [97, 98, 99, 100, 101, 102]) (.nil) (.cons (.op .add (.int 2) (.call "_law_draw" (.cons (.var 0) (.cons (.int 5) .nil)))) .nil)) [some (.ref 0), some (.int k), none, none, none] (handD h :: T) = some (.str sg, handD h1 :: T) := by
    refine ev_slc_to (k := 2 + v) rfl ?_ (ll (by decide))
    have e1' : callN 1000 progL m "_law_draw" [.ref 0, .int 5] (handD h :: T) = some (.int v, handD h1 :: T) := e1
    have e2 : (2 : Int) + (v : Int) = ((2 + v : Nat) : Int) := by omega
    simp only [e1', e2, eq_self, Bool.and_self, Bool.and_true, pb_non, pb_bl, pb_int, pb_str, pb_tup, pb_lv, pb_dv, pl_nil, pl_cons, pu_ints, pu_strs, pu_sgn, pu_nat, end_rt, end_nx, end_own, run, ev, evs, evT, evI, fin, Option.bind_some, Option.map_some, startE, List.map_cons, List.map_nil, List.length_cons, List.length_nil, List.cons_append, List.nil_append, List.replicate_succ, List.replicate_zero, Nat.reduceAdd, Nat.reduceSub, Nat.zero_add, List.getElem?_cons_zero, List.getElem?_cons_succ, List.set_cons_zero, List.set_cons_succ, wipeE, bindTg, setAll, cmpS, eq_ii, eq_ss, lt_ii, lt_ss, mem_s, p_add_i, p_sub_i, b_len_t, b_len_l, b_abs, b_int, b_tuple_l, b_list_t, b_list_l, m_count, i_tup, i_lv, atI_0, atI_1, atI_2, atI_3, atI_4, decide_eq_true_eq, Bool.not_true, Bool.not_false, Bool.false_eq_true, if_true, if_false, ite_true, ite_false, reduceIte, isNon, walkOf, walkS, isi_non_int, isi_non_str, isi_non_tuple, isi_non_list, isi_non_dict, isi_non_bool, isi_bl_int, isi_bl_str, isi_bl_tuple, isi_bl_list, isi_bl_dict, isi_bl_bool, isi_int_int, isi_int_str, isi_int_tuple, isi_int_list, isi_int_dict, isi_int_bool, isi_str_int, isi_str_str, isi_str_tuple, isi_str_list, isi_str_dict, isi_str_bool, isi_tup_int, isi_tup_str, isi_tup_tuple, isi_tup_list, isi_tup_dict, isi_tup_bool, isi_lv_int, isi_lv_str, isi_lv_tuple, isi_lv_list, isi_lv_dict, isi_lv_bool, isi_dv_int, isi_dv_str, isi_dv_tuple, isi_dv_list, isi_dv_dict, isi_dv_bool, isi_scr_int, isi_scr_str, isi_scr_tuple, isi_scr_list, isi_scr_dict, isi_scr_bool]
  have p1 : run 1000 (callN 1000 progL m) (.set 2 (.slc (.str [97, 98, 99, 100, 101, 102]) (.nil) (.cons (.op .add (.int 2) (.call "_law_draw" (.cons (.var 0) (.cons (.int 5) .nil)))) .nil))) [some (.ref 0), some (.int k), none, none, none] (handD h :: T) = some (.nx [some (.ref 0), some (.int k), some (.str sg), none, none], handD h1 :: T) := by
    simp only [run, hs1, Option.map_some, List.set_cons_zero, List.set_cons_succ]
  have p2 : run 1000 (callN 1000 progL m) (.set 3 (.str [])) [some (.ref 0), some (.int k), some (.str sg), none, none] (handD h1 :: T) = some (.nx [some (.ref 0), some (.int k), some (.str sg), some (.str []), none], handD h1 :: T) := rfl
  have hr : rangeS [.int (k : Nat)] = some (intL 0 k) := by rw [range_1 (by omega), Int.toNat_natCast]
  obtain ⟨ρ', S', p3, t, h', x4, hρ, hS, hh', hlen, hok⟩ := loop_range (fu := 1000) (Φ := callN 1000 progL m) (g := .nm 4) (b := d_law_letters_b1) (k := k) (es := .cons (.var 1) .nil) (ρ := [some (.ref 0), some (.int k), some (.str sg), some (.str []), none]) (S := handD h1 :: T)
    (fun i ρ S => ∃ t h' x4, ρ = [some (.ref 0), some (.int k), some (.str sg), some (.str t), x4] ∧ S = handD h' :: T ∧ HandOk h' ∧ t.length = i ∧ ∀ c ∈ t, ltr c) ⟨[], h1, none, rfl, rfl, hh1, rfl, fun _ h => (List.not_mem_nil h).elim⟩
    (by simp only [hr, eq_self, Bool.and_self, Bool.and_true, pb_non, pb_bl, pb_int, pb_str, pb_tup, pb_lv, pb_dv, pl_nil, pl_cons, pu_ints, pu_strs, pu_sgn, pu_nat, end_rt, end_nx, end_own, run, ev, evs, evT, evI, fin, Option.bind_some, Option.map_some, startE, List.map_cons, List.map_nil, List.length_cons, List.length_nil, List.cons_append, List.nil_append, List.replicate_succ, List.replicate_zero, Nat.reduceAdd, Nat.reduceSub, Nat.zero_add, List.getElem?_cons_zero, List.getElem?_cons_succ, List.set_cons_zero, List.set_cons_succ, wipeE, bindTg, setAll, cmpS, eq_ii, eq_ss, lt_ii, lt_ss, mem_s, p_add_i, p_sub_i, b_len_t, b_len_l, b_abs, b_int, b_tuple_l, b_list_t, b_list_l, m_count, i_tup, i_lv, atI_0, atI_1, atI_2, atI_3, atI_4, decide_eq_true_eq, Bool.not_true, Bool.not_false, Bool.false_eq_true, if_true, if_false, ite_true, ite_false, reduceIte, isNon, walkOf, walkS, isi_non_int, isi_non_str, isi_non_tuple, isi_non_list, isi_non_dict, isi_non_bool, isi_bl_int, isi_bl_str, isi_bl_tuple, isi_bl_list, isi_bl_dict, isi_bl_bool, isi_int_int, isi_int_str, isi_int_tuple, isi_int_list, isi_int_dict, isi_int_bool, isi_str_int, isi_str_str, isi_str_tuple, isi_str_list, isi_str_dict, isi_str_bool, isi_tup_int, isi_tup_str, isi_tup_tuple, isi_tup_list, isi_tup_dict, isi_tup_bool, isi_lv_int, isi_lv_str, isi_lv_tuple, isi_lv_list, isi_lv_dict, isi_lv_bool, isi_dv_int, isi_dv_str, isi_dv_tuple, isi_dv_list, isi_dv_dict, isi_dv_bool, isi_scr_int, isi_scr_str, isi_scr_tuple, isi_scr_list, isi_scr_dict, isi_scr_bool]) (fun i ρ S hi ⟨t, h', x4, e4, e5, hh', hlen, hok⟩ => by
      subst e4 e5
      obtain ⟨c, h2, hc, hh2, e⟩ := letters_step (m := m) (by omega) hsg hsl hh' T (some (.int k)) (some (.int i)) (acc := t) (by omega)
      refine ⟨_, _, _, rfl, e, t ++ [c], h2, _, rfl, rfl, hh2, by rw [List.length_append, hlen]; rfl, fun d hd => ?_⟩
      rcases List.mem_append.mp hd with hd | hd
      · exact hok d hd
      · rw [List.mem_singleton.mp hd]; exact hsa c hc)
  subst hρ hS
  refine ⟨t, h', ⟨hok, by omega, by omega⟩, hh', ?_⟩
  rw [callN_at fi_law_letters rfl]
  show (run 1000 (callN 1000 progL m) (.seq _ (.seq _ (.seq _ _))) [some (.ref 0), some (.int k), none, none, none] (handD h :: T)).bind (endC false _) = _
  rw [run_seq p1, run_seq p2, run_seq p3]
  exact hend (pb_str t)
theorem text_ok (hn : 4 ≤ n) {h : Hand} (hh : HandOk h) {k : Nat} (hk : k ≤ 800) (T : Store) :
    ∃ (t : List Nat) (h' : Hand), Txt1 0 k t ∧ HandOk h' ∧ callN 1000 progL n "_law_text" [.ref 0, .int k] (handD h :: T) = some (.str t, handD h' :: T) := by
  obtain ⟨m, rfl, hm⟩ := pos_n hn
  obtain ⟨v, h1, hh1, hv, e1⟩ := draw_ok (n := m) (by omega) hh (k := k + 1) (by omega) T
  obtain ⟨t, h2, ht, hh2, e2⟩ := letters_ok (n := m) (by omega) hh1 (k := v) (by omega) T
  refine ⟨t, h2, ⟨ht.ok, by omega, by have := ht.le; omega⟩, hh2, ?_⟩
  rw [callN_at fi_law_text rfl]
  have ek : (k : Int) + 1 = ((k + 1 : Nat) : Int) := by omega
  simp only [d_law_text, ek, e1, e2, hend (pb_str t), eq_self, Bool.and_self, Bool.and_true, pb_non, pb_bl, pb_int, pb_str, pb_tup, pb_lv, pb_dv, pl_nil, pl_cons, pu_ints, pu_strs, pu_sgn, pu_nat, end_rt, end_nx, end_own, run, ev, evs, evT, evI, fin, Option.bind_some, Option.map_some, startE, List.map_cons, List.map_nil, List.length_cons, List.length_nil, List.cons_append, List.nil_append, List.replicate_succ, List.replicate_zero, Nat.reduceAdd, Nat.reduceSub, Nat.zero_add, List.getElem?_cons_zero, List.getElem?_cons_succ, List.set_cons_zero, List.set_cons_succ, wipeE, bindTg, setAll, cmpS, eq_ii, eq_ss, lt_ii, lt_ss, mem_s, p_add_i, p_sub_i, b_len_t, b_len_l, b_abs, b_int, b_tuple_l, b_list_t, b_list_l, m_count, i_tup, i_lv, atI_0, atI_1, atI_2, atI_3, atI_4, decide_eq_true_eq, Bool.not_true, Bool.not_false, Bool.false_eq_true, if_true, if_false, ite_true, ite_false, reduceIte, isNon, walkOf, walkS, isi_non_int, isi_non_str, isi_non_tuple, isi_non_list, isi_non_dict, isi_non_bool, isi_bl_int, isi_bl_str, isi_bl_tuple, isi_bl_list, isi_bl_dict, isi_bl_bool, isi_int_int, isi_int_str, isi_int_tuple, isi_int_list, isi_int_dict, isi_int_bool, isi_str_int, isi_str_str, isi_str_tuple, isi_str_list, isi_str_dict, isi_str_bool, isi_tup_int, isi_tup_str, isi_tup_tuple, isi_tup_list, isi_tup_dict, isi_tup_bool, isi_lv_int, isi_lv_str, isi_lv_tuple, isi_lv_list, isi_lv_dict, isi_lv_bool, isi_dv_int, isi_dv_str, isi_dv_tuple, isi_dv_list, isi_dv_dict, isi_dv_bool, isi_scr_int, isi_scr_str, isi_scr_tuple, isi_scr_list, isi_scr_dict, isi_scr_bool]
end
end Pd

/-! scripts drawn, what they lead to -/
namespace Pd
open PySem PySem.Spec PyProof.Rows L2
section
variable {n : Nat} {S : Store}
inductive Stp where
  | put (c : Nat)
  | keep
  | drop
  | chg (c : Nat)
abbrev wPut : List Nat := [112, 117, 116]
abbrev wKeep : List Nat := [107, 101, 101, 112]
abbrev wDrop : List Nat := [100, 114, 111, 112]
abbrev wChg : List Nat := [99, 104, 97, 110, 103, 101]
def stD : Stp → D
  | .put c => .tup [.str wPut, .str [c]]
  | .keep => .tup [.str wKeep]
  | .drop => .tup [.str wDrop]
  | .chg c => .tup [.str wChg, .str [c]]
def ledO (one : List Nat) : Nat → List Stp → Option (List Nat)
  | k, [] => if k = one.length then some [] else none
  | k, .put c :: r => (ledO one k r).map (c :: ·)
  | k, .keep :: r => if k < one.length then (ledO one (k + 1) r).map (one[k]?.getD 0 :: ·) else none
  | k, .drop :: r => if k < one.length then ledO one (k + 1) r else none
  | k, .chg c :: r => if k < one.length ∧ c ≠ one[k]?.getD 0 then (ledO one (k + 1) r).map (c :: ·) else none
theorem decW : ¬ wKeep = wPut ∧ ¬ wDrop = wPut ∧ ¬ wChg = wPut ∧ ¬ wKeep = wChg ∧ ¬ wDrop = wChg ∧ ¬ wDrop = wKeep ∧ ¬ wChg = wKeep := by decide
theorem led_ok (hn : 1 ≤ n) {one t : List Nat} {steps : List Stp} {d : D} (ho : one.length ≤ 100) (hs : steps.length ≤ 900) (ht : t.length ≤ 1000) (h : ledO one 0 steps = some t) (hd : walkOf S d = some (.fix (steps.map stD)) ∨ ∃ l, walkOf S d = some (.dyn l) ∧ S[l]? = some (.lv (steps.map stD))) :
    callN 1000 progL n "_law_led" [.str one, d] S = some (.str t, S) := by
  obtain ⟨m, rfl, hm⟩ := pos_n hn
  rw [callN_at fi_law_led rfl]
  have hz : one.length ≤ line := ll (by omega)
  obtain ⟨w1, w2, w3, w5, w6, w8, w10⟩ := decW
  obtain ⟨ρ', p2, f, k, x2, x5, rest, hρ, hr, hf, _⟩ := loop_any (fu := 1000) (Φ := callN 1000 progL m) (g := .nm 2) (e := .var 1) (b := d_law_led_b1) (φ := stD) (L := steps) (d := d) (S := S) (ρ := [some (.str one), some d, none, some (.str []), some (.int (0 : Nat)), none]) rfl hd (by omega)
    (fun j ρ => ∃ (f : List Nat) (k : Nat) (x2 x5 : Option D) (rest : List Nat), ρ = [some (.str one), some d, x2, some (.str f), some (.int (k : Nat)), x5] ∧ ledO one k (steps.drop j) = some rest ∧ f ++ rest = t ∧ k ≤ one.length) ⟨[], 0, none, none, t, rfl, by simpa using h, rfl, Nat.zero_le _⟩ (fun j x ρ hj ⟨f, k, x2, x5, rest, e, hr, hf, hk⟩ => by
      subst e
      have hlt := (List.getElem?_eq_some_iff.mp hj).1
      have ed : steps.drop j = x :: steps.drop (j + 1) := by
        rw [List.drop_eq_getElem_cons hlt, (List.getElem?_eq_some_iff.mp hj).2]
      rw [ed] at hr
      have hft : f.length ≤ 1000 := by
        have := congrArg List.length hf
        rw [List.length_append] at this
        omega
      have ea : ∀ {z : List Nat}, f.length + z.length ≤ 2000 → opS .add (.str f) (.str z) S = some (.val (.str (f ++ z))) := fun hz => p_add_s (ll (by omega))
      have ek : ((k : Nat) : Int) + 1 = ((k + 1 : Nat) : Int) := by omega
      have hne : k < one.length → ¬ ((k : Nat) : Int) = ((one.length : Nat) : Int) := fun h => by omega
      have hit : k < one.length → itemS (.str one) (.int (k : Nat)) S = some (.str [one[k]?.getD 0]) := fun h => i_str_at hz (by rw [List.getElem?_eq_getElem h]; rfl)
      cases x with
      | put c =>
        simp only [ledO, Option.map_eq_some_iff] at hr
        obtain ⟨r', hr, rfl⟩ := hr
        have ea' := ea (z := [c]) (by simp; omega)
        refine ⟨_, [some (.str one), some d, some (stD (.put c)), some (.str (f ++ [c])), some (.int (k : Nat)), x5], rfl, ?_, f ++ [c], k, _, _, r', rfl, hr, by rw [← hf, List.append_assoc]; rfl, hk⟩
        simp only [d_law_led_b1, stD, ea', decide_true, eq_self, Bool.and_self, Bool.and_true, pb_non, pb_bl, pb_int, pb_str, pb_tup, pb_lv, pb_dv, pl_nil, pl_cons, pu_ints, pu_strs, pu_sgn, pu_nat, end_rt, end_nx, end_own, run, ev, evs, evT, evI, fin, Option.bind_some, Option.map_some, startE, List.map_cons, List.map_nil, List.length_cons, List.length_nil, List.cons_append, List.nil_append, List.replicate_succ, List.replicate_zero, Nat.reduceAdd, Nat.reduceSub, Nat.zero_add, List.getElem?_cons_zero, List.getElem?_cons_succ, List.set_cons_zero, List.set_cons_succ, wipeE, bindTg, setAll, cmpS, eq_ii, eq_ss, lt_ii, lt_ss, mem_s, p_add_i, p_sub_i, b_len_t, b_len_l, b_abs, b_int, b_tuple_l, b_list_t, b_list_l, m_count, i_tup, i_lv, atI_0, atI_1, atI_2, atI_3, atI_4, decide_eq_true_eq, Bool.not_true, Bool.not_false, Bool.false_eq_true, if_true, if_false, ite_true, ite_false, reduceIte, isNon, walkOf, walkS, isi_non_int, isi_non_str, isi_non_tuple, isi_non_list, isi_non_dict, isi_non_bool, isi_bl_int, isi_bl_str, isi_bl_tuple, isi_bl_list, isi_bl_dict, isi_bl_bool, isi_int_int, isi_int_str, isi_int_tuple, isi_int_list, isi_int_dict, isi_int_bool, isi_str_int, isi_str_str, isi_str_tuple, isi_str_list, isi_str_dict, isi_str_bool, isi_tup_int, isi_tup_str, isi_tup_tuple, isi_tup_list, isi_tup_dict, isi_tup_bool, isi_lv_int, isi_lv_str, isi_lv_tuple, isi_lv_list, isi_lv_dict, isi_lv_bool, isi_dv_int, isi_dv_str, isi_dv_tuple, isi_dv_list, isi_dv_dict, isi_dv_bool, isi_scr_int, isi_scr_str, isi_scr_tuple, isi_scr_list, isi_scr_dict, isi_scr_bool]
      | keep =>
        simp only [ledO] at hr
        split at hr <;> try (cases hr; done)
        rename_i hk'
        simp only [Option.map_eq_some_iff] at hr
        obtain ⟨r', hr, rfl⟩ := hr
        have ea' := ea (z := [one[k]?.getD 0]) (by simp; omega)
        have hn1 := hne hk'
        have hi1 := hit hk'
        refine ⟨_, [some (.str one), some d, some (stD .keep), some (.str (f ++ [one[k]?.getD 0])), some (.int (k + 1 : Nat)), some (.str [one[k]?.getD 0])], rfl, ?_, f ++ [one[k]?.getD 0], k + 1, _, _, r', rfl, hr, by rw [← hf, List.append_assoc]; rfl, hk'⟩
        simp only [d_law_led_b1, stD, w1, w5, decide_true, ea', hn1, hi1, ek, b_len_s hz, decide_false, eq_self, Bool.and_self, Bool.and_true, pb_non, pb_bl, pb_int, pb_str, pb_tup, pb_lv, pb_dv, pl_nil, pl_cons, pu_ints, pu_strs, pu_sgn, pu_nat, end_rt, end_nx, end_own, run, ev, evs, evT, evI, fin, Option.bind_some, Option.map_some, startE, List.map_cons, List.map_nil, List.length_cons, List.length_nil, List.cons_append, List.nil_append, List.replicate_succ, List.replicate_zero, Nat.reduceAdd, Nat.reduceSub, Nat.zero_add, List.getElem?_cons_zero, List.getElem?_cons_succ, List.set_cons_zero, List.set_cons_succ, wipeE, bindTg, setAll, cmpS, eq_ii, eq_ss, lt_ii, lt_ss, mem_s, p_add_i, p_sub_i, b_len_t, b_len_l, b_abs, b_int, b_tuple_l, b_list_t, b_list_l, m_count, i_tup, i_lv, atI_0, atI_1, atI_2, atI_3, atI_4, decide_eq_true_eq, Bool.not_true, Bool.not_false, Bool.false_eq_true, if_true, if_false, ite_true, ite_false, reduceIte, isNon, walkOf, walkS, isi_non_int, isi_non_str, isi_non_tuple, isi_non_list, isi_non_dict, isi_non_bool, isi_bl_int, isi_bl_str, isi_bl_tuple, isi_bl_list, isi_bl_dict, isi_bl_bool, isi_int_int, isi_int_str, isi_int_tuple, isi_int_list, isi_int_dict, isi_int_bool, isi_str_int, isi_str_str, isi_str_tuple, isi_str_list, isi_str_dict, isi_str_bool, isi_tup_int, isi_tup_str, isi_tup_tuple, isi_tup_list, isi_tup_dict, isi_tup_bool, isi_lv_int, isi_lv_str, isi_lv_tuple, isi_lv_list, isi_lv_dict, isi_lv_bool, isi_dv_int, isi_dv_str, isi_dv_tuple, isi_dv_list, isi_dv_dict, isi_dv_bool, isi_scr_int, isi_scr_str, isi_scr_tuple, isi_scr_list, isi_scr_dict, isi_scr_bool]
      | drop =>
        simp only [ledO] at hr
        split at hr <;> try (cases hr; done)
        rename_i hk'
        have ea' := ea (z := []) (by simp; omega)
        have hn1 := hne hk'
        rw [List.append_nil] at ea'
        refine ⟨_, [some (.str one), some d, some (stD .drop), some (.str f), some (.int (k + 1 : Nat)), some (.str [])], rfl, ?_, f, k + 1, _, _, rest, rfl, hr, hf, hk'⟩
        simp only [d_law_led_b1, stD, w2, w6, w8, decide_true, ea', hn1, ek, b_len_s hz, decide_false, eq_self, Bool.and_self, Bool.and_true, pb_non, pb_bl, pb_int, pb_str, pb_tup, pb_lv, pb_dv, pl_nil, pl_cons, pu_ints, pu_strs, pu_sgn, pu_nat, end_rt, end_nx, end_own, run, ev, evs, evT, evI, fin, Option.bind_some, Option.map_some, startE, List.map_cons, List.map_nil, List.length_cons, List.length_nil, List.cons_append, List.nil_append, List.replicate_succ, List.replicate_zero, Nat.reduceAdd, Nat.reduceSub, Nat.zero_add, List.getElem?_cons_zero, List.getElem?_cons_succ, List.set_cons_zero, List.set_cons_succ, wipeE, bindTg, setAll, cmpS, eq_ii, eq_ss, lt_ii, lt_ss, mem_s, p_add_i, p_sub_i, b_len_t, b_len_l, b_abs, b_int, b_tuple_l, b_list_t, b_list_l, m_count, i_tup, i_lv, atI_0, atI_1, atI_2, atI_3, atI_4, decide_eq_true_eq, Bool.not_true, Bool.not_false, Bool.false_eq_true, if_true, if_false, ite_true, ite_false, reduceIte, isNon, walkOf, walkS, isi_non_int, isi_non_str, isi_non_tuple, isi_non_list, isi_non_dict, isi_non_bool, isi_bl_int, isi_bl_str, isi_bl_tuple, isi_bl_list, isi_bl_dict, isi_bl_bool, isi_int_int, isi_int_str, isi_int_tuple, isi_int_list, isi_int_dict, isi_int_bool, isi_str_int, isi_str_str, isi_str_tuple, isi_str_list, isi_str_dict, isi_str_bool, isi_tup_int, isi_tup_str, isi_tup_tuple, isi_tup_list, isi_tup_dict, isi_tup_bool, isi_lv_int, isi_lv_str, isi_lv_tuple, isi_lv_list, isi_lv_dict, isi_lv_bool, isi_dv_int, isi_dv_str, isi_dv_tuple, isi_dv_list, isi_dv_dict, isi_dv_bool, isi_scr_int, isi_scr_str, isi_scr_tuple, isi_scr_list, isi_scr_dict, isi_scr_bool]
      | chg c =>
        simp only [ledO] at hr
        split at hr <;> try (cases hr; done)
        rename_i hk'
        simp only [Option.map_eq_some_iff] at hr
        obtain ⟨r', hr, rfl⟩ := hr
        have ea' := ea (z := [c]) (by simp; omega)
        have hn1 := hne hk'.1
        have hi1 := hit hk'.1
        have hc : ¬ [c] = [one[k]?.getD 0] := fun z => hk'.2 (by simpa using z)
        refine ⟨_, [some (.str one), some d, some (stD (.chg c)), some (.str (f ++ [c])), some (.int (k + 1 : Nat)), some (.str [])], rfl, ?_, f ++ [c], k + 1, _, _, r', rfl, hr, by rw [← hf, List.append_assoc]; rfl, hk'.1⟩
        simp only [d_law_led_b1, stD, w3, w10, decide_true, ea', hn1, hi1, hc, ek, b_len_s hz, decide_false, eq_self, Bool.and_self, Bool.and_true, pb_non, pb_bl, pb_int, pb_str, pb_tup, pb_lv, pb_dv, pl_nil, pl_cons, pu_ints, pu_strs, pu_sgn, pu_nat, end_rt, end_nx, end_own, run, ev, evs, evT, evI, fin, Option.bind_some, Option.map_some, startE, List.map_cons, List.map_nil, List.length_cons, List.length_nil, List.cons_append, List.nil_append, List.replicate_succ, List.replicate_zero, Nat.reduceAdd, Nat.reduceSub, Nat.zero_add, List.getElem?_cons_zero, List.getElem?_cons_succ, List.set_cons_zero, List.set_cons_succ, wipeE, bindTg, setAll, cmpS, eq_ii, eq_ss, lt_ii, lt_ss, mem_s, p_add_i, p_sub_i, b_len_t, b_len_l, b_abs, b_int, b_tuple_l, b_list_t, b_list_l, m_count, i_tup, i_lv, atI_0, atI_1, atI_2, atI_3, atI_4, decide_eq_true_eq, Bool.not_true, Bool.not_false, Bool.false_eq_true, if_true, if_false, ite_true, ite_false, reduceIte, isNon, walkOf, walkS, isi_non_int, isi_non_str, isi_non_tuple, isi_non_list, isi_non_dict, isi_non_bool, isi_bl_int, isi_bl_str, isi_bl_tuple, isi_bl_list, isi_bl_dict, isi_bl_bool, isi_int_int, isi_int_str, isi_int_tuple, isi_int_list, isi_int_dict, isi_int_bool, isi_str_int, isi_str_str, isi_str_tuple, isi_str_list, isi_str_dict, isi_str_bool, isi_tup_int, isi_tup_str, isi_tup_tuple, isi_tup_list, isi_tup_dict, isi_tup_bool, isi_lv_int, isi_lv_str, isi_lv_tuple, isi_lv_list, isi_lv_dict, isi_lv_bool, isi_dv_int, isi_dv_str, isi_dv_tuple, isi_dv_list, isi_dv_dict, isi_dv_bool, isi_scr_int, isi_scr_str, isi_scr_tuple, isi_scr_list, isi_scr_dict, isi_scr_bool])
  subst hρ
  rw [List.drop_length] at hr
  simp only [ledO] at hr
  split at hr <;> try (cases hr; done)
  rename_i hk
  cases hr
  rw [List.append_nil] at hf
  subst hf
  subst hk
  show (run 1000 (callN 1000 progL m) (.seq (.par [3, 4] (.cons (.str []) (.cons (.int 0) (.nil)))) (.seq _ (.seq _ _))) [some (.str one), some d, none, none, none, none] S).bind (endC false _) = _
  rw [run_seq (ρ1 := [some (.str one), some d, none, some (.str []), some (.int (0 : Nat)), none]) rfl, run_seq p2]
  simp only [b_len_s hz, decide_true, eq_self, Bool.and_self, Bool.and_true, pb_non, pb_bl, pb_int, pb_str, pb_tup, pb_lv, pb_dv, pl_nil, pl_cons, pu_ints, pu_strs, pu_sgn, pu_nat, end_rt, end_nx, end_own, run, ev, evs, evT, evI, fin, Option.bind_some, Option.map_some, startE, List.map_cons, List.map_nil, List.length_cons, List.length_nil, List.cons_append, List.nil_append, List.replicate_succ, List.replicate_zero, Nat.reduceAdd, Nat.reduceSub, Nat.zero_add, List.getElem?_cons_zero, List.getElem?_cons_succ, List.set_cons_zero, List.set_cons_succ, wipeE, bindTg, setAll, cmpS, eq_ii, eq_ss, lt_ii, lt_ss, mem_s, p_add_i, p_sub_i, b_len_t, b_len_l, b_abs, b_int, b_tuple_l, b_list_t, b_list_l, m_count, i_tup, i_lv, atI_0, atI_1, atI_2, atI_3, atI_4, decide_eq_true_eq, Bool.not_true, Bool.not_false, Bool.false_eq_true, if_true, if_false, ite_true, ite_false, reduceIte, isNon, walkOf, walkS, isi_non_int, isi_non_str, isi_non_tuple, isi_non_list, isi_non_dict, isi_non_bool, isi_bl_int, isi_bl_str, isi_bl_tuple, isi_bl_list, isi_bl_dict, isi_bl_bool, isi_int_int, isi_int_str, isi_int_tuple, isi_int_list, isi_int_dict, isi_int_bool, isi_str_int, isi_str_str, isi_str_tuple, isi_str_list, isi_str_dict, isi_str_bool, isi_tup_int, isi_tup_str, isi_tup_tuple, isi_tup_list, isi_tup_dict, isi_tup_bool, isi_lv_int, isi_lv_str, isi_lv_tuple, isi_lv_list, isi_lv_dict, isi_lv_bool, isi_dv_int, isi_dv_str, isi_dv_tuple, isi_dv_list, isi_dv_dict, isi_dv_bool, isi_scr_int, isi_scr_str, isi_scr_tuple, isi_scr_list, isi_scr_dict, isi_scr_bool]
theorem ledO_keep (one : List Nat) : ∀ (k j : Nat), j + k = one.length → ledO one j (List.replicate k .keep) = some (one.drop j)
  | 0, j, h => by
    have h : j = one.length := h
    subst h
    simp [ledO]
  | k + 1, j, h => by
    have hj : j < one.length := by omega
    rw [List.replicate_succ, ledO, if_pos hj, ledO_keep one k (j + 1) (by omega), List.drop_eq_getElem_cons hj, List.getElem?_eq_getElem hj]
    rfl
/-- steps led so far -/
structure Sofar (one : List Nat) (k : Nat) (steps : List Stp) (f : List Nat) : Prop where
  go : ∀ r, ledO one 0 (steps ++ r) = (ledO one k r).map (f ++ ·)
  ok : ∀ c ∈ f, ltr c
theorem Sofar.begin (one : List Nat) : Sofar one 0 [] [] := ⟨fun r => by rw [List.nil_append]; cases ledO one 0 r <;> rfl, fun _ h => (List.not_mem_nil h).elim⟩
theorem Sofar.put {one : List Nat} {k : Nat} {steps : List Stp} {f : List Nat} (h : Sofar one k steps f) {c : Nat} (hc : ltr c) : Sofar one k (steps ++ [.put c]) (f ++ [c]) := by
  refine ⟨fun r => ?_, fun x hx => ?_⟩
  · rw [List.append_assoc, h.go, List.singleton_append, ledO, Option.map_map]
    congr 1
    funext z
    simp
  · rcases List.mem_append.mp hx with hx | hx
    · exact h.ok x hx
    · rw [List.mem_singleton.mp hx]; exact hc
theorem Sofar.next {one : List Nat} {k : Nat} {steps : List Stp} {f : List Nat} (h : Sofar one k steps f) (hk : k < one.length) (ho : ltr (one[k]?.getD 0)) {s : Stp} (hs : s = .keep ∨ s = .drop ∨ ∃ c, s = .chg c ∧ c ≠ one[k]?.getD 0 ∧ ltr c) :
    ∃ f', Sofar one (k + 1) (steps ++ [s]) f' ∧ f'.length ≤ f.length + 1 := by
  rcases hs with rfl | rfl | ⟨c, rfl, hc, hl⟩
  · refine ⟨f ++ [one[k]?.getD 0], ⟨fun r => ?_, fun x hx => ?_⟩, by simp⟩
    · rw [List.append_assoc, h.go, List.singleton_append, ledO, if_pos hk, Option.map_map]
      congr 1
      funext z
      simp
    · rcases List.mem_append.mp hx with hx | hx
      · exact h.ok x hx
      · rw [List.mem_singleton.mp hx]; exact ho
  · refine ⟨f, ⟨fun r => ?_, h.ok⟩, by omega⟩
    rw [List.append_assoc, h.go, List.singleton_append, ledO, if_pos hk]
  · refine ⟨f ++ [c], ⟨fun r => ?_, fun x hx => ?_⟩, by simp⟩
    · rw [List.append_assoc, h.go, List.singleton_append, ledO, if_pos ⟨hk, hc⟩, Option.map_map]
      congr 1
      funext z
      simp
    · rcases List.mem_append.mp hx with hx | hx
      · exact h.ok x hx
      · rw [List.mem_singleton.mp hx]; exact hl
abbrev eS (one : List Nat) (k : Nat) (T : Store) (x4 x5 x6 : Option D) : Env := [some (.ref 0), some (.str one), some (.int (k : Nat)), some (.ref (T.length + 1)), x4, x5, x6, none]
theorem at_ref {x : D} {T : Store} {c : D} : (x :: (T ++ [c]))[T.length + 1]? = some c := by rw [List.getElem?_cons_succ, get_last]
theorem setAt_ref {x : D} {T : Store} {c : D} (y : D) : (x :: (T ++ [c])).set (T.length + 1) y = x :: (T ++ [y]) := by rw [List.set_cons_succ, set_last]
theorem app_at {x : D} {T : Store} {xs : List D} (h : xs.length ≤ 100000) (y : D) : mthS .append (.ref (T.length + 1)) [y] (x :: (T ++ [.lv xs])) = some (.non, x :: (T ++ [.lv (xs ++ [y])])) := by
  rw [app_ref at_ref (by unfold line; omega), setAt_ref]
theorem ty_at {x : D} {T : Store} {xs : List D} : (tyOf (x :: (T ++ [D.lv xs])) (.ref (T.length + 1)) = some (mthTy .append)) = True := by
  rw [ty_ref at_ref]
  simp [mthTy]
/-- a put, drawn -/
theorem put_step {m : Nat} (hm : 3 ≤ m) {h : Hand} (hh : HandOk h) (T : Store) (one : List Nat) (k : Nat) (x4 x5 x6 : Option D) {steps : List Stp} (hs : steps.length ≤ 900) : ∃ (c : Nat) (h' : Hand), ltr c ∧ HandOk h' ∧
    run 1000 (callN 1000 progL m) d_law_script_b1 (eS one k T x4 x5 x6) (handD h :: (T ++ [.lv (steps.map stD)])) = some (.nx (eS one k T x4 x5 x6), handD h' :: (T ++ [.lv ((steps ++ [Stp.put c]).map stD)])) := by
  obtain ⟨t, h', ht, hh', e⟩ := letters_ok (n := m) hm hh (k := 1) (by decide) (T ++ [.lv (steps.map stD)])
  have hl : t.length = 1 := by have := ht.ge; have := ht.le; omega
  match t, hl, ht with
  | [c], _, ht =>
    have h2 : (2 ≤ line) = True := le_line (by omega)
    have e' : callN 1000 progL m "_law_letters" [.ref 0, .int 1] (handD h :: (T ++ [.lv (steps.map stD)])) = some (.str [c], handD h' :: (T ++ [.lv (steps.map stD)])) := e
    have ap := app_at (x := handD h') (T := T) (xs := steps.map stD) (by rw [List.length_map]; omega) (.tup [.str [112, 117, 116], .str [c]])
    refine ⟨c, h', ht.ok c List.mem_cons_self, hh', ?_⟩
    rw [List.map_append]
    simp only [d_law_script_b1, e', ap, ty_at, h2, eq_self, Bool.and_self, Bool.and_true, pb_non, pb_bl, pb_int, pb_str, pb_tup, pb_lv, pb_dv, pl_nil, pl_cons, pu_ints, pu_strs, pu_sgn, pu_nat, end_rt, end_nx, end_own, run, ev, evs, evT, evI, fin, Option.bind_some, Option.map_some, startE, List.map_cons, List.map_nil, List.length_cons, List.length_nil, List.cons_append, List.nil_append, List.replicate_succ, List.replicate_zero, Nat.reduceAdd, Nat.reduceSub, Nat.zero_add, List.getElem?_cons_zero, List.getElem?_cons_succ, List.set_cons_zero, List.set_cons_succ, wipeE, bindTg, setAll, cmpS, eq_ii, eq_ss, lt_ii, lt_ss, mem_s, p_add_i, p_sub_i, b_len_t, b_len_l, b_abs, b_int, b_tuple_l, b_list_t, b_list_l, m_count, i_tup, i_lv, atI_0, atI_1, atI_2, atI_3, atI_4, decide_eq_true_eq, Bool.not_true, Bool.not_false, Bool.false_eq_true, if_true, if_false, ite_true, ite_false, reduceIte, isNon, walkOf, walkS, isi_non_int, isi_non_str, isi_non_tuple, isi_non_list, isi_non_dict, isi_non_bool, isi_bl_int, isi_bl_str, isi_bl_tuple, isi_bl_list, isi_bl_dict, isi_bl_bool, isi_int_int, isi_int_str, isi_int_tuple, isi_int_list, isi_int_dict, isi_int_bool, isi_str_int, isi_str_str, isi_str_tuple, isi_str_list, isi_str_dict, isi_str_bool, isi_tup_int, isi_tup_str, isi_tup_tuple, isi_tup_list, isi_tup_dict, isi_tup_bool, isi_lv_int, isi_lv_str, isi_lv_tuple, isi_lv_list, isi_lv_dict, isi_lv_bool, isi_dv_int, isi_dv_str, isi_dv_tuple, isi_dv_list, isi_dv_dict, isi_dv_bool, isi_scr_int, isi_scr_str, isi_scr_tuple, isi_scr_list, isi_scr_dict, isi_scr_bool]
    rfl
theorem abc_ne {c : Nat} : ([97, 98, 99, 100, 101, 102, 103].filter fun x => !decide (x = c)) ≠ [] := fun z => by
  have h1 := List.filter_eq_nil_iff.mp z 97 (by simp)
  have h2 := List.filter_eq_nil_iff.mp z 98 (by simp)
  simp only [Bool.not_eq_true, Bool.not_eq_false', decide_eq_true_eq] at h1 h2
  omega
/-- a sign gone by -/
theorem sign_step {m : Nat} (hm : 3 ≤ m) {h : Hand} (hh : HandOk h) (T : Store) (one : List Nat) (k : Nat) {j c : Nat} (hj : one[j]? = some c) (hc : ltr c) (x5 x6 : Option D) {steps : List Stp} {f : List Nat} (hs : steps.length ≤ 900) (so : Sofar one j steps f) :
    ∃ (steps' : List Stp) (f' : List Nat) (h' : Hand) (x6' : Option D), Sofar one (j + 1) steps' f' ∧ steps'.length ≤ steps.length + 2 ∧ f'.length ≤ f.length + 2 ∧ HandOk h' ∧
      run 1000 (callN 1000 progL m) d_law_script_b2 (eS one k T (some (.str [c])) x5 x6) (handD h :: (T ++ [.lv (steps.map stD)])) = some (.nx (eS one k T (some (.str [c])) x5 x6'), handD h' :: (T ++ [.lv (steps'.map stD)])) := by
  obtain ⟨v, h1, hh1, hv, e1⟩ := draw_ok (n := m) (by omega) hh (k := 4) (by decide) (T ++ [.lv (steps.map stD)])
  have e1' : callN 1000 progL m "_law_draw" [.ref 0, .int 4] (handD h :: (T ++ [.lv (steps.map stD)])) = some (.int v, handD h1 :: (T ++ [.lv (steps.map stD)])) := e1
  have hjl : j < one.length := (List.getElem?_eq_some_iff.mp hj).1
  have hgc : one[j]?.getD 0 = c := by rw [hj]; rfl
  -- the put
  obtain ⟨steps1, f1, h2, so1, l1, l1', hh2, p1⟩ : ∃ (steps1 : List Stp) (f1 : List Nat) (h2 : Hand), Sofar one j steps1 f1 ∧ steps1.length ≤ steps.length + 1 ∧ f1.length ≤ f.length + 1 ∧ HandOk h2 ∧
      run 1000 (callN 1000 progL m) (.ite (.cmp .eq (.call "_law_draw" (.cons (.var 0) (.cons (.int 4) .nil))) (.int 0)) d_law_script_b1 .skip) (eS one k T (some (.str [c])) x5 x6) (handD h :: (T ++ [.lv (steps.map stD)])) = some (.nx (eS one k T (some (.str [c])) x5 x6), handD h2 :: (T ++ [.lv (steps1.map stD)])) := by
    by_cases hv0 : v = 0
    · obtain ⟨d, h2, hd, hh2, e2⟩ := put_step (m := m) hm hh1 T one k (some (.str [c])) x5 x6 hs
      refine ⟨_, _, h2, so.put hd, by simp, by simp, hh2, ?_⟩
      have hv' : ((v : Nat) : Int) = 0 := by omega
      rw [← e2]
      simp only [e1', hv', decide_true, eq_self, Bool.and_self, Bool.and_true, pb_non, pb_bl, pb_int, pb_str, pb_tup, pb_lv, pb_dv, pl_nil, pl_cons, pu_ints, pu_strs, pu_sgn, pu_nat, end_rt, end_nx, end_own, run, ev, evs, evT, evI, fin, Option.bind_some, Option.map_some, startE, List.map_cons, List.map_nil, List.length_cons, List.length_nil, List.cons_append, List.nil_append, List.replicate_succ, List.replicate_zero, Nat.reduceAdd, Nat.reduceSub, Nat.zero_add, List.getElem?_cons_zero, List.getElem?_cons_succ, List.set_cons_zero, List.set_cons_succ, wipeE, bindTg, setAll, cmpS, eq_ii, eq_ss, lt_ii, lt_ss, mem_s, p_add_i, p_sub_i, b_len_t, b_len_l, b_abs, b_int, b_tuple_l, b_list_t, b_list_l, m_count, i_tup, i_lv, atI_0, atI_1, atI_2, atI_3, atI_4, decide_eq_true_eq, Bool.not_true, Bool.not_false, Bool.false_eq_true, if_true, if_false, ite_true, ite_false, reduceIte, isNon, walkOf, walkS, isi_non_int, isi_non_str, isi_non_tuple, isi_non_list, isi_non_dict, isi_non_bool, isi_bl_int, isi_bl_str, isi_bl_tuple, isi_bl_list, isi_bl_dict, isi_bl_bool, isi_int_int, isi_int_str, isi_int_tuple, isi_int_list, isi_int_dict, isi_int_bool, isi_str_int, isi_str_str, isi_str_tuple, isi_str_list, isi_str_dict, isi_str_bool, isi_tup_int, isi_tup_str, isi_tup_tuple, isi_tup_list, isi_tup_dict, isi_tup_bool, isi_lv_int, isi_lv_str, isi_lv_tuple, isi_lv_list, isi_lv_dict, isi_lv_bool, isi_dv_int, isi_dv_str, isi_dv_tuple, isi_dv_list, isi_dv_dict, isi_dv_bool, isi_scr_int, isi_scr_str, isi_scr_tuple, isi_scr_list, isi_scr_dict, isi_scr_bool]
    · have hv' : ¬ ((v : Nat) : Int) = 0 := by omega
      refine ⟨steps, f, h1, so, by omega, by omega, hh1, ?_⟩
      simp only [e1', hv', decide_false, eq_self, Bool.and_self, Bool.and_true, pb_non, pb_bl, pb_int, pb_str, pb_tup, pb_lv, pb_dv, pl_nil, pl_cons, pu_ints, pu_strs, pu_sgn, pu_nat, end_rt, end_nx, end_own, run, ev, evs, evT, evI, fin, Option.bind_some, Option.map_some, startE, List.map_cons, List.map_nil, List.length_cons, List.length_nil, List.cons_append, List.nil_append, List.replicate_succ, List.replicate_zero, Nat.reduceAdd, Nat.reduceSub, Nat.zero_add, List.getElem?_cons_zero, List.getElem?_cons_succ, List.set_cons_zero, List.set_cons_succ, wipeE, bindTg, setAll, cmpS, eq_ii, eq_ss, lt_ii, lt_ss, mem_s, p_add_i, p_sub_i, b_len_t, b_len_l, b_abs, b_int, b_tuple_l, b_list_t, b_list_l, m_count, i_tup, i_lv, atI_0, atI_1, atI_2, atI_3, atI_4, decide_eq_true_eq, Bool.not_true, Bool.not_false, Bool.false_eq_true, if_true, if_false, ite_true, ite_false, reduceIte, isNon, walkOf, walkS, isi_non_int, isi_non_str, isi_non_tuple, isi_non_list, isi_non_dict, isi_non_bool, isi_bl_int, isi_bl_str, isi_bl_tuple, isi_bl_list, isi_bl_dict, isi_bl_bool, isi_int_int, isi_int_str, isi_int_tuple, isi_int_list, isi_int_dict, isi_int_bool, isi_str_int, isi_str_str, isi_str_tuple, isi_str_list, isi_str_dict, isi_str_bool, isi_tup_int, isi_tup_str, isi_tup_tuple, isi_tup_list, isi_tup_dict, isi_tup_bool, isi_lv_int, isi_lv_str, isi_lv_tuple, isi_lv_list, isi_lv_dict, isi_lv_bool, isi_dv_int, isi_dv_str, isi_dv_tuple, isi_dv_list, isi_dv_dict, isi_dv_bool, isi_scr_int, isi_scr_str, isi_scr_tuple, isi_scr_list, isi_scr_dict, isi_scr_bool]
  let T1 : Store := T ++ [.lv (steps1.map stD)]
  let sg : List Nat := [97, 98, 99, 100, 101, 102, 103].filter fun x => !decide (x = c)
  have c1 : ev 1000 (callN 1000 progL m) d_law_script_c1 (eS one k T (some (.str [c])) x5 x6) (handD h2 :: T1) = some (.lv (sg.map fun x => .str [x]), handD h2 :: T1) := by
    refine lc_filter (L := [97, 98, 99, 100, 101, 102, 103]) (φ := fun x => .str [x]) (fun x => !decide (x = c)) (fun x => .str [x]) (by simp only [eq_self, Bool.and_self, Bool.and_true, pb_non, pb_bl, pb_int, pb_str, pb_tup, pb_lv, pb_dv, pl_nil, pl_cons, pu_ints, pu_strs, pu_sgn, pu_nat, end_rt, end_nx, end_own, run, ev, evs, evT, evI, fin, Option.bind_some, Option.map_some, startE, List.map_cons, List.map_nil, List.length_cons, List.length_nil, List.cons_append, List.nil_append, List.replicate_succ, List.replicate_zero, Nat.reduceAdd, Nat.reduceSub, Nat.zero_add, List.getElem?_cons_zero, List.getElem?_cons_succ, List.set_cons_zero, List.set_cons_succ, wipeE, bindTg, setAll, cmpS, eq_ii, eq_ss, lt_ii, lt_ss, mem_s, p_add_i, p_sub_i, b_len_t, b_len_l, b_abs, b_int, b_tuple_l, b_list_t, b_list_l, m_count, i_tup, i_lv, atI_0, atI_1, atI_2, atI_3, atI_4, decide_eq_true_eq, Bool.not_true, Bool.not_false, Bool.false_eq_true, if_true, if_false, ite_true, ite_false, reduceIte, isNon, walkOf, walkS, isi_non_int, isi_non_str, isi_non_tuple, isi_non_list, isi_non_dict, isi_non_bool, isi_bl_int, isi_bl_str, isi_bl_tuple, isi_bl_list, isi_bl_dict, isi_bl_bool, isi_int_int, isi_int_str, isi_int_tuple, isi_int_list, isi_int_dict, isi_int_bool, isi_str_int, isi_str_str, isi_str_tuple, isi_str_list, isi_str_dict, isi_str_bool, isi_tup_int, isi_tup_str, isi_tup_tuple, isi_tup_list, isi_tup_dict, isi_tup_bool, isi_lv_int, isi_lv_str, isi_lv_tuple, isi_lv_list, isi_lv_dict, isi_lv_bool, isi_dv_int, isi_dv_str, isi_dv_tuple, isi_dv_list, isi_dv_dict, isi_dv_bool, isi_scr_int, isi_scr_str, isi_scr_tuple, isi_scr_list, isi_scr_dict, isi_scr_bool]) (fun x hx => ?_) (ll (by decide))
    simp only [turnF, List.cons.injEq, and_true, eq_self, Bool.and_self, Bool.and_true, pb_non, pb_bl, pb_int, pb_str, pb_tup, pb_lv, pb_dv, pl_nil, pl_cons, pu_ints, pu_strs, pu_sgn, pu_nat, end_rt, end_nx, end_own, run, ev, evs, evT, evI, fin, Option.bind_some, Option.map_some, startE, List.map_cons, List.map_nil, List.length_cons, List.length_nil, List.cons_append, List.nil_append, List.replicate_succ, List.replicate_zero, Nat.reduceAdd, Nat.reduceSub, Nat.zero_add, List.getElem?_cons_zero, List.getElem?_cons_succ, List.set_cons_zero, List.set_cons_succ, wipeE, bindTg, setAll, cmpS, eq_ii, eq_ss, lt_ii, lt_ss, mem_s, p_add_i, p_sub_i, b_len_t, b_len_l, b_abs, b_int, b_tuple_l, b_list_t, b_list_l, m_count, i_tup, i_lv, atI_0, atI_1, atI_2, atI_3, atI_4, decide_eq_true_eq, Bool.not_true, Bool.not_false, Bool.false_eq_true, if_true, if_false, ite_true, ite_false, reduceIte, isNon, walkOf, walkS, isi_non_int, isi_non_str, isi_non_tuple, isi_non_list, isi_non_dict, isi_non_bool, isi_bl_int, isi_bl_str, isi_bl_tuple, isi_bl_list, isi_bl_dict, isi_bl_bool, isi_int_int, isi_int_str, isi_int_tuple, isi_int_list, isi_int_dict, isi_int_bool, isi_str_int, isi_str_str, isi_str_tuple, isi_str_list, isi_str_dict, isi_str_bool, isi_tup_int, isi_tup_str, isi_tup_tuple, isi_tup_list, isi_tup_dict, isi_tup_bool, isi_lv_int, isi_lv_str, isi_lv_tuple, isi_lv_list, isi_lv_dict, isi_lv_bool, isi_dv_int, isi_dv_str, isi_dv_tuple, isi_dv_list, isi_dv_dict, isi_dv_bool, isi_scr_int, isi_scr_str, isi_scr_tuple, isi_scr_list, isi_scr_dict, isi_scr_bool]
    cases hq : decide (x = c) <;> simp
  obtain ⟨d0, h3, hd0, hh3, e3⟩ := some_ok (n := m) (by omega) hh2 (xs := sg.map fun x => .str [x]) (fun z => abc_ne (c := c) (List.map_eq_nil_iff.mp z)) (by rw [List.length_map]; exact Nat.le_trans (List.length_filter_le _ _) (by decide)) (pu_sgn sg) T1
  obtain ⟨d, hd, rfl⟩ := List.mem_map.mp hd0
  have hd' := List.mem_filter.mp hd
  have hdc : d ≠ c := by simpa using hd'.2
  have hdl : ltr d := by
    have := hd'.1
    simp only [List.mem_cons, List.not_mem_nil, or_false] at this
    unfold ltr
    omega
  let four : List D := [.tup [.str wKeep], .tup [.str wKeep], .tup [.str wDrop], .tup [.str wChg, .str [d]]]
  obtain ⟨d4, h4, hd4, hh4, e4⟩ := some_ok (n := m) (by omega) hh3 (xs := four) (by simp [four]) (by simp [four]) rfl T1
  have hst : ∃ s : Stp, d4 = stD s ∧ (s = .keep ∨ s = .drop ∨ ∃ c', s = .chg c' ∧ c' ≠ one[j]?.getD 0 ∧ ltr c') := by
    simp only [four, List.mem_cons, List.not_mem_nil, or_false] at hd4
    rcases hd4 with rfl | rfl | rfl | rfl
    · exact ⟨.keep, rfl, .inl rfl⟩
    · exact ⟨.keep, rfl, .inl rfl⟩
    · exact ⟨.drop, rfl, .inr (.inl rfl)⟩
    · exact ⟨.chg d, rfl, .inr (.inr ⟨d, rfl, by rw [hgc]; exact hdc, hdl⟩)⟩
  obtain ⟨s, rfl, hs'⟩ := hst
  obtain ⟨f', so', lf⟩ := so1.next hjl (by rw [hgc]; exact hc) hs'
  have ap := app_at (x := handD h4) (T := T) (xs := steps1.map stD) (by rw [List.length_map]; omega) (stD s)
  have ty : (tyOf (handD h3 :: T1) (.ref (T.length + 1)) = some (mthTy .append)) = True := ty_at
  refine ⟨steps1 ++ [s], f', h4, some (.str [d]), so', by rw [List.length_append]; simp; omega, by omega, hh4, ?_⟩
  have em : (steps1 ++ [s]).map stD = steps1.map stD ++ [stD s] := by rw [List.map_append]; rfl
  rw [em]
  have l1 : (1 ≤ line) = True := le_line (by omega)
  have l2 : (2 ≤ line) = True := le_line (by omega)
  have l4 : (4 ≤ line) = True := le_line (by omega)
  have p2 : run 1000 (callN 1000 progL m) (.set 6 (.call "_law_any" (.cons (.var 0) (.cons (d_law_script_c1) .nil)))) (eS one k T (some (.str [c])) x5 x6) (handD h2 :: T1) = some (.nx (eS one k T (some (.str [c])) x5 (some (.str [d]))), handD h3 :: T1) :=
    run_set ((ev_call (evs_cons rfl (evs_one c1))).trans e3)
  have e4' : callN 1000 progL m "_law_any" [.ref 0, .lv [.tup [.str wKeep], .tup [.str wKeep], .tup [.str wDrop], .tup [.str wChg, .str [d]]]] (handD h3 :: T1) = some (stD s, handD h4 :: T1) := e4
  have p3 : run 1000 (callN 1000 progL m) (.seq (.ex (.mth .append (.var 3) (.cons (.call "_law_any" (.cons (.var 0) (.cons (.lst false (.cons (.tup (.cons (.str wKeep) .nil)) (.cons (.tup (.cons (.str wKeep) .nil)) (.cons (.tup (.cons (.str wDrop) .nil)) (.cons (.tup (.cons (.str wChg) (.cons (.var 6) .nil))) .nil))))) .nil))) .nil))) .skip) (eS one k T (some (.str [c])) x5 (some (.str [d]))) (handD h3 :: T1) = some (.nx (eS one k T (some (.str [c])) x5 (some (.str [d]))), handD h4 :: (T ++ [.lv (steps1.map stD ++ [stD s])])) := by
    simp only [l1, l2, l4, ty, e4', T1, ap, eq_self, Bool.and_self, Bool.and_true, pb_non, pb_bl, pb_int, pb_str, pb_tup, pb_lv, pb_dv, pl_nil, pl_cons, pu_ints, pu_strs, pu_sgn, pu_nat, end_rt, end_nx, end_own, run, ev, evs, evT, evI, fin, Option.bind_some, Option.map_some, startE, List.map_cons, List.map_nil, List.length_cons, List.length_nil, List.cons_append, List.nil_append, List.replicate_succ, List.replicate_zero, Nat.reduceAdd, Nat.reduceSub, Nat.zero_add, List.getElem?_cons_zero, List.getElem?_cons_succ, List.set_cons_zero, List.set_cons_succ, wipeE, bindTg, setAll, cmpS, eq_ii, eq_ss, lt_ii, lt_ss, mem_s, p_add_i, p_sub_i, b_len_t, b_len_l, b_abs, b_int, b_tuple_l, b_list_t, b_list_l, m_count, i_tup, i_lv, atI_0, atI_1, atI_2, atI_3, atI_4, decide_eq_true_eq, Bool.not_true, Bool.not_false, Bool.false_eq_true, if_true, if_false, ite_true, ite_false, reduceIte, isNon, walkOf, walkS, isi_non_int, isi_non_str, isi_non_tuple, isi_non_list, isi_non_dict, isi_non_bool, isi_bl_int, isi_bl_str, isi_bl_tuple, isi_bl_list, isi_bl_dict, isi_bl_bool, isi_int_int, isi_int_str, isi_int_tuple, isi_int_list, isi_int_dict, isi_int_bool, isi_str_int, isi_str_str, isi_str_tuple, isi_str_list, isi_str_dict, isi_str_bool, isi_tup_int, isi_tup_str, isi_tup_tuple, isi_tup_list, isi_tup_dict, isi_tup_bool, isi_lv_int, isi_lv_str, isi_lv_tuple, isi_lv_list, isi_lv_dict, isi_lv_bool, isi_dv_int, isi_dv_str, isi_dv_tuple, isi_dv_list, isi_dv_dict, isi_dv_bool, isi_scr_int, isi_scr_str, isi_scr_tuple, isi_scr_list, isi_scr_dict, isi_scr_bool]
  show run 1000 (callN 1000 progL m) (.seq (.ite (.cmp .eq (.call "_law_draw" (.cons (.var 0) (.cons (.int 4) .nil))) (.int 0)) d_law_script_b1 .skip) (.seq (.set 6 (.call "_law_any" (.cons (.var 0) (.cons (d_law_script_c1) .nil)))) _)) _ _ = _
  rw [run_seq p1, run_seq p2]
  exact p3
theorem script_ok (hn : 4 ≤ n) {h : Hand} (hh : HandOk h) {one : List Nat} {k : Nat} (ho : Txt1 0 k one) (hk : k ≤ 90) (T : Store) : ∃ (steps : List Stp) (f : List Nat) (h' : Hand), ledO one 0 steps = some f ∧ Txt1 0 k f ∧ steps.length ≤ 900 ∧ HandOk h' ∧
    callN 1000 progL n "_law_script" [.ref 0, .str one, .int k] (handD h :: T) = some (.tup (steps.map stD), handD h' :: T) := by
  obtain ⟨m, rfl, hm⟩ := pos_n hn
  have hol := ho.le
  have hz : one.length ≤ line := ll (by omega)
  have l0 : (0 ≤ line) = True := le_line (by omega)
  have p1 : run 1000 (callN 1000 progL m) (.set 3 (.lst true (.nil))) [some (.ref 0), some (.str one), some (.int (k : Nat)), none, none, none, none, none] (handD h :: T) = some (.nx (eS one k T none none none), handD h :: (T ++ [.lv (([] : List Stp).map stD)])) := by
    simp only [l0, eq_self, Bool.and_self, Bool.and_true, pb_non, pb_bl, pb_int, pb_str, pb_tup, pb_lv, pb_dv, pl_nil, pl_cons, pu_ints, pu_strs, pu_sgn, pu_nat, end_rt, end_nx, end_own, run, ev, evs, evT, evI, fin, Option.bind_some, Option.map_some, startE, List.map_cons, List.map_nil, List.length_cons, List.length_nil, List.cons_append, List.nil_append, List.replicate_succ, List.replicate_zero, Nat.reduceAdd, Nat.reduceSub, Nat.zero_add, List.getElem?_cons_zero, List.getElem?_cons_succ, List.set_cons_zero, List.set_cons_succ, wipeE, bindTg, setAll, cmpS, eq_ii, eq_ss, lt_ii, lt_ss, mem_s, p_add_i, p_sub_i, b_len_t, b_len_l, b_abs, b_int, b_tuple_l, b_list_t, b_list_l, m_count, i_tup, i_lv, atI_0, atI_1, atI_2, atI_3, atI_4, decide_eq_true_eq, Bool.not_true, Bool.not_false, Bool.false_eq_true, if_true, if_false, ite_true, ite_false, reduceIte, isNon, walkOf, walkS, isi_non_int, isi_non_str, isi_non_tuple, isi_non_list, isi_non_dict, isi_non_bool, isi_bl_int, isi_bl_str, isi_bl_tuple, isi_bl_list, isi_bl_dict, isi_bl_bool, isi_int_int, isi_int_str, isi_int_tuple, isi_int_list, isi_int_dict, isi_int_bool, isi_str_int, isi_str_str, isi_str_tuple, isi_str_list, isi_str_dict, isi_str_bool, isi_tup_int, isi_tup_str, isi_tup_tuple, isi_tup_list, isi_tup_dict, isi_tup_bool, isi_lv_int, isi_lv_str, isi_lv_tuple, isi_lv_list, isi_lv_dict, isi_lv_bool, isi_dv_int, isi_dv_str, isi_dv_tuple, isi_dv_list, isi_dv_dict, isi_dv_bool, isi_scr_int, isi_scr_str, isi_scr_tuple, isi_scr_list, isi_scr_dict, isi_scr_bool]
  obtain ⟨ρ2, S2, p2', st2, f2, h2, x4, x6, hρ2, hS2, so2, a2, b2, hh2⟩ := forFix_inv (g := .nm 4) (b := run 1000 (callN 1000 progL m) d_law_script_b2) (φ := fun c : Nat => D.str [c])
    (fun i ρ S => ∃ (st : List Stp) (f : List Nat) (h : Hand) (x4 x6 : Option D), ρ = eS one k T x4 none x6 ∧ S = handD h :: (T ++ [.lv (st.map stD)]) ∧ Sofar one i st f ∧ st.length ≤ 2 * i ∧ f.length ≤ 2 * i ∧ HandOk h)
    one 0 (eS one k T none none none) (handD h :: (T ++ [.lv (([] : List Stp).map stD)])) ⟨[], [], h, none, none, rfl, rfl, .begin one, by simp, by simp, hh⟩ (fun j c ρ S hj ⟨st, f, h, x4, x6, e1, e2, so, a, b, hh⟩ => by
      subst e1 e2
      rw [Nat.zero_add] at so a b ⊢
      have hjl := (List.getElem?_eq_some_iff.mp hj).1
      obtain ⟨st', f', h', x6', so', a', b', hh', e⟩ := sign_step (m := m) hm hh T one k hj (ho.ok c (List.mem_of_getElem? hj)) none x6 (by omega) so
      exact ⟨_, _, _, rfl, .inl e, st', f', h', _, _, rfl, rfl, so', by omega, by omega, hh'⟩)
  subst hρ2 hS2
  rw [Nat.zero_add] at so2 a2 b2
  have p2 : run 1000 (callN 1000 progL m) (.loop (.nm 4) (.of (.var 1)) d_law_script_b2) (eS one k T none none none) (handD h :: (T ++ [.lv (([] : List Stp).map stD)])) = some (.nx (eS one k T x4 none x6), handD h2 :: (T ++ [.lv (st2.map stD)])) := by
    simp only [eq_self, Bool.and_self, Bool.and_true, pb_non, pb_bl, pb_int, pb_str, pb_tup, pb_lv, pb_dv, pl_nil, pl_cons, pu_ints, pu_strs, pu_sgn, pu_nat, end_rt, end_nx, end_own, run, ev, evs, evT, evI, fin, Option.bind_some, Option.map_some, startE, List.map_cons, List.map_nil, List.length_cons, List.length_nil, List.cons_append, List.nil_append, List.replicate_succ, List.replicate_zero, Nat.reduceAdd, Nat.reduceSub, Nat.zero_add, List.getElem?_cons_zero, List.getElem?_cons_succ, List.set_cons_zero, List.set_cons_succ, wipeE, bindTg, setAll, cmpS, eq_ii, eq_ss, lt_ii, lt_ss, mem_s, p_add_i, p_sub_i, b_len_t, b_len_l, b_abs, b_int, b_tuple_l, b_list_t, b_list_l, m_count, i_tup, i_lv, atI_0, atI_1, atI_2, atI_3, atI_4, decide_eq_true_eq, Bool.not_true, Bool.not_false, Bool.false_eq_true, if_true, if_false, ite_true, ite_false, reduceIte, isNon, walkOf, walkS, isi_non_int, isi_non_str, isi_non_tuple, isi_non_list, isi_non_dict, isi_non_bool, isi_bl_int, isi_bl_str, isi_bl_tuple, isi_bl_list, isi_bl_dict, isi_bl_bool, isi_int_int, isi_int_str, isi_int_tuple, isi_int_list, isi_int_dict, isi_int_bool, isi_str_int, isi_str_str, isi_str_tuple, isi_str_list, isi_str_dict, isi_str_bool, isi_tup_int, isi_tup_str, isi_tup_tuple, isi_tup_list, isi_tup_dict, isi_tup_bool, isi_lv_int, isi_lv_str, isi_lv_tuple, isi_lv_list, isi_lv_dict, isi_lv_bool, isi_dv_int, isi_dv_str, isi_dv_tuple, isi_dv_list, isi_dv_dict, isi_dv_bool, isi_scr_int, isi_scr_str, isi_scr_tuple, isi_scr_list, isi_scr_dict, isi_scr_bool]
    exact p2'
  obtain ⟨v, h3, hh3, hv, e3⟩ := draw_ok (n := m) (by omega) hh2 (k := 3) (by decide) (T ++ [.lv (st2.map stD)])
  have e3' : callN 1000 progL m "_law_draw" [.ref 0, .int 3] (handD h2 :: (T ++ [.lv (st2.map stD)])) = some (.int v, handD h3 :: (T ++ [.lv (st2.map stD)])) := e3
  obtain ⟨ρ4, S4, p4', st4, f4, h4, x5, hρ4, hS4, so4, a4, b4, hh4⟩ := forFix_inv (g := .nm 5) (b := run 1000 (callN 1000 progL m) d_law_script_b1) (φ := fun i : Nat => D.int (0 + (i : Int)))
    (fun i ρ S => ∃ (st : List Stp) (f : List Nat) (h : Hand) (x5 : Option D), ρ = eS one k T x4 x5 x6 ∧ S = handD h :: (T ++ [.lv (st.map stD)]) ∧ Sofar one one.length st f ∧ st.length ≤ st2.length + i ∧ f.length ≤ f2.length + i ∧ HandOk h)
    (List.range v) 0 (eS one k T x4 none x6) (handD h3 :: (T ++ [.lv (st2.map stD)])) ⟨st2, f2, h3, none, rfl, rfl, so2, by omega, by omega, hh3⟩ (fun j c ρ S hj ⟨st, f, h, x5, e1, e2, so, a, b, hh⟩ => by
      subst e1 e2
      rw [Nat.zero_add] at a b ⊢
      have hjl := (List.getElem?_eq_some_iff.mp hj).1
      rw [List.length_range] at hjl
      obtain ⟨d, h', hd, hh', e⟩ := put_step (m := m) hm hh T one k x4 (some (.int (0 + (c : Int)))) x6 (steps := st) (by omega)
      exact ⟨_, _, _, rfl, .inl e, _, _, h', _, rfl, rfl, so.put hd, by rw [List.length_append, List.length_singleton]; omega, by rw [List.length_append, List.length_singleton]; omega, hh'⟩)
  subst hρ4 hS4
  rw [List.length_range, Nat.zero_add] at a4 b4
  have p4 : run 1000 (callN 1000 progL m) (.loop (.nm 5) (.range (.cons (.call "_law_draw" (.cons (.var 0) (.cons (.int 3) .nil))) .nil)) d_law_script_b1) (eS one k T x4 none x6) (handD h2 :: (T ++ [.lv (st2.map stD)])) = some (.nx (eS one k T x4 x5 x6), handD h4 :: (T ++ [.lv (st4.map stD)])) := by
    have hr : rangeS [.int (v : Nat)] = some (intL 0 v) := by rw [range_1 (by omega), Int.toNat_natCast]
    simp only [e3', hr, intL, eq_self, Bool.and_self, Bool.and_true, pb_non, pb_bl, pb_int, pb_str, pb_tup, pb_lv, pb_dv, pl_nil, pl_cons, pu_ints, pu_strs, pu_sgn, pu_nat, end_rt, end_nx, end_own, run, ev, evs, evT, evI, fin, Option.bind_some, Option.map_some, startE, List.map_cons, List.map_nil, List.length_cons, List.length_nil, List.cons_append, List.nil_append, List.replicate_succ, List.replicate_zero, Nat.reduceAdd, Nat.reduceSub, Nat.zero_add, List.getElem?_cons_zero, List.getElem?_cons_succ, List.set_cons_zero, List.set_cons_succ, wipeE, bindTg, setAll, cmpS, eq_ii, eq_ss, lt_ii, lt_ss, mem_s, p_add_i, p_sub_i, b_len_t, b_len_l, b_abs, b_int, b_tuple_l, b_list_t, b_list_l, m_count, i_tup, i_lv, atI_0, atI_1, atI_2, atI_3, atI_4, decide_eq_true_eq, Bool.not_true, Bool.not_false, Bool.false_eq_true, if_true, if_false, ite_true, ite_false, reduceIte, isNon, walkOf, walkS, isi_non_int, isi_non_str, isi_non_tuple, isi_non_list, isi_non_dict, isi_non_bool, isi_bl_int, isi_bl_str, isi_bl_tuple, isi_bl_list, isi_bl_dict, isi_bl_bool, isi_int_int, isi_int_str, isi_int_tuple, isi_int_list, isi_int_dict, isi_int_bool, isi_str_int, isi_str_str, isi_str_tuple, isi_str_list, isi_str_dict, isi_str_bool, isi_tup_int, isi_tup_str, isi_tup_tuple, isi_tup_list, isi_tup_dict, isi_tup_bool, isi_lv_int, isi_lv_str, isi_lv_tuple, isi_lv_list, isi_lv_dict, isi_lv_bool, isi_dv_int, isi_dv_str, isi_dv_tuple, isi_dv_list, isi_dv_dict, isi_dv_bool, isi_scr_int, isi_scr_str, isi_scr_tuple, isi_scr_list, isi_scr_dict, isi_scr_bool]
    exact p4'
  have hled : ledO one 0 st4 = some f4 := by
    have := so4.go []
    rw [List.append_nil] at this
    rw [this]
    simp [ledO]
  have k5 := led_ok (S := handD h4 :: (T ++ [.lv (st4.map stD)])) (n := m) (d := .ref (T.length + 1)) (by omega) (by omega : one.length ≤ 100) (by omega : st4.length ≤ 900) (by omega : f4.length ≤ 1000) hled (.inr ⟨T.length + 1, w_ref at_ref, at_ref⟩)
  have hz4 : f4.length ≤ line := ll (by omega)
  rw [callN_at fi_law_script rfl]
  by_cases hgt : f4.length ≤ k
  · refine ⟨st4, f4, h4, hled, ⟨so4.ok, Nat.zero_le _, hgt⟩, by omega, hh4, ?_⟩
    have hn : ¬ ((k : Nat) : Int) < ((f4.length : Nat) : Int) := by omega
    have hbt := b_tuple_ref (S := handD h4 :: (T ++ [.lv (st4.map stD)])) (at_ref (x := handD h4) (T := T) (c := .lv (st4.map stD)))
    show (run 1000 (callN 1000 progL m) (.seq _ (.seq _ (.seq _ _))) [some (.ref 0), some (.str one), some (.int (k : Nat)), none, none, none, none, none] (handD h :: T)).bind (endC false _) = _
    rw [run_seq p1, run_seq p2, run_seq p4]
    have p5 : run 1000 (callN 1000 progL m) (.seq (.ite (.cmp .gt (.blt .len false (.cons (.call "_law_led" (.cons (.var 1) (.cons (.var 3) .nil))) .nil)) (.var 2)) (.seq (.ret (.blt .tuple false (.cons (d_law_script_o1) .nil))) .skip) (.skip)) (.seq (.ret (.blt .tuple false (.cons (.var 3) .nil))) .skip)) (eS one k T x4 x5 x6) (handD h4 :: (T ++ [.lv (st4.map stD)])) = some (.rt (.tup (st4.map stD)), handD h4 :: (T ++ [.lv (st4.map stD)])) := by
      simp only [k5, b_len_s hz4, hn, hbt, decide_false, eq_self, Bool.and_self, Bool.and_true, pb_non, pb_bl, pb_int, pb_str, pb_tup, pb_lv, pb_dv, pl_nil, pl_cons, pu_ints, pu_strs, pu_sgn, pu_nat, end_rt, end_nx, end_own, run, ev, evs, evT, evI, fin, Option.bind_some, Option.map_some, startE, List.map_cons, List.map_nil, List.length_cons, List.length_nil, List.cons_append, List.nil_append, List.replicate_succ, List.replicate_zero, Nat.reduceAdd, Nat.reduceSub, Nat.zero_add, List.getElem?_cons_zero, List.getElem?_cons_succ, List.set_cons_zero, List.set_cons_succ, wipeE, bindTg, setAll, cmpS, eq_ii, eq_ss, lt_ii, lt_ss, mem_s, p_add_i, p_sub_i, b_len_t, b_len_l, b_abs, b_int, b_tuple_l, b_list_t, b_list_l, m_count, i_tup, i_lv, atI_0, atI_1, atI_2, atI_3, atI_4, decide_eq_true_eq, Bool.not_true, Bool.not_false, Bool.false_eq_true, if_true, if_false, ite_true, ite_false, reduceIte, isNon, walkOf, walkS, isi_non_int, isi_non_str, isi_non_tuple, isi_non_list, isi_non_dict, isi_non_bool, isi_bl_int, isi_bl_str, isi_bl_tuple, isi_bl_list, isi_bl_dict, isi_bl_bool, isi_int_int, isi_int_str, isi_int_tuple, isi_int_list, isi_int_dict, isi_int_bool, isi_str_int, isi_str_str, isi_str_tuple, isi_str_list, isi_str_dict, isi_str_bool, isi_tup_int, isi_tup_str, isi_tup_tuple, isi_tup_list, isi_tup_dict, isi_tup_bool, isi_lv_int, isi_lv_str, isi_lv_tuple, isi_lv_list, isi_lv_dict, isi_lv_bool, isi_dv_int, isi_dv_str, isi_dv_tuple, isi_dv_list, isi_dv_dict, isi_dv_bool, isi_scr_int, isi_scr_str, isi_scr_tuple, isi_scr_list, isi_scr_dict, isi_scr_bool]
    rw [p5]
    exact hendG (by rw [pb_tup]; exact pureL_map fun s => by cases s <;> rfl)
  · refine ⟨List.replicate one.length .keep, one, h4, ?_, ho, by rw [List.length_replicate]; omega, hh4, ?_⟩
    · have := ledO_keep one one.length 0 (Nat.zero_add _)
      rwa [List.drop_zero] at this
    have hn : ((k : Nat) : Int) < ((f4.length : Nat) : Int) := by omega
    have er : (List.replicate one.length (Stp.keep)).map stD = (List.replicate one.length [D.tup [.str wKeep]]).flatten := by
      rw [List.map_replicate]
      generalize one.length = q
      induction q with
      | zero => rfl
      | succ q ih => rw [List.replicate_succ, List.replicate_succ, List.flatten_cons, ← ih]; rfl
    have hmul : opS .mul (.lv [.tup [.str wKeep]]) (.int (one.length : Nat)) (handD h4 :: (T ++ [.lv (st4.map stD)])) = some (.new (.lv ((List.replicate one.length (Stp.keep)).map stD))) := by
      rw [er]
      show (if _ then _ else _) = _
      rw [if_pos ⟨by omega, by rw [Int.toNat_natCast]; exact ll (by simp; omega)⟩, Int.toNat_natCast]
    have l1 : (1 ≤ line) = True := le_line (by omega)
    show (run 1000 (callN 1000 progL m) (.seq _ (.seq _ (.seq _ _))) [some (.ref 0), some (.str one), some (.int (k : Nat)), none, none, none, none, none] (handD h :: T)).bind (endC false _) = _
    rw [run_seq p1, run_seq p2, run_seq p4]
    have p5 : run 1000 (callN 1000 progL m) (.seq (.ite (.cmp .gt (.blt .len false (.cons (.call "_law_led" (.cons (.var 1) (.cons (.var 3) .nil))) .nil)) (.var 2)) (.seq (.ret (.blt .tuple false (.cons (d_law_script_o1) .nil))) .skip) (.skip)) (.seq (.ret (.blt .tuple false (.cons (.var 3) .nil))) .skip)) (eS one k T x4 x5 x6) (handD h4 :: (T ++ [.lv (st4.map stD)])) = some (.rt (.tup ((List.replicate one.length (Stp.keep)).map stD)), handD h4 :: (T ++ [.lv (st4.map stD)])) := by
      simp only [k5, b_len_s hz4, hn, d_law_script_o1, l1, b_len_s hz, hmul, decide_true, eq_self, Bool.and_self, Bool.and_true, pb_non, pb_bl, pb_int, pb_str, pb_tup, pb_lv, pb_dv, pl_nil, pl_cons, pu_ints, pu_strs, pu_sgn, pu_nat, end_rt, end_nx, end_own, run, ev, evs, evT, evI, fin, Option.bind_some, Option.map_some, startE, List.map_cons, List.map_nil, List.length_cons, List.length_nil, List.cons_append, List.nil_append, List.replicate_succ, List.replicate_zero, Nat.reduceAdd, Nat.reduceSub, Nat.zero_add, List.getElem?_cons_zero, List.getElem?_cons_succ, List.set_cons_zero, List.set_cons_succ, wipeE, bindTg, setAll, cmpS, eq_ii, eq_ss, lt_ii, lt_ss, mem_s, p_add_i, p_sub_i, b_len_t, b_len_l, b_abs, b_int, b_tuple_l, b_list_t, b_list_l, m_count, i_tup, i_lv, atI_0, atI_1, atI_2, atI_3, atI_4, decide_eq_true_eq, Bool.not_true, Bool.not_false, Bool.false_eq_true, if_true, if_false, ite_true, ite_false, reduceIte, isNon, walkOf, walkS, isi_non_int, isi_non_str, isi_non_tuple, isi_non_list, isi_non_dict, isi_non_bool, isi_bl_int, isi_bl_str, isi_bl_tuple, isi_bl_list, isi_bl_dict, isi_bl_bool, isi_int_int, isi_int_str, isi_int_tuple, isi_int_list, isi_int_dict, isi_int_bool, isi_str_int, isi_str_str, isi_str_tuple, isi_str_list, isi_str_dict, isi_str_bool, isi_tup_int, isi_tup_str, isi_tup_tuple, isi_tup_list, isi_tup_dict, isi_tup_bool, isi_lv_int, isi_lv_str, isi_lv_tuple, isi_lv_list, isi_lv_dict, isi_lv_bool, isi_dv_int, isi_dv_str, isi_dv_tuple, isi_dv_list, isi_dv_dict, isi_dv_bool, isi_scr_int, isi_scr_str, isi_scr_tuple, isi_scr_list, isi_scr_dict, isi_scr_bool]
    rw [p5]
    exact hendG (by rw [pb_tup]; exact pureL_map fun s => by cases s <;> rfl)
end
end Pd

namespace Pd
open PySem PySem.Spec PyProof.Rows L2
theorem ll12 {t : List Nat} {a : Nat} (h : Txt1 a 12 t) : t.length ≤ line := ll (by have := h.le; omega)
section
variable {n : Nat} {S : Store}
theorem two_ok (hn : 7 ≤ n) {h : Hand} (hh : HandOk h) (T : Store) : ∃ (a b : List Nat) (h' : Hand), Txt1 0 12 a ∧ Txt1 0 12 b ∧ HandOk h' ∧ callN 1000 progL n "_law_two" [.ref 0, .int 12] (handD h :: T) = some (.tup [.str a, .str b], handD h' :: T) := by
  obtain ⟨m, rfl, hm⟩ := pos_n hn
  obtain ⟨a, h1, ha, hh1, e1⟩ := text_ok (n := m) (by omega) hh (k := 12) (by decide) T
  have e1' : callN 1000 progL m "_law_text" [.ref 0, .int 12] (handD h :: T) = some (.str a, handD h1 :: T) := e1
  obtain ⟨steps, f, h2, hl, hf, hs, hh2, e2⟩ := script_ok (n := m) (by omega) hh1 ha (by decide) T
  have e2' : callN 1000 progL m "_law_script" [.ref 0, .str a, .int 12] (handD h1 :: T) = some (.tup (steps.map stD), handD h2 :: T) := e2
  have e3 := led_ok (S := handD h2 :: T) (n := m) (d := .tup (steps.map stD)) (by omega) (by have := ha.le; omega) hs (by have := hf.le; omega) hl (.inl rfl)
  obtain ⟨b, h3, hb, hh3, e4⟩ := text_ok (n := m) (by omega) hh2 (k := 12) (by decide) T
  have e4' : callN 1000 progL m "_law_text" [.ref 0, .int 12] (handD h2 :: T) = some (.str b, handD h3 :: T) := e4
  obtain ⟨d, h4, hd, hh4, e5⟩ := some_ok (n := m) (by omega) hh3 (xs := [.tup [.str a, .str f], .tup [.str f, .str a], .tup [.str a, .str b]]) (by simp) (by simp) rfl T
  have hle : ¬ (12 : Int) < ((a.length : Nat) : Int) := by have := ha.le; omega
  have l2 : (2 ≤ line) = True := le_line (by omega)
  have l3 : (3 ≤ line) = True := le_line (by omega)
  have p : run 1000 (callN 1000 progL m) d_law_two.body [some (.ref 0), some (.int 12), none, none] (handD h :: T) = some (.rt d, handD h4 :: T) := by
    simp only [d_law_two, e1', e2', e3, e4', e5, b_len_s (ll12 ha), hle, decide_false, l2, l3, eq_self, Bool.and_self, Bool.and_true, pb_non, pb_bl, pb_int, pb_str, pb_tup, pb_lv, pb_dv, pl_nil, pl_cons, pu_ints, pu_strs, pu_sgn, pu_nat, end_rt, end_nx, end_own, run, ev, evs, evT, evI, fin, Option.bind_some, Option.map_some, startE, List.map_cons, List.map_nil, List.length_cons, List.length_nil, List.cons_append, List.nil_append, List.replicate_succ, List.replicate_zero, Nat.reduceAdd, Nat.reduceSub, Nat.zero_add, List.getElem?_cons_zero, List.getElem?_cons_succ, List.set_cons_zero, List.set_cons_succ, wipeE, bindTg, setAll, cmpS, eq_ii, eq_ss, lt_ii, lt_ss, mem_s, p_add_i, p_sub_i, b_len_t, b_len_l, b_abs, b_int, b_tuple_l, b_list_t, b_list_l, m_count, i_tup, i_lv, atI_0, atI_1, atI_2, atI_3, atI_4, decide_eq_true_eq, Bool.not_true, Bool.not_false, Bool.false_eq_true, if_true, if_false, ite_true, ite_false, reduceIte, isNon, walkOf, walkS, isi_non_int, isi_non_str, isi_non_tuple, isi_non_list, isi_non_dict, isi_non_bool, isi_bl_int, isi_bl_str, isi_bl_tuple, isi_bl_list, isi_bl_dict, isi_bl_bool, isi_int_int, isi_int_str, isi_int_tuple, isi_int_list, isi_int_dict, isi_int_bool, isi_str_int, isi_str_str, isi_str_tuple, isi_str_list, isi_str_dict, isi_str_bool, isi_tup_int, isi_tup_str, isi_tup_tuple, isi_tup_list, isi_tup_dict, isi_tup_bool, isi_lv_int, isi_lv_str, isi_lv_tuple, isi_lv_list, isi_lv_dict, isi_lv_bool, isi_dv_int, isi_dv_str, isi_dv_tuple, isi_dv_list, isi_dv_dict, isi_dv_bool, isi_scr_int, isi_scr_str, isi_scr_tuple, isi_scr_list, isi_scr_dict, isi_scr_bool]
  have hr : callN 1000 progL (m + 1) "_law_two" [.ref 0, .int 12] (handD h :: T) = (run 1000 (callN 1000 progL m) d_law_two.body [some (.ref 0), some (.int 12), none, none] (handD h :: T)).bind (endC false (handD h :: T)) := by
    rw [callN_at fi_law_two rfl]
    rfl
  have hp : pureB d = true := by
    simp only [List.mem_cons, List.not_mem_nil, or_false] at hd
    rcases hd with rfl | rfl | rfl <;> rfl
  rw [p] at hr
  have hr2 := hr.trans (hend (h := h) (h' := h4) (T := T) hp)
  simp only [List.mem_cons, List.not_mem_nil, or_false] at hd
  rcases hd with rfl | rfl | rfl
  · exact ⟨a, f, h4, ha, hf, hh4, hr2⟩
  · exact ⟨f, a, h4, hf, ha, hh4, hr2⟩
  · exact ⟨a, b, h4, ha, hb, hh4, hr2⟩
/-! ### the model -/
def dotRow (b : List Nat) (x : Nat) : List Nat := b.map fun y => if x = y then 35 else 46
def rowsL (a b : List Nat) : List (List Nat) := a.map (dotRow b)
def dotB (a b : List Nat) (i j : Int) : Bool := decide (0 ≤ i ∧ i < a.length ∧ 0 ≤ j ∧ j < b.length ∧ a[i.toNat]?.getD 0 = b[j.toNat]?.getD 0)
def rowD (a b : List Nat) (i : Nat) : List (Nat × Nat) := ((List.range b.length).filter fun j => decide (a[i]?.getD 0 = b[j]?.getD 0)).map fun j => (i, j)
def allD (a b : List Nat) : List (Nat × Nat) := ((List.range a.length).map (rowD a b)).flatten
abbrev pairV (p : Nat × Nat) : D := .tup [.int (p.1 : Nat), .int (p.2 : Nat)]
theorem rowD_len (a b : List Nat) (i : Nat) : (rowD a b i).length ≤ b.length := by
  unfold rowD
  rw [List.length_map]
  have := List.length_filter_le (fun j => decide (a[i]?.getD 0 = b[j]?.getD 0)) (List.range b.length)
  rwa [List.length_range] at this
theorem flat_len {α : Type} {k : Nat} : ∀ {L : List (List α)}, (∀ l ∈ L, l.length ≤ k) → L.flatten.length ≤ L.length * k
  | [], _ => by simp
  | l :: L, h => by
    rw [List.flatten_cons, List.length_append, List.length_cons]
    have h1 := h l List.mem_cons_self
    have h2 := flat_len (L := L) fun x hx => h x (List.mem_cons_of_mem _ hx)
    rw [Nat.add_mul, Nat.one_mul]
    omega
theorem allD_len (a b : List Nat) : (allD a b).length ≤ a.length * b.length := by
  have := flat_len (L := (List.range a.length).map (rowD a b)) (k := b.length) fun l hl => by
    obtain ⟨i, _, rfl⟩ := List.mem_map.mp hl
    exact rowD_len a b i
  rwa [List.length_map, List.length_range] at this
theorem allD_144 {a b : List Nat} (ha : Txt1 0 12 a) (hb : Txt1 0 12 b) : (allD a b).length ≤ 144 :=
  Nat.le_trans (allD_len a b) (Nat.mul_le_mul ha.le hb.le)
theorem mem_allD {a b : List Nat} {p : Nat × Nat} : p ∈ allD a b ↔ p.1 < a.length ∧ p.2 < b.length ∧ a[p.1]?.getD 0 = b[p.2]?.getD 0 := by
  unfold allD rowD
  simp only [List.mem_flatten, List.mem_map, List.mem_range, List.mem_filter, decide_eq_true_eq]
  constructor
  · rintro ⟨l, ⟨i, hi, rfl⟩, hp⟩
    obtain ⟨j, hj, rfl⟩ := List.mem_map.mp hp
    obtain ⟨h1, h2⟩ := List.mem_filter.mp hj
    exact ⟨hi, List.mem_range.mp h1, of_decide_eq_true h2⟩
  · rintro ⟨h1, h2, h3⟩
    exact ⟨_, ⟨p.1, h1, rfl⟩, List.mem_map.mpr ⟨p.2, List.mem_filter.mpr ⟨List.mem_range.mpr h2, decide_eq_true h3⟩, rfl⟩⟩
theorem dotB_mem {a b : List Nat} {i j : Int} : dotB a b i j = true ↔ ∃ p ∈ allD a b, (p.1 : Int) = i ∧ (p.2 : Int) = j := by
  unfold dotB
  rw [decide_eq_true_eq]
  constructor
  · rintro ⟨h1, h2, h3, h4, h5⟩
    exact ⟨(i.toNat, j.toNat), mem_allD.mpr ⟨by show i.toNat < _; omega, by show j.toNat < _; omega, h5⟩, by show ((i.toNat : Nat) : Int) = i; omega, by show ((j.toNat : Nat) : Int) = j; omega⟩
  · rintro ⟨p, hp, rfl, rfl⟩
    obtain ⟨h1, h2, h3⟩ := mem_allD.mp hp
    refine ⟨by omega, by omega, by omega, by omega, ?_⟩
    rw [Int.toNat_natCast, Int.toNat_natCast]
    exact h3
/-! ### the program -/
theorem raw_dots_ok (hn : 1 ≤ n) {a b : List Nat} (ha : a.length ≤ 1000) (hb : b.length ≤ 1000) : callN 1000 progL n "raw_dots" [.str a, .str b] S = some (.lv ((rowsL a b).map .str), S) := by
  obtain ⟨m, rfl, hm⟩ := pos_n hn
  rw [callN_at fi_raw_dots rfl]
  have hza : a.length ≤ line := ll (by omega)
  have hzb : b.length ≤ line := ll (by omega)
  have c1 : ∀ (x : Nat), ev 1000 (callN 1000 progL m) d_raw_dots_c1 [some (.str a), some (.str b), some (.str [x]), none] S = some (.lv (b.map fun y => .str [if x = y then 35 else 46]), S) := fun x => by
    refine lc_map (L := b) (φ := fun c => .str [c]) (fun y => .str [if x = y then 35 else 46]) (by simp only [eq_self, Bool.and_self, Bool.and_true, pb_non, pb_bl, pb_int, pb_str, pb_tup, pb_lv, pb_dv, pl_nil, pl_cons, pu_ints, pu_strs, pu_sgn, pu_nat, end_rt, end_nx, end_own, run, ev, evs, evT, evI, fin, Option.bind_some, Option.map_some, startE, List.map_cons, List.map_nil, List.length_cons, List.length_nil, List.cons_append, List.nil_append, List.replicate_succ, List.replicate_zero, Nat.reduceAdd, Nat.reduceSub, Nat.zero_add, List.getElem?_cons_zero, List.getElem?_cons_succ, List.set_cons_zero, List.set_cons_succ, wipeE, bindTg, setAll, cmpS, eq_ii, eq_ss, lt_ii, lt_ss, mem_s, p_add_i, p_sub_i, b_len_t, b_len_l, b_abs, b_int, b_tuple_l, b_list_t, b_list_l, m_count, i_tup, i_lv, atI_0, atI_1, atI_2, atI_3, atI_4, decide_eq_true_eq, Bool.not_true, Bool.not_false, Bool.false_eq_true, if_true, if_false, ite_true, ite_false, reduceIte, isNon, walkOf, walkS, isi_non_int, isi_non_str, isi_non_tuple, isi_non_list, isi_non_dict, isi_non_bool, isi_bl_int, isi_bl_str, isi_bl_tuple, isi_bl_list, isi_bl_dict, isi_bl_bool, isi_int_int, isi_int_str, isi_int_tuple, isi_int_list, isi_int_dict, isi_int_bool, isi_str_int, isi_str_str, isi_str_tuple, isi_str_list, isi_str_dict, isi_str_bool, isi_tup_int, isi_tup_str, isi_tup_tuple, isi_tup_list, isi_tup_dict, isi_tup_bool, isi_lv_int, isi_lv_str, isi_lv_tuple, isi_lv_list, isi_lv_dict, isi_lv_bool, isi_dv_int, isi_dv_str, isi_dv_tuple, isi_dv_list, isi_dv_dict, isi_dv_bool, isi_scr_int, isi_scr_str, isi_scr_tuple, isi_scr_list, isi_scr_dict, isi_scr_bool]) (fun y hy => ?_) hzb
    by_cases e : x = y
    · simp only [turnF, List.cons.injEq, and_true, e, decide_true, eq_self, Bool.and_self, Bool.and_true, pb_non, pb_bl, pb_int, pb_str, pb_tup, pb_lv, pb_dv, pl_nil, pl_cons, pu_ints, pu_strs, pu_sgn, pu_nat, end_rt, end_nx, end_own, run, ev, evs, evT, evI, fin, Option.bind_some, Option.map_some, startE, List.map_cons, List.map_nil, List.length_cons, List.length_nil, List.cons_append, List.nil_append, List.replicate_succ, List.replicate_zero, Nat.reduceAdd, Nat.reduceSub, Nat.zero_add, List.getElem?_cons_zero, List.getElem?_cons_succ, List.set_cons_zero, List.set_cons_succ, wipeE, bindTg, setAll, cmpS, eq_ii, eq_ss, lt_ii, lt_ss, mem_s, p_add_i, p_sub_i, b_len_t, b_len_l, b_abs, b_int, b_tuple_l, b_list_t, b_list_l, m_count, i_tup, i_lv, atI_0, atI_1, atI_2, atI_3, atI_4, decide_eq_true_eq, Bool.not_true, Bool.not_false, Bool.false_eq_true, if_true, if_false, ite_true, ite_false, reduceIte, isNon, walkOf, walkS, isi_non_int, isi_non_str, isi_non_tuple, isi_non_list, isi_non_dict, isi_non_bool, isi_bl_int, isi_bl_str, isi_bl_tuple, isi_bl_list, isi_bl_dict, isi_bl_bool, isi_int_int, isi_int_str, isi_int_tuple, isi_int_list, isi_int_dict, isi_int_bool, isi_str_int, isi_str_str, isi_str_tuple, isi_str_list, isi_str_dict, isi_str_bool, isi_tup_int, isi_tup_str, isi_tup_tuple, isi_tup_list, isi_tup_dict, isi_tup_bool, isi_lv_int, isi_lv_str, isi_lv_tuple, isi_lv_list, isi_lv_dict, isi_lv_bool, isi_dv_int, isi_dv_str, isi_dv_tuple, isi_dv_list, isi_dv_dict, isi_dv_bool, isi_scr_int, isi_scr_str, isi_scr_tuple, isi_scr_list, isi_scr_dict, isi_scr_bool]
    · simp only [turnF, List.cons.injEq, and_true, e, decide_false, eq_self, Bool.and_self, Bool.and_true, pb_non, pb_bl, pb_int, pb_str, pb_tup, pb_lv, pb_dv, pl_nil, pl_cons, pu_ints, pu_strs, pu_sgn, pu_nat, end_rt, end_nx, end_own, run, ev, evs, evT, evI, fin, Option.bind_some, Option.map_some, startE, List.map_cons, List.map_nil, List.length_cons, List.length_nil, List.cons_append, List.nil_append, List.replicate_succ, List.replicate_zero, Nat.reduceAdd, Nat.reduceSub, Nat.zero_add, List.getElem?_cons_zero, List.getElem?_cons_succ, List.set_cons_zero, List.set_cons_succ, wipeE, bindTg, setAll, cmpS, eq_ii, eq_ss, lt_ii, lt_ss, mem_s, p_add_i, p_sub_i, b_len_t, b_len_l, b_abs, b_int, b_tuple_l, b_list_t, b_list_l, m_count, i_tup, i_lv, atI_0, atI_1, atI_2, atI_3, atI_4, decide_eq_true_eq, Bool.not_true, Bool.not_false, Bool.false_eq_true, if_true, if_false, ite_true, ite_false, reduceIte, isNon, walkOf, walkS, isi_non_int, isi_non_str, isi_non_tuple, isi_non_list, isi_non_dict, isi_non_bool, isi_bl_int, isi_bl_str, isi_bl_tuple, isi_bl_list, isi_bl_dict, isi_bl_bool, isi_int_int, isi_int_str, isi_int_tuple, isi_int_list, isi_int_dict, isi_int_bool, isi_str_int, isi_str_str, isi_str_tuple, isi_str_list, isi_str_dict, isi_str_bool, isi_tup_int, isi_tup_str, isi_tup_tuple, isi_tup_list, isi_tup_dict, isi_tup_bool, isi_lv_int, isi_lv_str, isi_lv_tuple, isi_lv_list, isi_lv_dict, isi_lv_bool, isi_dv_int, isi_dv_str, isi_dv_tuple, isi_dv_list, isi_dv_dict, isi_dv_bool, isi_scr_int, isi_scr_str, isi_scr_tuple, isi_scr_list, isi_scr_dict, isi_scr_bool]
  have c2 : ev 1000 (callN 1000 progL m) d_raw_dots_c2 [some (.str a), some (.str b), none, none] S = some (.lv ((rowsL a b).map .str), S) := by
    unfold rowsL
    rw [List.map_map]
    refine lc_map (L := a) (φ := fun c => .str [c]) _ (by simp only [eq_self, Bool.and_self, Bool.and_true, pb_non, pb_bl, pb_int, pb_str, pb_tup, pb_lv, pb_dv, pl_nil, pl_cons, pu_ints, pu_strs, pu_sgn, pu_nat, end_rt, end_nx, end_own, run, ev, evs, evT, evI, fin, Option.bind_some, Option.map_some, startE, List.map_cons, List.map_nil, List.length_cons, List.length_nil, List.cons_append, List.nil_append, List.replicate_succ, List.replicate_zero, Nat.reduceAdd, Nat.reduceSub, Nat.zero_add, List.getElem?_cons_zero, List.getElem?_cons_succ, List.set_cons_zero, List.set_cons_succ, wipeE, bindTg, setAll, cmpS, eq_ii, eq_ss, lt_ii, lt_ss, mem_s, p_add_i, p_sub_i, b_len_t, b_len_l, b_abs, b_int, b_tuple_l, b_list_t, b_list_l, m_count, i_tup, i_lv, atI_0, atI_1, atI_2, atI_3, atI_4, decide_eq_true_eq, Bool.not_true, Bool.not_false, Bool.false_eq_true, if_true, if_false, ite_true, ite_false, reduceIte, isNon, walkOf, walkS, isi_non_int, isi_non_str, isi_non_tuple, isi_non_list, isi_non_dict, isi_non_bool, isi_bl_int, isi_bl_str, isi_bl_tuple, isi_bl_list, isi_bl_dict, isi_bl_bool, isi_int_int, isi_int_str, isi_int_tuple, isi_int_list, isi_int_dict, isi_int_bool, isi_str_int, isi_str_str, isi_str_tuple, isi_str_list, isi_str_dict, isi_str_bool, isi_tup_int, isi_tup_str, isi_tup_tuple, isi_tup_list, isi_tup_dict, isi_tup_bool, isi_lv_int, isi_lv_str, isi_lv_tuple, isi_lv_list, isi_lv_dict, isi_lv_bool, isi_dv_int, isi_dv_str, isi_dv_tuple, isi_dv_list, isi_dv_dict, isi_dv_bool, isi_scr_int, isi_scr_str, isi_scr_tuple, isi_scr_list, isi_scr_dict, isi_scr_bool]) (fun x hx => ?_) hza
    have hj := join_sgn (S := S) (l := b) (f := fun y => if x = y then 35 else 46) (by omega)
    simp only [turnF, c1, hj, ty_str, eq_self, Bool.and_self, Bool.and_true, pb_non, pb_bl, pb_int, pb_str, pb_tup, pb_lv, pb_dv, pl_nil, pl_cons, pu_ints, pu_strs, pu_sgn, pu_nat, end_rt, end_nx, end_own, run, ev, evs, evT, evI, fin, Option.bind_some, Option.map_some, startE, List.map_cons, List.map_nil, List.length_cons, List.length_nil, List.cons_append, List.nil_append, List.replicate_succ, List.replicate_zero, Nat.reduceAdd, Nat.reduceSub, Nat.zero_add, List.getElem?_cons_zero, List.getElem?_cons_succ, List.set_cons_zero, List.set_cons_succ, wipeE, bindTg, setAll, cmpS, eq_ii, eq_ss, lt_ii, lt_ss, mem_s, p_add_i, p_sub_i, b_len_t, b_len_l, b_abs, b_int, b_tuple_l, b_list_t, b_list_l, m_count, i_tup, i_lv, atI_0, atI_1, atI_2, atI_3, atI_4, decide_eq_true_eq, Bool.not_true, Bool.not_false, Bool.false_eq_true, if_true, if_false, ite_true, ite_false, reduceIte, isNon, walkOf, walkS, isi_non_int, isi_non_str, isi_non_tuple, isi_non_list, isi_non_dict, isi_non_bool, isi_bl_int, isi_bl_str, isi_bl_tuple, isi_bl_list, isi_bl_dict, isi_bl_bool, isi_int_int, isi_int_str, isi_int_tuple, isi_int_list, isi_int_dict, isi_int_bool, isi_str_int, isi_str_str, isi_str_tuple, isi_str_list, isi_str_dict, isi_str_bool, isi_tup_int, isi_tup_str, isi_tup_tuple, isi_tup_list, isi_tup_dict, isi_tup_bool, isi_lv_int, isi_lv_str, isi_lv_tuple, isi_lv_list, isi_lv_dict, isi_lv_bool, isi_dv_int, isi_dv_str, isi_dv_tuple, isi_dv_list, isi_dv_dict, isi_dv_bool, isi_scr_int, isi_scr_str, isi_scr_tuple, isi_scr_list, isi_scr_dict, isi_scr_bool]
    rfl
  simp only [d_raw_dots, c2, eq_self, Bool.and_self, Bool.and_true, pb_non, pb_bl, pb_int, pb_str, pb_tup, pb_lv, pb_dv, pl_nil, pl_cons, pu_ints, pu_strs, pu_sgn, pu_nat, end_rt, end_nx, end_own, run, ev, evs, evT, evI, fin, Option.bind_some, Option.map_some, startE, List.map_cons, List.map_nil, List.length_cons, List.length_nil, List.cons_append, List.nil_append, List.replicate_succ, List.replicate_zero, Nat.reduceAdd, Nat.reduceSub, Nat.zero_add, List.getElem?_cons_zero, List.getElem?_cons_succ, List.set_cons_zero, List.set_cons_succ, wipeE, bindTg, setAll, cmpS, eq_ii, eq_ss, lt_ii, lt_ss, mem_s, p_add_i, p_sub_i, b_len_t, b_len_l, b_abs, b_int, b_tuple_l, b_list_t, b_list_l, m_count, i_tup, i_lv, atI_0, atI_1, atI_2, atI_3, atI_4, decide_eq_true_eq, Bool.not_true, Bool.not_false, Bool.false_eq_true, if_true, if_false, ite_true, ite_false, reduceIte, isNon, walkOf, walkS, isi_non_int, isi_non_str, isi_non_tuple, isi_non_list, isi_non_dict, isi_non_bool, isi_bl_int, isi_bl_str, isi_bl_tuple, isi_bl_list, isi_bl_dict, isi_bl_bool, isi_int_int, isi_int_str, isi_int_tuple, isi_int_list, isi_int_dict, isi_int_bool, isi_str_int, isi_str_str, isi_str_tuple, isi_str_list, isi_str_dict, isi_str_bool, isi_tup_int, isi_tup_str, isi_tup_tuple, isi_tup_list, isi_tup_dict, isi_tup_bool, isi_lv_int, isi_lv_str, isi_lv_tuple, isi_lv_list, isi_lv_dict, isi_lv_bool, isi_dv_int, isi_dv_str, isi_dv_tuple, isi_dv_list, isi_dv_dict, isi_dv_bool, isi_scr_int, isi_scr_str, isi_scr_tuple, isi_scr_list, isi_scr_dict, isi_scr_bool]
theorem law_dots_ok (hn : 1 ≤ n) {a b : List Nat} (ha : a.length ≤ 1000) (hb : b.length ≤ 1000) : callN 1000 progL n "_law_dots" [.str a, .str b] S = some (.lv ((rowsL a b).map .str), S) := by
  obtain ⟨m, rfl, hm⟩ := pos_n hn
  rw [callN_at fi_law_dots rfl]
  have hza : a.length ≤ line := ll (by omega)
  have hzb : b.length ≤ line := ll (by omega)
  have c1 : ∀ (x : Nat), ev 1000 (callN 1000 progL m) d_law_dots_c1 [some (.str a), some (.str b), some (.str [x]), none] S = some (.lv (b.map fun y => .str [if x = y then 35 else 46]), S) := fun x => by
    refine lc_map (L := b) (φ := fun c => .str [c]) (fun y => .str [if x = y then 35 else 46]) (by simp only [eq_self, Bool.and_self, Bool.and_true, pb_non, pb_bl, pb_int, pb_str, pb_tup, pb_lv, pb_dv, pl_nil, pl_cons, pu_ints, pu_strs, pu_sgn, pu_nat, end_rt, end_nx, end_own, run, ev, evs, evT, evI, fin, Option.bind_some, Option.map_some, startE, List.map_cons, List.map_nil, List.length_cons, List.length_nil, List.cons_append, List.nil_append, List.replicate_succ, List.replicate_zero, Nat.reduceAdd, Nat.reduceSub, Nat.zero_add, List.getElem?_cons_zero, List.getElem?_cons_succ, List.set_cons_zero, List.set_cons_succ, wipeE, bindTg, setAll, cmpS, eq_ii, eq_ss, lt_ii, lt_ss, mem_s, p_add_i, p_sub_i, b_len_t, b_len_l, b_abs, b_int, b_tuple_l, b_list_t, b_list_l, m_count, i_tup, i_lv, atI_0, atI_1, atI_2, atI_3, atI_4, decide_eq_true_eq, Bool.not_true, Bool.not_false, Bool.false_eq_true, if_true, if_false, ite_true, ite_false, reduceIte, isNon, walkOf, walkS, isi_non_int, isi_non_str, isi_non_tuple, isi_non_list, isi_non_dict, isi_non_bool, isi_bl_int, isi_bl_str, isi_bl_tuple, isi_bl_list, isi_bl_dict, isi_bl_bool, isi_int_int, isi_int_str, isi_int_tuple, isi_int_list, isi_int_dict, isi_int_bool, isi_str_int, isi_str_str, isi_str_tuple, isi_str_list, isi_str_dict, isi_str_bool, isi_tup_int, isi_tup_str, isi_tup_tuple, isi_tup_list, isi_tup_dict, isi_tup_bool, isi_lv_int, isi_lv_str, isi_lv_tuple, isi_lv_list, isi_lv_dict, isi_lv_bool, isi_dv_int, isi_dv_str, isi_dv_tuple, isi_dv_list, isi_dv_dict, isi_dv_bool, isi_scr_int, isi_scr_str, isi_scr_tuple, isi_scr_list, isi_scr_dict, isi_scr_bool]) (fun y hy => ?_) hzb
    by_cases e : x = y
    · simp only [turnF, List.cons.injEq, and_true, e, decide_true, eq_self, Bool.and_self, Bool.and_true, pb_non, pb_bl, pb_int, pb_str, pb_tup, pb_lv, pb_dv, pl_nil, pl_cons, pu_ints, pu_strs, pu_sgn, pu_nat, end_rt, end_nx, end_own, run, ev, evs, evT, evI, fin, Option.bind_some, Option.map_some, startE, List.map_cons, List.map_nil, List.length_cons, List.length_nil, List.cons_append, List.nil_append, List.replicate_succ, List.replicate_zero, Nat.reduceAdd, Nat.reduceSub, Nat.zero_add, List.getElem?_cons_zero, List.getElem?_cons_succ, List.set_cons_zero, List.set_cons_succ, wipeE, bindTg, setAll, cmpS, eq_ii, eq_ss, lt_ii, lt_ss, mem_s, p_add_i, p_sub_i, b_len_t, b_len_l, b_abs, b_int, b_tuple_l, b_list_t, b_list_l, m_count, i_tup, i_lv, atI_0, atI_1, atI_2, atI_3, atI_4, decide_eq_true_eq, Bool.not_true, Bool.not_false, Bool.false_eq_true, if_true, if_false, ite_true, ite_false, reduceIte, isNon, walkOf, walkS, isi_non_int, isi_non_str, isi_non_tuple, isi_non_list, isi_non_dict, isi_non_bool, isi_bl_int, isi_bl_str, isi_bl_tuple, isi_bl_list, isi_bl_dict, isi_bl_bool, isi_int_int, isi_int_str, isi_int_tuple, isi_int_list, isi_int_dict, isi_int_bool, isi_str_int, isi_str_str, isi_str_tuple, isi_str_list, isi_str_dict, isi_str_bool, isi_tup_int, isi_tup_str, isi_tup_tuple, isi_tup_list, isi_tup_dict, isi_tup_bool, isi_lv_int, isi_lv_str, isi_lv_tuple, isi_lv_list, isi_lv_dict, isi_lv_bool, isi_dv_int, isi_dv_str, isi_dv_tuple, isi_dv_list, isi_dv_dict, isi_dv_bool, isi_scr_int, isi_scr_str, isi_scr_tuple, isi_scr_list, isi_scr_dict, isi_scr_bool]
    · simp only [turnF, List.cons.injEq, and_true, e, decide_false, eq_self, Bool.and_self, Bool.and_true, pb_non, pb_bl, pb_int, pb_str, pb_tup, pb_lv, pb_dv, pl_nil, pl_cons, pu_ints, pu_strs, pu_sgn, pu_nat, end_rt, end_nx, end_own, run, ev, evs, evT, evI, fin, Option.bind_some, Option.map_some, startE, List.map_cons, List.map_nil, List.length_cons, List.length_nil, List.cons_append, List.nil_append, List.replicate_succ, List.replicate_zero, Nat.reduceAdd, Nat.reduceSub, Nat.zero_add, List.getElem?_cons_zero, List.getElem?_cons_succ, List.set_cons_zero, List.set_cons_succ, wipeE, bindTg, setAll, cmpS, eq_ii, eq_ss, lt_ii, lt_ss, mem_s, p_add_i, p_sub_i, b_len_t, b_len_l, b_abs, b_int, b_tuple_l, b_list_t, b_list_l, m_count, i_tup, i_lv, atI_0, atI_1, atI_2, atI_3, atI_4, decide_eq_true_eq, Bool.not_true, Bool.not_false, Bool.false_eq_true, if_true, if_false, ite_true, ite_false, reduceIte, isNon, walkOf, walkS, isi_non_int, isi_non_str, isi_non_tuple, isi_non_list, isi_non_dict, isi_non_bool, isi_bl_int, isi_bl_str, isi_bl_tuple, isi_bl_list, isi_bl_dict, isi_bl_bool, isi_int_int, isi_int_str, isi_int_tuple, isi_int_list, isi_int_dict, isi_int_bool, isi_str_int, isi_str_str, isi_str_tuple, isi_str_list, isi_str_dict, isi_str_bool, isi_tup_int, isi_tup_str, isi_tup_tuple, isi_tup_list, isi_tup_dict, isi_tup_bool, isi_lv_int, isi_lv_str, isi_lv_tuple, isi_lv_list, isi_lv_dict, isi_lv_bool, isi_dv_int, isi_dv_str, isi_dv_tuple, isi_dv_list, isi_dv_dict, isi_dv_bool, isi_scr_int, isi_scr_str, isi_scr_tuple, isi_scr_list, isi_scr_dict, isi_scr_bool]
  have c2 : ev 1000 (callN 1000 progL m) d_law_dots_c2 [some (.str a), some (.str b), none, none] S = some (.lv ((rowsL a b).map .str), S) := by
    unfold rowsL
    rw [List.map_map]
    refine lc_map (L := a) (φ := fun c => .str [c]) _ (by simp only [eq_self, Bool.and_self, Bool.and_true, pb_non, pb_bl, pb_int, pb_str, pb_tup, pb_lv, pb_dv, pl_nil, pl_cons, pu_ints, pu_strs, pu_sgn, pu_nat, end_rt, end_nx, end_own, run, ev, evs, evT, evI, fin, Option.bind_some, Option.map_some, startE, List.map_cons, List.map_nil, List.length_cons, List.length_nil, List.cons_append, List.nil_append, List.replicate_succ, List.replicate_zero, Nat.reduceAdd, Nat.reduceSub, Nat.zero_add, List.getElem?_cons_zero, List.getElem?_cons_succ, List.set_cons_zero, List.set_cons_succ, wipeE, bindTg, setAll, cmpS, eq_ii, eq_ss, lt_ii, lt_ss, mem_s, p_add_i, p_sub_i, b_len_t, b_len_l, b_abs, b_int, b_tuple_l, b_list_t, b_list_l, m_count, i_tup, i_lv, atI_0, atI_1, atI_2, atI_3, atI_4, decide_eq_true_eq, Bool.not_true, Bool.not_false, Bool.false_eq_true, if_true, if_false, ite_true, ite_false, reduceIte, isNon, walkOf, walkS, isi_non_int, isi_non_str, isi_non_tuple, isi_non_list, isi_non_dict, isi_non_bool, isi_bl_int, isi_bl_str, isi_bl_tuple, isi_bl_list, isi_bl_dict, isi_bl_bool, isi_int_int, isi_int_str, isi_int_tuple, isi_int_list, isi_int_dict, isi_int_bool, isi_str_int, isi_str_str, isi_str_tuple, isi_str_list, isi_str_dict, isi_str_bool, isi_tup_int, isi_tup_str, isi_tup_tuple, isi_tup_list, isi_tup_dict, isi_tup_bool, isi_lv_int, isi_lv_str, isi_lv_tuple, isi_lv_list, isi_lv_dict, isi_lv_bool, isi_dv_int, isi_dv_str, isi_dv_tuple, isi_dv_list, isi_dv_dict, isi_dv_bool, isi_scr_int, isi_scr_str, isi_scr_tuple, isi_scr_list, isi_scr_dict, isi_scr_bool]) (fun x hx => ?_) hza
    have hj := join_sgn (S := S) (l := b) (f := fun y => if x = y then 35 else 46) (by omega)
    simp only [turnF, c1, hj, ty_str, eq_self, Bool.and_self, Bool.and_true, pb_non, pb_bl, pb_int, pb_str, pb_tup, pb_lv, pb_dv, pl_nil, pl_cons, pu_ints, pu_strs, pu_sgn, pu_nat, end_rt, end_nx, end_own, run, ev, evs, evT, evI, fin, Option.bind_some, Option.map_some, startE, List.map_cons, List.map_nil, List.length_cons, List.length_nil, List.cons_append, List.nil_append, List.replicate_succ, List.replicate_zero, Nat.reduceAdd, Nat.reduceSub, Nat.zero_add, List.getElem?_cons_zero, List.getElem?_cons_succ, List.set_cons_zero, List.set_cons_succ, wipeE, bindTg, setAll, cmpS, eq_ii, eq_ss, lt_ii, lt_ss, mem_s, p_add_i, p_sub_i, b_len_t, b_len_l, b_abs, b_int, b_tuple_l, b_list_t, b_list_l, m_count, i_tup, i_lv, atI_0, atI_1, atI_2, atI_3, atI_4, decide_eq_true_eq, Bool.not_true, Bool.not_false, Bool.false_eq_true, if_true, if_false, ite_true, ite_false, reduceIte, isNon, walkOf, walkS, isi_non_int, isi_non_str, isi_non_tuple, isi_non_list, isi_non_dict, isi_non_bool, isi_bl_int, isi_bl_str, isi_bl_tuple, isi_bl_list, isi_bl_dict, isi_bl_bool, isi_int_int, isi_int_str, isi_int_tuple, isi_int_list, isi_int_dict, isi_int_bool, isi_str_int, isi_str_str, isi_str_tuple, isi_str_list, isi_str_dict, isi_str_bool, isi_tup_int, isi_tup_str, isi_tup_tuple, isi_tup_list, isi_tup_dict, isi_tup_bool, isi_lv_int, isi_lv_str, isi_lv_tuple, isi_lv_list, isi_lv_dict, isi_lv_bool, isi_dv_int, isi_dv_str, isi_dv_tuple, isi_dv_list, isi_dv_dict, isi_dv_bool, isi_scr_int, isi_scr_str, isi_scr_tuple, isi_scr_list, isi_scr_dict, isi_scr_bool]
    rfl
  simp only [d_law_dots, c2, eq_self, Bool.and_self, Bool.and_true, pb_non, pb_bl, pb_int, pb_str, pb_tup, pb_lv, pb_dv, pl_nil, pl_cons, pu_ints, pu_strs, pu_sgn, pu_nat, end_rt, end_nx, end_own, run, ev, evs, evT, evI, fin, Option.bind_some, Option.map_some, startE, List.map_cons, List.map_nil, List.length_cons, List.length_nil, List.cons_append, List.nil_append, List.replicate_succ, List.replicate_zero, Nat.reduceAdd, Nat.reduceSub, Nat.zero_add, List.getElem?_cons_zero, List.getElem?_cons_succ, List.set_cons_zero, List.set_cons_succ, wipeE, bindTg, setAll, cmpS, eq_ii, eq_ss, lt_ii, lt_ss, mem_s, p_add_i, p_sub_i, b_len_t, b_len_l, b_abs, b_int, b_tuple_l, b_list_t, b_list_l, m_count, i_tup, i_lv, atI_0, atI_1, atI_2, atI_3, atI_4, decide_eq_true_eq, Bool.not_true, Bool.not_false, Bool.false_eq_true, if_true, if_false, ite_true, ite_false, reduceIte, isNon, walkOf, walkS, isi_non_int, isi_non_str, isi_non_tuple, isi_non_list, isi_non_dict, isi_non_bool, isi_bl_int, isi_bl_str, isi_bl_tuple, isi_bl_list, isi_bl_dict, isi_bl_bool, isi_int_int, isi_int_str, isi_int_tuple, isi_int_list, isi_int_dict, isi_int_bool, isi_str_int, isi_str_str, isi_str_tuple, isi_str_list, isi_str_dict, isi_str_bool, isi_tup_int, isi_tup_str, isi_tup_tuple, isi_tup_list, isi_tup_dict, isi_tup_bool, isi_lv_int, isi_lv_str, isi_lv_tuple, isi_lv_list, isi_lv_dict, isi_lv_bool, isi_dv_int, isi_dv_str, isi_dv_tuple, isi_dv_list, isi_dv_dict, isi_dv_bool, isi_scr_int, isi_scr_str, isi_scr_tuple, isi_scr_list, isi_scr_dict, isi_scr_bool]
theorem rowsL_len (a b : List Nat) : (rowsL a b).length = a.length := List.length_map _
theorem dots_ok (hn : 6 ≤ n) {a b : List Nat} (ha : Txt1 0 12 a) (hb : Txt1 0 12 b) : callN 1000 progL n "dots" [.str a, .str b] S = some (.tup ((rowsL a b).map .str), S) := by
  obtain ⟨m, rfl, hm⟩ := pos_n hn
  rw [callN_at fi_dots rfl]
  have k1 := check_two_ok (S := S) (n := m) (by omega) ha hb
  have k2 := raw_dots_ok (S := S) (n := m) (by omega) (a := a) (b := b) (by have := ha.le; omega) (by have := hb.le; omega)
  simp only [d_dots, k1, k2, eq_self, Bool.and_self, Bool.and_true, pb_non, pb_bl, pb_int, pb_str, pb_tup, pb_lv, pb_dv, pl_nil, pl_cons, pu_ints, pu_strs, pu_sgn, pu_nat, end_rt, end_nx, end_own, run, ev, evs, evT, evI, fin, Option.bind_some, Option.map_some, startE, List.map_cons, List.map_nil, List.length_cons, List.length_nil, List.cons_append, List.nil_append, List.replicate_succ, List.replicate_zero, Nat.reduceAdd, Nat.reduceSub, Nat.zero_add, List.getElem?_cons_zero, List.getElem?_cons_succ, List.set_cons_zero, List.set_cons_succ, wipeE, bindTg, setAll, cmpS, eq_ii, eq_ss, lt_ii, lt_ss, mem_s, p_add_i, p_sub_i, b_len_t, b_len_l, b_abs, b_int, b_tuple_l, b_list_t, b_list_l, m_count, i_tup, i_lv, atI_0, atI_1, atI_2, atI_3, atI_4, decide_eq_true_eq, Bool.not_true, Bool.not_false, Bool.false_eq_true, if_true, if_false, ite_true, ite_false, reduceIte, isNon, walkOf, walkS, isi_non_int, isi_non_str, isi_non_tuple, isi_non_list, isi_non_dict, isi_non_bool, isi_bl_int, isi_bl_str, isi_bl_tuple, isi_bl_list, isi_bl_dict, isi_bl_bool, isi_int_int, isi_int_str, isi_int_tuple, isi_int_list, isi_int_dict, isi_int_bool, isi_str_int, isi_str_str, isi_str_tuple, isi_str_list, isi_str_dict, isi_str_bool, isi_tup_int, isi_tup_str, isi_tup_tuple, isi_tup_list, isi_tup_dict, isi_tup_bool, isi_lv_int, isi_lv_str, isi_lv_tuple, isi_lv_list, isi_lv_dict, isi_lv_bool, isi_dv_int, isi_dv_str, isi_dv_tuple, isi_dv_list, isi_dv_dict, isi_dv_bool, isi_scr_int, isi_scr_str, isi_scr_tuple, isi_scr_list, isi_scr_dict, isi_scr_bool]
theorem all_dots_ok (hn : 1 ≤ n) {a b : List Nat} (ha : Txt1 0 12 a) (hb : Txt1 0 12 b) : callN 1000 progL n "all_dots" [.str a, .str b] S = some (.lv ((allD a b).map pairV), S) := by
  obtain ⟨m, rfl, hm⟩ := pos_n hn
  rw [callN_at fi_all_dots rfl]
  have hza := ll12 ha
  have hzb := ll12 hb
  have hra : rangeS [.int (a.length : Nat)] = some (intL 0 a.length) := by rw [range_1 (by have := ha.le; omega), Int.toNat_natCast]
  have hrb : rangeS [.int (b.length : Nat)] = some (intL 0 b.length) := by rw [range_1 (by have := hb.le; omega), Int.toNat_natCast]
  have l2 : (2 ≤ line) = True := le_line (by omega)
  have ef : ((List.range a.length).map fun i => (rowD a b i).map pairV).flatten = (allD a b).map pairV := by
    unfold allD
    rw [List.map_flatten, List.map_map]
    rfl
  have c1 : ev 1000 (callN 1000 progL m) d_all_dots_c1 [some (.str a), some (.str b), none, none] S = some (.lv ((allD a b).map pairV), S) := by
    have := lc2_fix (fu := 1000) (Φ := callN 1000 progL m) (elt := .tup (.cons (.var 2) (.cons (.var 3) .nil))) (g := .nm 2) (vs := [2, 3]) (it := .range (.cons (.blt .len false (.cons (.var 0) .nil)) .nil)) (c := .nil) (g1 := .nm 3) (vs1 := [3]) (it1 := .range (.cons (.blt .len false (.cons (.var 1) .nil)) .nil)) (c1 := .cons (.cmp .eq (.sub (.var 0) (.var 2)) (.sub (.var 1) (.var 3))) .nil) (S := S) (ρ := [some (.str a), some (.str b), none, none])
      (L := List.range a.length) (φ := fun i : Nat => .int (0 + (i : Int))) (fun i => (rowD a b i).map pairV) (by simp only [b_len_s hza, hra, intL, eq_self, Bool.and_self, Bool.and_true, pb_non, pb_bl, pb_int, pb_str, pb_tup, pb_lv, pb_dv, pl_nil, pl_cons, pu_ints, pu_strs, pu_sgn, pu_nat, end_rt, end_nx, end_own, run, ev, evs, evT, evI, fin, Option.bind_some, Option.map_some, startE, List.map_cons, List.map_nil, List.length_cons, List.length_nil, List.cons_append, List.nil_append, List.replicate_succ, List.replicate_zero, Nat.reduceAdd, Nat.reduceSub, Nat.zero_add, List.getElem?_cons_zero, List.getElem?_cons_succ, List.set_cons_zero, List.set_cons_succ, wipeE, bindTg, setAll, cmpS, eq_ii, eq_ss, lt_ii, lt_ss, mem_s, p_add_i, p_sub_i, b_len_t, b_len_l, b_abs, b_int, b_tuple_l, b_list_t, b_list_l, m_count, i_tup, i_lv, atI_0, atI_1, atI_2, atI_3, atI_4, decide_eq_true_eq, Bool.not_true, Bool.not_false, Bool.false_eq_true, if_true, if_false, ite_true, ite_false, reduceIte, isNon, walkOf, walkS, isi_non_int, isi_non_str, isi_non_tuple, isi_non_list, isi_non_dict, isi_non_bool, isi_bl_int, isi_bl_str, isi_bl_tuple, isi_bl_list, isi_bl_dict, isi_bl_bool, isi_int_int, isi_int_str, isi_int_tuple, isi_int_list, isi_int_dict, isi_int_bool, isi_str_int, isi_str_str, isi_str_tuple, isi_str_list, isi_str_dict, isi_str_bool, isi_tup_int, isi_tup_str, isi_tup_tuple, isi_tup_list, isi_tup_dict, isi_tup_bool, isi_lv_int, isi_lv_str, isi_lv_tuple, isi_lv_list, isi_lv_dict, isi_lv_bool, isi_dv_int, isi_dv_str, isi_dv_tuple, isi_dv_list, isi_dv_dict, isi_dv_bool, isi_scr_int, isi_scr_str, isi_scr_tuple, isi_scr_list, isi_scr_dict, isi_scr_bool]) (fun i hi => by
        have hi' := List.mem_range.mp hi
        have gi : itemS (.str a) (.int (i : Nat)) S = some (.str [a[i]?.getD 0]) := i_str_at hza (by rw [List.getElem?_eq_getElem hi']; rfl)
        have inner := runFix_filter (S := S) (f := turnF (.nm 3) [3] (evT 1000 (callN 1000 progL m) (.cons (.cmp .eq (.sub (.var 0) (.var 2)) (.sub (.var 1) (.var 3))) .nil)) (ev 1000 (callN 1000 progL m) (.tup (.cons (.var 2) (.cons (.var 3) .nil)))) [some (.str a), some (.str b), some (.int (i : Nat)), none])
          (φ := fun j : Nat => D.int (0 + (j : Int))) (p := fun j => decide (a[i]?.getD 0 = b[j]?.getD 0)) (g := fun j => pairV (i, j)) (L := List.range b.length) (fun j hj => by
            have hj' := List.mem_range.mp hj
            have gj : itemS (.str b) (.int (j : Nat)) S = some (.str [b[j]?.getD 0]) := i_str_at hzb (by rw [List.getElem?_eq_getElem hj']; rfl)
            by_cases e : a[i]?.getD 0 = b[j]?.getD 0
            · rw [e] at gi ⊢
              simp only [turnF, add0, gi, gj, l2, decide_true, eq_self, Bool.and_self, Bool.and_true, pb_non, pb_bl, pb_int, pb_str, pb_tup, pb_lv, pb_dv, pl_nil, pl_cons, pu_ints, pu_strs, pu_sgn, pu_nat, end_rt, end_nx, end_own, run, ev, evs, evT, evI, fin, Option.bind_some, Option.map_some, startE, List.map_cons, List.map_nil, List.length_cons, List.length_nil, List.cons_append, List.nil_append, List.replicate_succ, List.replicate_zero, Nat.reduceAdd, Nat.reduceSub, Nat.zero_add, List.getElem?_cons_zero, List.getElem?_cons_succ, List.set_cons_zero, List.set_cons_succ, wipeE, bindTg, setAll, cmpS, eq_ii, eq_ss, lt_ii, lt_ss, mem_s, p_add_i, p_sub_i, b_len_t, b_len_l, b_abs, b_int, b_tuple_l, b_list_t, b_list_l, m_count, i_tup, i_lv, atI_0, atI_1, atI_2, atI_3, atI_4, decide_eq_true_eq, Bool.not_true, Bool.not_false, Bool.false_eq_true, if_true, if_false, ite_true, ite_false, reduceIte, isNon, walkOf, walkS, isi_non_int, isi_non_str, isi_non_tuple, isi_non_list, isi_non_dict, isi_non_bool, isi_bl_int, isi_bl_str, isi_bl_tuple, isi_bl_list, isi_bl_dict, isi_bl_bool, isi_int_int, isi_int_str, isi_int_tuple, isi_int_list, isi_int_dict, isi_int_bool, isi_str_int, isi_str_str, isi_str_tuple, isi_str_list, isi_str_dict, isi_str_bool, isi_tup_int, isi_tup_str, isi_tup_tuple, isi_tup_list, isi_tup_dict, isi_tup_bool, isi_lv_int, isi_lv_str, isi_lv_tuple, isi_lv_list, isi_lv_dict, isi_lv_bool, isi_dv_int, isi_dv_str, isi_dv_tuple, isi_dv_list, isi_dv_dict, isi_dv_bool, isi_scr_int, isi_scr_str, isi_scr_tuple, isi_scr_list, isi_scr_dict, isi_scr_bool]
            · simp only [turnF, add0, gi, gj, List.cons.injEq, and_true, e, decide_false, eq_self, Bool.and_self, Bool.and_true, pb_non, pb_bl, pb_int, pb_str, pb_tup, pb_lv, pb_dv, pl_nil, pl_cons, pu_ints, pu_strs, pu_sgn, pu_nat, end_rt, end_nx, end_own, run, ev, evs, evT, evI, fin, Option.bind_some, Option.map_some, startE, List.map_cons, List.map_nil, List.length_cons, List.length_nil, List.cons_append, List.nil_append, List.replicate_succ, List.replicate_zero, Nat.reduceAdd, Nat.reduceSub, Nat.zero_add, List.getElem?_cons_zero, List.getElem?_cons_succ, List.set_cons_zero, List.set_cons_succ, wipeE, bindTg, setAll, cmpS, eq_ii, eq_ss, lt_ii, lt_ss, mem_s, p_add_i, p_sub_i, b_len_t, b_len_l, b_abs, b_int, b_tuple_l, b_list_t, b_list_l, m_count, i_tup, i_lv, atI_0, atI_1, atI_2, atI_3, atI_4, decide_eq_true_eq, Bool.not_true, Bool.not_false, Bool.false_eq_true, if_true, if_false, ite_true, ite_false, reduceIte, isNon, walkOf, walkS, isi_non_int, isi_non_str, isi_non_tuple, isi_non_list, isi_non_dict, isi_non_bool, isi_bl_int, isi_bl_str, isi_bl_tuple, isi_bl_list, isi_bl_dict, isi_bl_bool, isi_int_int, isi_int_str, isi_int_tuple, isi_int_list, isi_int_dict, isi_int_bool, isi_str_int, isi_str_str, isi_str_tuple, isi_str_list, isi_str_dict, isi_str_bool, isi_tup_int, isi_tup_str, isi_tup_tuple, isi_tup_list, isi_tup_dict, isi_tup_bool, isi_lv_int, isi_lv_str, isi_lv_tuple, isi_lv_list, isi_lv_dict, isi_lv_bool, isi_dv_int, isi_dv_str, isi_dv_tuple, isi_dv_list, isi_dv_dict, isi_dv_bool, isi_scr_int, isi_scr_str, isi_scr_tuple, isi_scr_list, isi_scr_dict, isi_scr_bool])
        have em : (rowD a b i).map pairV = ((List.range b.length).filter fun j => decide (a[i]?.getD 0 = b[j]?.getD 0)).map fun j => pairV (i, j) := by
          unfold rowD
          rw [List.map_map]
          rfl
        rw [em]
        refine turn2_go (ρ1 := [some (.str a), some (.str b), some (.int (i : Nat)), none]) ?_ rfl ?_ inner
        · simp only [add0, eq_self, Bool.and_self, Bool.and_true, pb_non, pb_bl, pb_int, pb_str, pb_tup, pb_lv, pb_dv, pl_nil, pl_cons, pu_ints, pu_strs, pu_sgn, pu_nat, end_rt, end_nx, end_own, run, ev, evs, evT, evI, fin, Option.bind_some, Option.map_some, startE, List.map_cons, List.map_nil, List.length_cons, List.length_nil, List.cons_append, List.nil_append, List.replicate_succ, List.replicate_zero, Nat.reduceAdd, Nat.reduceSub, Nat.zero_add, List.getElem?_cons_zero, List.getElem?_cons_succ, List.set_cons_zero, List.set_cons_succ, wipeE, bindTg, setAll, cmpS, eq_ii, eq_ss, lt_ii, lt_ss, mem_s, p_add_i, p_sub_i, b_len_t, b_len_l, b_abs, b_int, b_tuple_l, b_list_t, b_list_l, m_count, i_tup, i_lv, atI_0, atI_1, atI_2, atI_3, atI_4, decide_eq_true_eq, Bool.not_true, Bool.not_false, Bool.false_eq_true, if_true, if_false, ite_true, ite_false, reduceIte, isNon, walkOf, walkS, isi_non_int, isi_non_str, isi_non_tuple, isi_non_list, isi_non_dict, isi_non_bool, isi_bl_int, isi_bl_str, isi_bl_tuple, isi_bl_list, isi_bl_dict, isi_bl_bool, isi_int_int, isi_int_str, isi_int_tuple, isi_int_list, isi_int_dict, isi_int_bool, isi_str_int, isi_str_str, isi_str_tuple, isi_str_list, isi_str_dict, isi_str_bool, isi_tup_int, isi_tup_str, isi_tup_tuple, isi_tup_list, isi_tup_dict, isi_tup_bool, isi_lv_int, isi_lv_str, isi_lv_tuple, isi_lv_list, isi_lv_dict, isi_lv_bool, isi_dv_int, isi_dv_str, isi_dv_tuple, isi_dv_list, isi_dv_dict, isi_dv_bool, isi_scr_int, isi_scr_str, isi_scr_tuple, isi_scr_list, isi_scr_dict, isi_scr_bool]
        · simp only [b_len_s hzb, hrb, intL, eq_self, Bool.and_self, Bool.and_true, pb_non, pb_bl, pb_int, pb_str, pb_tup, pb_lv, pb_dv, pl_nil, pl_cons, pu_ints, pu_strs, pu_sgn, pu_nat, end_rt, end_nx, end_own, run, ev, evs, evT, evI, fin, Option.bind_some, Option.map_some, startE, List.map_cons, List.map_nil, List.length_cons, List.length_nil, List.cons_append, List.nil_append, List.replicate_succ, List.replicate_zero, Nat.reduceAdd, Nat.reduceSub, Nat.zero_add, List.getElem?_cons_zero, List.getElem?_cons_succ, List.set_cons_zero, List.set_cons_succ, wipeE, bindTg, setAll, cmpS, eq_ii, eq_ss, lt_ii, lt_ss, mem_s, p_add_i, p_sub_i, b_len_t, b_len_l, b_abs, b_int, b_tuple_l, b_list_t, b_list_l, m_count, i_tup, i_lv, atI_0, atI_1, atI_2, atI_3, atI_4, decide_eq_true_eq, Bool.not_true, Bool.not_false, Bool.false_eq_true, if_true, if_false, ite_true, ite_false, reduceIte, isNon, walkOf, walkS, isi_non_int, isi_non_str, isi_non_tuple, isi_non_list, isi_non_dict, isi_non_bool, isi_bl_int, isi_bl_str, isi_bl_tuple, isi_bl_list, isi_bl_dict, isi_bl_bool, isi_int_int, isi_int_str, isi_int_tuple, isi_int_list, isi_int_dict, isi_int_bool, isi_str_int, isi_str_str, isi_str_tuple, isi_str_list, isi_str_dict, isi_str_bool, isi_tup_int, isi_tup_str, isi_tup_tuple, isi_tup_list, isi_tup_dict, isi_tup_bool, isi_lv_int, isi_lv_str, isi_lv_tuple, isi_lv_list, isi_lv_dict, isi_lv_bool, isi_dv_int, isi_dv_str, isi_dv_tuple, isi_dv_list, isi_dv_dict, isi_dv_bool, isi_scr_int, isi_scr_str, isi_scr_tuple, isi_scr_list, isi_scr_dict, isi_scr_bool]) (by rw [ef, List.length_map]; exact ll (by have := allD_144 ha hb; omega))
    rw [ef] at this
    exact this
  simp only [d_all_dots, c1, eq_self, Bool.and_self, Bool.and_true, pb_non, pb_bl, pb_int, pb_str, pb_tup, pb_lv, pb_dv, pl_nil, pl_cons, pu_ints, pu_strs, pu_sgn, pu_nat, end_rt, end_nx, end_own, run, ev, evs, evT, evI, fin, Option.bind_some, Option.map_some, startE, List.map_cons, List.map_nil, List.length_cons, List.length_nil, List.cons_append, List.nil_append, List.replicate_succ, List.replicate_zero, Nat.reduceAdd, Nat.reduceSub, Nat.zero_add, List.getElem?_cons_zero, List.getElem?_cons_succ, List.set_cons_zero, List.set_cons_succ, wipeE, bindTg, setAll, cmpS, eq_ii, eq_ss, lt_ii, lt_ss, mem_s, p_add_i, p_sub_i, b_len_t, b_len_l, b_abs, b_int, b_tuple_l, b_list_t, b_list_l, m_count, i_tup, i_lv, atI_0, atI_1, atI_2, atI_3, atI_4, decide_eq_true_eq, Bool.not_true, Bool.not_false, Bool.false_eq_true, if_true, if_false, ite_true, ite_false, reduceIte, isNon, walkOf, walkS, isi_non_int, isi_non_str, isi_non_tuple, isi_non_list, isi_non_dict, isi_non_bool, isi_bl_int, isi_bl_str, isi_bl_tuple, isi_bl_list, isi_bl_dict, isi_bl_bool, isi_int_int, isi_int_str, isi_int_tuple, isi_int_list, isi_int_dict, isi_int_bool, isi_str_int, isi_str_str, isi_str_tuple, isi_str_list, isi_str_dict, isi_str_bool, isi_tup_int, isi_tup_str, isi_tup_tuple, isi_tup_list, isi_tup_dict, isi_tup_bool, isi_lv_int, isi_lv_str, isi_lv_tuple, isi_lv_list, isi_lv_dict, isi_lv_bool, isi_dv_int, isi_dv_str, isi_dv_tuple, isi_dv_list, isi_dv_dict, isi_dv_bool, isi_scr_int, isi_scr_str, isi_scr_tuple, isi_scr_list, isi_scr_dict, isi_scr_bool]
  exact end_rt (by rw [pb_lv]; exact pureL_map fun _ => rfl)
theorem dots_many_ok (hn : 6 ≤ n) {a b : List Nat} (ha : Txt1 0 12 a) (hb : Txt1 0 12 b) : callN 1000 progL n "dots_many" [.str a, .str b] S = some (.int ((allD a b).length : Nat), S) := by
  obtain ⟨m, rfl, hm⟩ := pos_n hn
  rw [callN_at fi_dots_many rfl]
  have k1 := check_two_ok (S := S) (n := m) (by omega) ha hb
  have k2 := all_dots_ok (S := S) (n := m) (by omega) ha hb
  simp only [d_dots_many, k1, k2, b_len_m, List.length_map, eq_self, Bool.and_self, Bool.and_true, pb_non, pb_bl, pb_int, pb_str, pb_tup, pb_lv, pb_dv, pl_nil, pl_cons, pu_ints, pu_strs, pu_sgn, pu_nat, end_rt, end_nx, end_own, run, ev, evs, evT, evI, fin, Option.bind_some, Option.map_some, startE, List.map_cons, List.map_nil, List.length_cons, List.length_nil, List.cons_append, List.nil_append, List.replicate_succ, List.replicate_zero, Nat.reduceAdd, Nat.reduceSub, Nat.zero_add, List.getElem?_cons_zero, List.getElem?_cons_succ, List.set_cons_zero, List.set_cons_succ, wipeE, bindTg, setAll, cmpS, eq_ii, eq_ss, lt_ii, lt_ss, mem_s, p_add_i, p_sub_i, b_len_t, b_len_l, b_abs, b_int, b_tuple_l, b_list_t, b_list_l, m_count, i_tup, i_lv, atI_0, atI_1, atI_2, atI_3, atI_4, decide_eq_true_eq, Bool.not_true, Bool.not_false, Bool.false_eq_true, if_true, if_false, ite_true, ite_false, reduceIte, isNon, walkOf, walkS, isi_non_int, isi_non_str, isi_non_tuple, isi_non_list, isi_non_dict, isi_non_bool, isi_bl_int, isi_bl_str, isi_bl_tuple, isi_bl_list, isi_bl_dict, isi_bl_bool, isi_int_int, isi_int_str, isi_int_tuple, isi_int_list, isi_int_dict, isi_int_bool, isi_str_int, isi_str_str, isi_str_tuple, isi_str_list, isi_str_dict, isi_str_bool, isi_tup_int, isi_tup_str, isi_tup_tuple, isi_tup_list, isi_tup_dict, isi_tup_bool, isi_lv_int, isi_lv_str, isi_lv_tuple, isi_lv_list, isi_lv_dict, isi_lv_bool, isi_dv_int, isi_dv_str, isi_dv_tuple, isi_dv_list, isi_dv_dict, isi_dv_bool, isi_scr_int, isi_scr_str, isi_scr_tuple, isi_scr_list, isi_scr_dict, isi_scr_bool]
theorem is_dot_ok (hn : 1 ≤ n) {a b : List Nat} (ha : Txt1 0 12 a) (hb : Txt1 0 12 b) (i j : Int) : callN 1000 progL n "is_dot" [.str a, .str b, .int i, .int j] S = some (.bl (dotB a b i j), S) := by
  obtain ⟨m, rfl, hm⟩ := pos_n hn
  rw [callN_at fi_is_dot rfl]
  have hza := ll12 ha
  have hzb := ll12 hb
  unfold dotB
  by_cases h1 : i < 0
  · have h1' : ¬ 0 ≤ i := by omega
    simp only [d_is_dot, h1, h1', false_and, decide_true, decide_false, eq_self, Bool.and_self, Bool.and_true, pb_non, pb_bl, pb_int, pb_str, pb_tup, pb_lv, pb_dv, pl_nil, pl_cons, pu_ints, pu_strs, pu_sgn, pu_nat, end_rt, end_nx, end_own, run, ev, evs, evT, evI, fin, Option.bind_some, Option.map_some, startE, List.map_cons, List.map_nil, List.length_cons, List.length_nil, List.cons_append, List.nil_append, List.replicate_succ, List.replicate_zero, Nat.reduceAdd, Nat.reduceSub, Nat.zero_add, List.getElem?_cons_zero, List.getElem?_cons_succ, List.set_cons_zero, List.set_cons_succ, wipeE, bindTg, setAll, cmpS, eq_ii, eq_ss, lt_ii, lt_ss, mem_s, p_add_i, p_sub_i, b_len_t, b_len_l, b_abs, b_int, b_tuple_l, b_list_t, b_list_l, m_count, i_tup, i_lv, atI_0, atI_1, atI_2, atI_3, atI_4, decide_eq_true_eq, Bool.not_true, Bool.not_false, Bool.false_eq_true, if_true, if_false, ite_true, ite_false, reduceIte, isNon, walkOf, walkS, isi_non_int, isi_non_str, isi_non_tuple, isi_non_list, isi_non_dict, isi_non_bool, isi_bl_int, isi_bl_str, isi_bl_tuple, isi_bl_list, isi_bl_dict, isi_bl_bool, isi_int_int, isi_int_str, isi_int_tuple, isi_int_list, isi_int_dict, isi_int_bool, isi_str_int, isi_str_str, isi_str_tuple, isi_str_list, isi_str_dict, isi_str_bool, isi_tup_int, isi_tup_str, isi_tup_tuple, isi_tup_list, isi_tup_dict, isi_tup_bool, isi_lv_int, isi_lv_str, isi_lv_tuple, isi_lv_list, isi_lv_dict, isi_lv_bool, isi_dv_int, isi_dv_str, isi_dv_tuple, isi_dv_list, isi_dv_dict, isi_dv_bool, isi_scr_int, isi_scr_str, isi_scr_tuple, isi_scr_list, isi_scr_dict, isi_scr_bool]
  · by_cases h2 : i < (a.length : Nat)
    · by_cases h3 : j < 0
      · have h3' : ¬ 0 ≤ j := by omega
        simp only [d_is_dot, b_len_s hza, h1, h2, h3, h3', false_and, and_false, decide_true, decide_false, eq_self, Bool.and_self, Bool.and_true, pb_non, pb_bl, pb_int, pb_str, pb_tup, pb_lv, pb_dv, pl_nil, pl_cons, pu_ints, pu_strs, pu_sgn, pu_nat, end_rt, end_nx, end_own, run, ev, evs, evT, evI, fin, Option.bind_some, Option.map_some, startE, List.map_cons, List.map_nil, List.length_cons, List.length_nil, List.cons_append, List.nil_append, List.replicate_succ, List.replicate_zero, Nat.reduceAdd, Nat.reduceSub, Nat.zero_add, List.getElem?_cons_zero, List.getElem?_cons_succ, List.set_cons_zero, List.set_cons_succ, wipeE, bindTg, setAll, cmpS, eq_ii, eq_ss, lt_ii, lt_ss, mem_s, p_add_i, p_sub_i, b_len_t, b_len_l, b_abs, b_int, b_tuple_l, b_list_t, b_list_l, m_count, i_tup, i_lv, atI_0, atI_1, atI_2, atI_3, atI_4, decide_eq_true_eq, Bool.not_true, Bool.not_false, Bool.false_eq_true, if_true, if_false, ite_true, ite_false, reduceIte, isNon, walkOf, walkS, isi_non_int, isi_non_str, isi_non_tuple, isi_non_list, isi_non_dict, isi_non_bool, isi_bl_int, isi_bl_str, isi_bl_tuple, isi_bl_list, isi_bl_dict, isi_bl_bool, isi_int_int, isi_int_str, isi_int_tuple, isi_int_list, isi_int_dict, isi_int_bool, isi_str_int, isi_str_str, isi_str_tuple, isi_str_list, isi_str_dict, isi_str_bool, isi_tup_int, isi_tup_str, isi_tup_tuple, isi_tup_list, isi_tup_dict, isi_tup_bool, isi_lv_int, isi_lv_str, isi_lv_tuple, isi_lv_list, isi_lv_dict, isi_lv_bool, isi_dv_int, isi_dv_str, isi_dv_tuple, isi_dv_list, isi_dv_dict, isi_dv_bool, isi_scr_int, isi_scr_str, isi_scr_tuple, isi_scr_list, isi_scr_dict, isi_scr_bool]
      · by_cases h4 : j < (b.length : Nat)
        · have h1' : 0 ≤ i := by omega
          have h3' : 0 ≤ j := by omega
          have ei : ((i.toNat : Nat) : Int) = i := by omega
          have ej : ((j.toNat : Nat) : Int) = j := by omega
          have gi : itemS (.str a) (.int i) S = some (.str [a[i.toNat]?.getD 0]) := by
            rw [← ei]
            exact i_str_at hza (by rw [Int.toNat_natCast, List.getElem?_eq_getElem (by omega)]; rfl)
          have gj : itemS (.str b) (.int j) S = some (.str [b[j.toNat]?.getD 0]) := by
            rw [← ej]
            exact i_str_at hzb (by rw [Int.toNat_natCast, List.getElem?_eq_getElem (by omega)]; rfl)
          simp only [d_is_dot, b_len_s hza, b_len_s hzb, h1, h2, h3, h4, h1', h3', gi, gj, List.cons.injEq, true_and, and_true, decide_true, decide_false, eq_self, Bool.and_self, Bool.and_true, pb_non, pb_bl, pb_int, pb_str, pb_tup, pb_lv, pb_dv, pl_nil, pl_cons, pu_ints, pu_strs, pu_sgn, pu_nat, end_rt, end_nx, end_own, run, ev, evs, evT, evI, fin, Option.bind_some, Option.map_some, startE, List.map_cons, List.map_nil, List.length_cons, List.length_nil, List.cons_append, List.nil_append, List.replicate_succ, List.replicate_zero, Nat.reduceAdd, Nat.reduceSub, Nat.zero_add, List.getElem?_cons_zero, List.getElem?_cons_succ, List.set_cons_zero, List.set_cons_succ, wipeE, bindTg, setAll, cmpS, eq_ii, eq_ss, lt_ii, lt_ss, mem_s, p_add_i, p_sub_i, b_len_t, b_len_l, b_abs, b_int, b_tuple_l, b_list_t, b_list_l, m_count, i_tup, i_lv, atI_0, atI_1, atI_2, atI_3, atI_4, decide_eq_true_eq, Bool.not_true, Bool.not_false, Bool.false_eq_true, if_true, if_false, ite_true, ite_false, reduceIte, isNon, walkOf, walkS, isi_non_int, isi_non_str, isi_non_tuple, isi_non_list, isi_non_dict, isi_non_bool, isi_bl_int, isi_bl_str, isi_bl_tuple, isi_bl_list, isi_bl_dict, isi_bl_bool, isi_int_int, isi_int_str, isi_int_tuple, isi_int_list, isi_int_dict, isi_int_bool, isi_str_int, isi_str_str, isi_str_tuple, isi_str_list, isi_str_dict, isi_str_bool, isi_tup_int, isi_tup_str, isi_tup_tuple, isi_tup_list, isi_tup_dict, isi_tup_bool, isi_lv_int, isi_lv_str, isi_lv_tuple, isi_lv_list, isi_lv_dict, isi_lv_bool, isi_dv_int, isi_dv_str, isi_dv_tuple, isi_dv_list, isi_dv_dict, isi_dv_bool, isi_scr_int, isi_scr_str, isi_scr_tuple, isi_scr_list, isi_scr_dict, isi_scr_bool]
        · simp only [d_is_dot, b_len_s hza, b_len_s hzb, h1, h2, h3, h4, false_and, and_false, decide_true, decide_false, eq_self, Bool.and_self, Bool.and_true, pb_non, pb_bl, pb_int, pb_str, pb_tup, pb_lv, pb_dv, pl_nil, pl_cons, pu_ints, pu_strs, pu_sgn, pu_nat, end_rt, end_nx, end_own, run, ev, evs, evT, evI, fin, Option.bind_some, Option.map_some, startE, List.map_cons, List.map_nil, List.length_cons, List.length_nil, List.cons_append, List.nil_append, List.replicate_succ, List.replicate_zero, Nat.reduceAdd, Nat.reduceSub, Nat.zero_add, List.getElem?_cons_zero, List.getElem?_cons_succ, List.set_cons_zero, List.set_cons_succ, wipeE, bindTg, setAll, cmpS, eq_ii, eq_ss, lt_ii, lt_ss, mem_s, p_add_i, p_sub_i, b_len_t, b_len_l, b_abs, b_int, b_tuple_l, b_list_t, b_list_l, m_count, i_tup, i_lv, atI_0, atI_1, atI_2, atI_3, atI_4, decide_eq_true_eq, Bool.not_true, Bool.not_false, Bool.false_eq_true, if_true, if_false, ite_true, ite_false, reduceIte, isNon, walkOf, walkS, isi_non_int, isi_non_str, isi_non_tuple, isi_non_list, isi_non_dict, isi_non_bool, isi_bl_int, isi_bl_str, isi_bl_tuple, isi_bl_list, isi_bl_dict, isi_bl_bool, isi_int_int, isi_int_str, isi_int_tuple, isi_int_list, isi_int_dict, isi_int_bool, isi_str_int, isi_str_str, isi_str_tuple, isi_str_list, isi_str_dict, isi_str_bool, isi_tup_int, isi_tup_str, isi_tup_tuple, isi_tup_list, isi_tup_dict, isi_tup_bool, isi_lv_int, isi_lv_str, isi_lv_tuple, isi_lv_list, isi_lv_dict, isi_lv_bool, isi_dv_int, isi_dv_str, isi_dv_tuple, isi_dv_list, isi_dv_dict, isi_dv_bool, isi_scr_int, isi_scr_str, isi_scr_tuple, isi_scr_list, isi_scr_dict, isi_scr_bool]
    · simp only [d_is_dot, b_len_s hza, h1, h2, false_and, and_false, decide_true, decide_false, eq_self, Bool.and_self, Bool.and_true, pb_non, pb_bl, pb_int, pb_str, pb_tup, pb_lv, pb_dv, pl_nil, pl_cons, pu_ints, pu_strs, pu_sgn, pu_nat, end_rt, end_nx, end_own, run, ev, evs, evT, evI, fin, Option.bind_some, Option.map_some, startE, List.map_cons, List.map_nil, List.length_cons, List.length_nil, List.cons_append, List.nil_append, List.replicate_succ, List.replicate_zero, Nat.reduceAdd, Nat.reduceSub, Nat.zero_add, List.getElem?_cons_zero, List.getElem?_cons_succ, List.set_cons_zero, List.set_cons_succ, wipeE, bindTg, setAll, cmpS, eq_ii, eq_ss, lt_ii, lt_ss, mem_s, p_add_i, p_sub_i, b_len_t, b_len_l, b_abs, b_int, b_tuple_l, b_list_t, b_list_l, m_count, i_tup, i_lv, atI_0, atI_1, atI_2, atI_3, atI_4, decide_eq_true_eq, Bool.not_true, Bool.not_false, Bool.false_eq_true, if_true, if_false, ite_true, ite_false, reduceIte, isNon, walkOf, walkS, isi_non_int, isi_non_str, isi_non_tuple, isi_non_list, isi_non_dict, isi_non_bool, isi_bl_int, isi_bl_str, isi_bl_tuple, isi_bl_list, isi_bl_dict, isi_bl_bool, isi_int_int, isi_int_str, isi_int_tuple, isi_int_list, isi_int_dict, isi_int_bool, isi_str_int, isi_str_str, isi_str_tuple, isi_str_list, isi_str_dict, isi_str_bool, isi_tup_int, isi_tup_str, isi_tup_tuple, isi_tup_list, isi_tup_dict, isi_tup_bool, isi_lv_int, isi_lv_str, isi_lv_tuple, isi_lv_list, isi_lv_dict, isi_lv_bool, isi_dv_int, isi_dv_str, isi_dv_tuple, isi_dv_list, isi_dv_dict, isi_dv_bool, isi_scr_int, isi_scr_str, isi_scr_tuple, isi_scr_list, isi_scr_dict, isi_scr_bool]
end
end Pd

namespace Pd
open PySem PySem.Spec PyProof.Rows L2
/-! ### how many hold, one behind another -/
def lenP (p : Nat → Bool) (n : Nat) : Nat := ((List.range n).takeWhile p).length
theorem lenP_le (p : Nat → Bool) (n : Nat) : lenP p n ≤ n := by
  have := List.Sublist.length_le (List.takeWhile_sublist (p := p) (l := List.range n))
  rwa [List.length_range] at this
theorem takeWhile_at {α : Type} {p : α → Bool} : ∀ {l : List α} {i : Nat} {x : α}, l[i]? = some x → i < (l.takeWhile p).length → p x = true
  | [], i, x, h, _ => by simp at h
  | y :: l, i, x, h, hi => by
    rw [List.takeWhile_cons] at hi
    split at hi
    · rename_i hy
      cases i with
      | zero => cases h; exact hy
      | succ i => exact takeWhile_at (l := l) (by simpa using h) (by simpa using hi)
    · simp at hi
theorem takeWhile_end {α : Type} {p : α → Bool} : ∀ {l : List α} {x : α}, l[(l.takeWhile p).length]? = some x → p x = false
  | [], x, h => by simp at h
  | y :: l, x, h => by
    rw [List.takeWhile_cons] at h
    split at h
    · exact takeWhile_end (l := l) (by simpa using h)
    · rename_i hy
      simp only [List.length_nil, List.getElem?_cons_zero, Option.some.injEq] at h
      subst h
      simpa using hy
theorem lenP_lt {p : Nat → Bool} {n i : Nat} (h : i < lenP p n) : p i = true :=
  takeWhile_at (l := List.range n) (List.getElem?_range (Nat.lt_of_lt_of_le h (lenP_le p n))) h
theorem lenP_end {p : Nat → Bool} {n : Nat} (h : lenP p n < n) : p (lenP p n) = false := takeWhile_end (l := List.range n) (List.getElem?_range h)
/-! ### least by a measure -/
def minBy {β : Type} (κ : β → Int) (x : β) (xs : List β) : β := xs.foldl (fun a y => if κ y < κ a then y else a) x
theorem minBy_mem {β : Type} (κ : β → Int) : ∀ (xs : List β) (x : β), minBy κ x xs ∈ x :: xs
  | [], x => List.mem_cons_self
  | y :: xs, x => by
    have := minBy_mem κ xs (if κ y < κ x then y else x)
    show List.foldl _ (if κ y < κ x then y else x) xs ∈ _
    rcases List.mem_cons.mp this with h | h
    · unfold minBy at h
      rw [h]
      split
      · exact List.mem_cons_of_mem _ List.mem_cons_self
      · exact List.mem_cons_self
    · exact List.mem_cons_of_mem _ (List.mem_cons_of_mem _ h)
theorem minBy_le {β : Type} (κ : β → Int) : ∀ (xs : List β) (x : β), ∀ y ∈ x :: xs, κ (minBy κ x xs) ≤ κ y
  | [], x, y, h => by rw [List.mem_singleton.mp h]; exact Int.le_refl _
  | z :: xs, x, y, h => by
    have ih := minBy_le κ xs (if κ z < κ x then z else x)
    show κ (List.foldl _ (if κ z < κ x then z else x) xs) ≤ _
    have h0 := ih _ List.mem_cons_self
    unfold minBy at ih h0
    rcases List.mem_cons.mp h with rfl | h
    · refine Int.le_trans h0 ?_
      split <;> omega
    · rcases List.mem_cons.mp h with rfl | h
      · refine Int.le_trans h0 ?_
        split <;> omega
      · exact ih _ (List.mem_cons_of_mem _ h)
theorem minBy_is {β : Type} {κ : β → Int} {x z : β} {xs : List β} (hz : z ∈ x :: xs) (hm : ∀ y ∈ x :: xs, κ z ≤ κ y) (hi : ∀ y ∈ x :: xs, κ y = κ z → y = z) : minBy κ x xs = z :=
  hi _ (minBy_mem κ xs x) (Int.le_antisymm (minBy_le κ xs x z hz) (hm _ (minBy_mem κ xs x)))
theorem minL_map {β : Type} {φ : β → D} {κ : β → Int} : ∀ {xs : List β} {x : β}, (∀ y ∈ x :: xs, ∀ z ∈ x :: xs, PySem.W.dataLt (py (φ y)) (py (φ z)) = decide (κ y < κ z)) → minL (φ x) (xs.map φ) = φ (minBy κ x xs)
  | [], x, _ => rfl
  | y :: xs, x, h => by
    have e := h y (List.mem_cons_of_mem _ List.mem_cons_self) x List.mem_cons_self
    show List.foldl _ (if PySem.W.dataLt (py (φ y)) (py (φ x)) = true then φ y else φ x) (xs.map φ) = φ (List.foldl _ (if κ y < κ x then y else x) xs)
    rw [e]
    have ih := minL_map (φ := φ) (κ := κ) (xs := xs) (x := if κ y < κ x then y else x) fun a ha b hb => h a (by
      rcases List.mem_cons.mp ha with rfl | ha
      · split
        · exact List.mem_cons_of_mem _ List.mem_cons_self
        · exact List.mem_cons_self
      · exact List.mem_cons_of_mem _ (List.mem_cons_of_mem _ ha)) b (by
      rcases List.mem_cons.mp hb with rfl | hb
      · split
        · exact List.mem_cons_of_mem _ List.mem_cons_self
        · exact List.mem_cons_self
      · exact List.mem_cons_of_mem _ (List.mem_cons_of_mem _ hb))
    unfold minL minBy at ih
    rw [← ih]
    by_cases q : κ y < κ x
    · rw [if_pos q, if_pos (decide_eq_true q)]
    · rw [if_neg q, if_neg (by simpa using q)]
/-! ### slants -/
def slen (a b : List Nat) (i j : Nat) (w : Int) : Nat := lenP (fun k => dotB a b ((i : Int) + (k : Int)) ((j : Int) + w * (k : Int))) 13
theorem slen_le {a b : List Nat} (ha : a.length ≤ 12) (i j : Nat) (w : Int) : slen a b i j w ≤ 12 := by
  unfold slen
  rcases Nat.lt_or_ge (lenP (fun k => dotB a b ((i : Int) + (k : Int)) ((j : Int) + w * (k : Int))) 13) 13 with h | h
  · omega
  · have := lenP_lt (p := fun k => dotB a b ((i : Int) + (k : Int)) ((j : Int) + w * (k : Int))) (n := 13) (i := 12) (by omega)
    simp only [dotB, decide_eq_true_eq] at this
    omega
abbrev Tri := Nat × Nat × Nat
def slAt (a b : List Nat) (w : Int) (p : Nat × Nat) : Option Tri :=
  if dotB a b ((p.1 : Int) - 1) ((p.2 : Int) - w) then none else if 2 ≤ slen a b p.1 p.2 w then some (p.1, p.2, slen a b p.1 p.2 w) else none
def slantsL (a b : List Nat) (w : Int) : List Tri := (allD a b).filterMap (slAt a b w)
abbrev triV (t : Tri) : D := .tup [.int (t.1 : Nat), .int (t.2.1 : Nat), .int (t.2.2 : Nat)]
section
variable {n : Nat} {S : Store}
theorem p_mul_ij {i j : Int} (h : i.natAbs ≤ 100 ) : opS .mul (.int i) (.int j) S = some (.val (.int (i * j))) := p_mul_i (.inl (by omega))
theorem slant_length_ok (hn : 2 ≤ n) {a b : List Nat} (ha : Txt1 0 12 a) (hb : Txt1 0 12 b) (i j : Nat) {w : Int} (hw : w.natAbs ≤ 100) : callN 1000 progL n "slant_length" [.str a, .str b, pairV (i, j), .int w] S = some (.int (slen a b i j w : Nat), S) := by
  obtain ⟨m, rfl, hm⟩ := pos_n hn
  rw [callN_at fi_slant_length rfl]
  have hle := slen_le (a := a) (b := b) ha.le i j w
  have cond : ∀ k : Nat, ev 1000 (callN 1000 progL m) (.call "is_dot" (.cons (.var 0) (.cons (.var 1) (.cons (.op .add (.var 5) (.var 4)) (.cons (d_slant_length_o1) .nil))))) [some (.str a), some (.str b), some (pairV (i, j)), some (.int w), some (.int (k : Nat)), some (.int (i : Nat)), some (.int (j : Nat))] S = some (.bl (dotB a b ((i : Int) + (k : Int)) ((j : Int) + w * (k : Int))), S) := fun k => by
    have k1 := is_dot_ok (S := S) (n := m) (by omega) ha hb ((i : Int) + (k : Int)) ((j : Int) + w * (k : Int))
    have hmul := p_mul_ij (S := S) (j := (k : Int)) hw
    simp only [d_slant_length_o1, k1, hmul, eq_self, Bool.and_self, Bool.and_true, pb_non, pb_bl, pb_int, pb_str, pb_tup, pb_lv, pb_dv, pl_nil, pl_cons, pu_ints, pu_strs, pu_sgn, pu_nat, end_rt, end_nx, end_own, run, ev, evs, evT, evI, fin, Option.bind_some, Option.map_some, startE, List.map_cons, List.map_nil, List.length_cons, List.length_nil, List.cons_append, List.nil_append, List.replicate_succ, List.replicate_zero, Nat.reduceAdd, Nat.reduceSub, Nat.zero_add, List.getElem?_cons_zero, List.getElem?_cons_succ, List.set_cons_zero, List.set_cons_succ, wipeE, bindTg, setAll, cmpS, eq_ii, eq_ss, lt_ii, lt_ss, mem_s, p_add_i, p_sub_i, b_len_t, b_len_l, b_abs, b_int, b_tuple_l, b_list_t, b_list_l, m_count, i_tup, i_lv, atI_0, atI_1, atI_2, atI_3, atI_4, decide_eq_true_eq, Bool.not_true, Bool.not_false, Bool.false_eq_true, if_true, if_false, ite_true, ite_false, reduceIte, isNon, walkOf, walkS, isi_non_int, isi_non_str, isi_non_tuple, isi_non_list, isi_non_dict, isi_non_bool, isi_bl_int, isi_bl_str, isi_bl_tuple, isi_bl_list, isi_bl_dict, isi_bl_bool, isi_int_int, isi_int_str, isi_int_tuple, isi_int_list, isi_int_dict, isi_int_bool, isi_str_int, isi_str_str, isi_str_tuple, isi_str_list, isi_str_dict, isi_str_bool, isi_tup_int, isi_tup_str, isi_tup_tuple, isi_tup_list, isi_tup_dict, isi_tup_bool, isi_lv_int, isi_lv_str, isi_lv_tuple, isi_lv_list, isi_lv_dict, isi_lv_bool, isi_dv_int, isi_dv_str, isi_dv_tuple, isi_dv_list, isi_dv_dict, isi_dv_bool, isi_scr_int, isi_scr_str, isi_scr_tuple, isi_scr_list, isi_scr_dict, isi_scr_bool]
  have hw' := whl_run0 (fu := 1000) (Φ := callN 1000 progL m) (c := .call "is_dot" (.cons (.var 0) (.cons (.var 1) (.cons (.op .add (.var 5) (.var 4)) (.cons (d_slant_length_o1) .nil))))) (b := d_slant_length_b1) (S := S)
    (ρ := fun k : Nat => [some (.str a), some (.str b), some (pairV (i, j)), some (.int w), some (.int (k : Nat)), some (.int (i : Nat)), some (.int (j : Nat))]) (k := slen a b i j w) (fun k hk => by rw [cond k]; rw [lenP_lt hk]) (fun k hk => by
      have e3 : ((k : Nat) : Int) + 1 = ((k + 1 : Nat) : Int) := by omega
      simp only [d_slant_length_b1, augOk, e3, eq_self, Bool.and_self, Bool.and_true, pb_non, pb_bl, pb_int, pb_str, pb_tup, pb_lv, pb_dv, pl_nil, pl_cons, pu_ints, pu_strs, pu_sgn, pu_nat, end_rt, end_nx, end_own, run, ev, evs, evT, evI, fin, Option.bind_some, Option.map_some, startE, List.map_cons, List.map_nil, List.length_cons, List.length_nil, List.cons_append, List.nil_append, List.replicate_succ, List.replicate_zero, Nat.reduceAdd, Nat.reduceSub, Nat.zero_add, List.getElem?_cons_zero, List.getElem?_cons_succ, List.set_cons_zero, List.set_cons_succ, wipeE, bindTg, setAll, cmpS, eq_ii, eq_ss, lt_ii, lt_ss, mem_s, p_add_i, p_sub_i, b_len_t, b_len_l, b_abs, b_int, b_tuple_l, b_list_t, b_list_l, m_count, i_tup, i_lv, atI_0, atI_1, atI_2, atI_3, atI_4, decide_eq_true_eq, Bool.not_true, Bool.not_false, Bool.false_eq_true, if_true, if_false, ite_true, ite_false, reduceIte, isNon, walkOf, walkS, isi_non_int, isi_non_str, isi_non_tuple, isi_non_list, isi_non_dict, isi_non_bool, isi_bl_int, isi_bl_str, isi_bl_tuple, isi_bl_list, isi_bl_dict, isi_bl_bool, isi_int_int, isi_int_str, isi_int_tuple, isi_int_list, isi_int_dict, isi_int_bool, isi_str_int, isi_str_str, isi_str_tuple, isi_str_list, isi_str_dict, isi_str_bool, isi_tup_int, isi_tup_str, isi_tup_tuple, isi_tup_list, isi_tup_dict, isi_tup_bool, isi_lv_int, isi_lv_str, isi_lv_tuple, isi_lv_list, isi_lv_dict, isi_lv_bool, isi_dv_int, isi_dv_str, isi_dv_tuple, isi_dv_list, isi_dv_dict, isi_dv_bool, isi_scr_int, isi_scr_str, isi_scr_tuple, isi_scr_list, isi_scr_dict, isi_scr_bool]) (by
      have he : dotB a b ((i : Int) + ((slen a b i j w : Nat) : Int)) ((j : Int) + w * ((slen a b i j w : Nat) : Int)) = false := lenP_end (p := fun k => dotB a b ((i : Int) + (k : Int)) ((j : Int) + w * (k : Int))) (n := 13) (by show slen a b i j w < 13; omega)
      rw [cond, he]) (by omega)
  show (run 1000 (callN 1000 progL m) (.seq _ (.seq _ (.seq _ _))) [some (.str a), some (.str b), some (pairV (i, j)), some (.int w), none, none, none] S).bind (endC false _) = _
  rw [run_seq (ρ1 := [some (.str a), some (.str b), some (pairV (i, j)), some (.int w), none, some (.int (i : Nat)), some (.int (j : Nat))]) rfl, run_seq (ρ1 := [some (.str a), some (.str b), some (pairV (i, j)), some (.int w), some (.int ((0 : Nat) : Int)), some (.int (i : Nat)), some (.int (j : Nat))]) rfl, run_seq hw']
  exact end_rt (pb_int _)
theorem slantsL_take {a b : List Nat} {w : Int} {k : Nat} {p : Nat × Nat} (h : (allD a b)[k]? = some p) : ((allD a b).take (k + 1)).filterMap (slAt a b w) = ((allD a b).take k).filterMap (slAt a b w) ++ (slAt a b w p).toList := by
  rw [List.take_add_one, List.filterMap_append, h]
  cases e : slAt a b w p <;> simp [e]
theorem slantsL_len {a b : List Nat} (ha : Txt1 0 12 a) (hb : Txt1 0 12 b) (w : Int) (k : Nat) : (((allD a b).take k).filterMap (slAt a b w)).length ≤ 144 := by
  have h1 := List.length_filterMap_le (slAt a b w) ((allD a b).take k)
  have h2 := allD_144 ha hb
  rw [List.length_take] at h1
  omega
theorem raw_slants_step {m : Nat} (hm : 2 ≤ m) {a b : List Nat} (ha : Txt1 0 12 a) (hb : Txt1 0 12 b) {w : Int} (hw : w.natAbs ≤ 100) {k : Nat} {p : Nat × Nat} (hk : (allD a b)[k]? = some p) (x6 : Option D) :
    ∃ x6', run 1000 (callN 1000 progL m) d_raw_slants_b1 [some (.str a), some (.str b), some (.int w), some (.lv ((((allD a b).take k).filterMap (slAt a b w)).map triV)), some (.int (p.1 : Nat)), some (.int (p.2 : Nat)), x6] S =
      some (.nx [some (.str a), some (.str b), some (.int w), some (.lv ((((allD a b).take (k + 1)).filterMap (slAt a b w)).map triV)), some (.int (p.1 : Nat)), some (.int (p.2 : Nat)), x6'], S) := by
  have k1 := is_dot_ok (S := S) (n := m) (by omega) ha hb ((p.1 : Int) - 1) ((p.2 : Int) - w)
  have k2 := slant_length_ok (S := S) (n := m) hm ha hb p.1 p.2 hw
  have hl := slantsL_len ha hb w k
  rw [slantsL_take hk, List.map_append]
  have l2 : (2 ≤ line) = True := le_line (by omega)
  have l3 : (3 ≤ line) = True := le_line (by omega)
  have l1 : (1 ≤ line) = True := le_line (by omega)
  have l0 : (0 ≤ line) = True := le_line (by omega)
  cases hd : dotB a b ((p.1 : Int) - 1) ((p.2 : Int) - w) with
  | true =>
    rw [hd] at k1
    refine ⟨x6, ?_⟩
    have e : slAt a b w p = none := by unfold slAt; rw [if_pos hd]
    rw [e]
    simp only [d_raw_slants_b1, k1, Option.toList, List.append_nil, eq_self, Bool.and_self, Bool.and_true, pb_non, pb_bl, pb_int, pb_str, pb_tup, pb_lv, pb_dv, pl_nil, pl_cons, pu_ints, pu_strs, pu_sgn, pu_nat, end_rt, end_nx, end_own, run, ev, evs, evT, evI, fin, Option.bind_some, Option.map_some, startE, List.map_cons, List.map_nil, List.length_cons, List.length_nil, List.cons_append, List.nil_append, List.replicate_succ, List.replicate_zero, Nat.reduceAdd, Nat.reduceSub, Nat.zero_add, List.getElem?_cons_zero, List.getElem?_cons_succ, List.set_cons_zero, List.set_cons_succ, wipeE, bindTg, setAll, cmpS, eq_ii, eq_ss, lt_ii, lt_ss, mem_s, p_add_i, p_sub_i, b_len_t, b_len_l, b_abs, b_int, b_tuple_l, b_list_t, b_list_l, m_count, i_tup, i_lv, atI_0, atI_1, atI_2, atI_3, atI_4, decide_eq_true_eq, Bool.not_true, Bool.not_false, Bool.false_eq_true, if_true, if_false, ite_true, ite_false, reduceIte, isNon, walkOf, walkS, isi_non_int, isi_non_str, isi_non_tuple, isi_non_list, isi_non_dict, isi_non_bool, isi_bl_int, isi_bl_str, isi_bl_tuple, isi_bl_list, isi_bl_dict, isi_bl_bool, isi_int_int, isi_int_str, isi_int_tuple, isi_int_list, isi_int_dict, isi_int_bool, isi_str_int, isi_str_str, isi_str_tuple, isi_str_list, isi_str_dict, isi_str_bool, isi_tup_int, isi_tup_str, isi_tup_tuple, isi_tup_list, isi_tup_dict, isi_tup_bool, isi_lv_int, isi_lv_str, isi_lv_tuple, isi_lv_list, isi_lv_dict, isi_lv_bool, isi_dv_int, isi_dv_str, isi_dv_tuple, isi_dv_list, isi_dv_dict, isi_dv_bool, isi_scr_int, isi_scr_str, isi_scr_tuple, isi_scr_list, isi_scr_dict, isi_scr_bool]
  | false =>
    rw [hd] at k1
    refine ⟨some (.int (slen a b p.1 p.2 w : Nat)), ?_⟩
    by_cases h2 : 2 ≤ slen a b p.1 p.2 w
    · have e : slAt a b w p = some (p.1, p.2, slen a b p.1 p.2 w) := by unfold slAt; rw [if_neg (by rw [hd]; exact Bool.false_ne_true), if_pos h2]
      have hlt : ¬ ((slen a b p.1 p.2 w : Nat) : Int) < 2 := by omega
      have ea : opS .add (.lv ((((allD a b).take k).filterMap (slAt a b w)).map triV)) (.lv [.tup [.int (p.1 : Nat), .int (p.2 : Nat), .int (slen a b p.1 p.2 w : Nat)]]) S = some (.new (.lv ((((allD a b).take k).filterMap (slAt a b w)).map triV ++ [.tup [.int (p.1 : Nat), .int (p.2 : Nat), .int (slen a b p.1 p.2 w : Nat)]]))) := by
        show (if _ then _ else _) = _
        rw [if_pos (ll (by rw [List.length_map]; simp; omega))]
      rw [e]
      simp only [d_raw_slants_b1, k1, k2, hlt, ea, l1, l2, l3, decide_false, Option.toList, eq_self, Bool.and_self, Bool.and_true, pb_non, pb_bl, pb_int, pb_str, pb_tup, pb_lv, pb_dv, pl_nil, pl_cons, pu_ints, pu_strs, pu_sgn, pu_nat, end_rt, end_nx, end_own, run, ev, evs, evT, evI, fin, Option.bind_some, Option.map_some, startE, List.map_cons, List.map_nil, List.length_cons, List.length_nil, List.cons_append, List.nil_append, List.replicate_succ, List.replicate_zero, Nat.reduceAdd, Nat.reduceSub, Nat.zero_add, List.getElem?_cons_zero, List.getElem?_cons_succ, List.set_cons_zero, List.set_cons_succ, wipeE, bindTg, setAll, cmpS, eq_ii, eq_ss, lt_ii, lt_ss, mem_s, p_add_i, p_sub_i, b_len_t, b_len_l, b_abs, b_int, b_tuple_l, b_list_t, b_list_l, m_count, i_tup, i_lv, atI_0, atI_1, atI_2, atI_3, atI_4, decide_eq_true_eq, Bool.not_true, Bool.not_false, Bool.false_eq_true, if_true, if_false, ite_true, ite_false, reduceIte, isNon, walkOf, walkS, isi_non_int, isi_non_str, isi_non_tuple, isi_non_list, isi_non_dict, isi_non_bool, isi_bl_int, isi_bl_str, isi_bl_tuple, isi_bl_list, isi_bl_dict, isi_bl_bool, isi_int_int, isi_int_str, isi_int_tuple, isi_int_list, isi_int_dict, isi_int_bool, isi_str_int, isi_str_str, isi_str_tuple, isi_str_list, isi_str_dict, isi_str_bool, isi_tup_int, isi_tup_str, isi_tup_tuple, isi_tup_list, isi_tup_dict, isi_tup_bool, isi_lv_int, isi_lv_str, isi_lv_tuple, isi_lv_list, isi_lv_dict, isi_lv_bool, isi_dv_int, isi_dv_str, isi_dv_tuple, isi_dv_list, isi_dv_dict, isi_dv_bool, isi_scr_int, isi_scr_str, isi_scr_tuple, isi_scr_list, isi_scr_dict, isi_scr_bool]
    · have e : slAt a b w p = none := by unfold slAt; rw [if_neg (by rw [hd]; exact Bool.false_ne_true), if_neg h2]
      have hlt : ((slen a b p.1 p.2 w : Nat) : Int) < 2 := by omega
      have ea : opS .add (.lv ((((allD a b).take k).filterMap (slAt a b w)).map triV)) (.lv []) S = some (.new (.lv ((((allD a b).take k).filterMap (slAt a b w)).map triV))) := by
        show (if _ then _ else _) = _
        rw [if_pos (ll (by rw [List.length_map]; simp; omega)), List.append_nil]
      rw [e]
      simp only [d_raw_slants_b1, k1, k2, hlt, ea, l0, l2, decide_true, Option.toList, List.append_nil, eq_self, Bool.and_self, Bool.and_true, pb_non, pb_bl, pb_int, pb_str, pb_tup, pb_lv, pb_dv, pl_nil, pl_cons, pu_ints, pu_strs, pu_sgn, pu_nat, end_rt, end_nx, end_own, run, ev, evs, evT, evI, fin, Option.bind_some, Option.map_some, startE, List.map_cons, List.map_nil, List.length_cons, List.length_nil, List.cons_append, List.nil_append, List.replicate_succ, List.replicate_zero, Nat.reduceAdd, Nat.reduceSub, Nat.zero_add, List.getElem?_cons_zero, List.getElem?_cons_succ, List.set_cons_zero, List.set_cons_succ, wipeE, bindTg, setAll, cmpS, eq_ii, eq_ss, lt_ii, lt_ss, mem_s, p_add_i, p_sub_i, b_len_t, b_len_l, b_abs, b_int, b_tuple_l, b_list_t, b_list_l, m_count, i_tup, i_lv, atI_0, atI_1, atI_2, atI_3, atI_4, decide_eq_true_eq, Bool.not_true, Bool.not_false, Bool.false_eq_true, if_true, if_false, ite_true, ite_false, reduceIte, isNon, walkOf, walkS, isi_non_int, isi_non_str, isi_non_tuple, isi_non_list, isi_non_dict, isi_non_bool, isi_bl_int, isi_bl_str, isi_bl_tuple, isi_bl_list, isi_bl_dict, isi_bl_bool, isi_int_int, isi_int_str, isi_int_tuple, isi_int_list, isi_int_dict, isi_int_bool, isi_str_int, isi_str_str, isi_str_tuple, isi_str_list, isi_str_dict, isi_str_bool, isi_tup_int, isi_tup_str, isi_tup_tuple, isi_tup_list, isi_tup_dict, isi_tup_bool, isi_lv_int, isi_lv_str, isi_lv_tuple, isi_lv_list, isi_lv_dict, isi_lv_bool, isi_dv_int, isi_dv_str, isi_dv_tuple, isi_dv_list, isi_dv_dict, isi_dv_bool, isi_scr_int, isi_scr_str, isi_scr_tuple, isi_scr_list, isi_scr_dict, isi_scr_bool]
theorem raw_slants_ok (hn : 3 ≤ n) {a b : List Nat} (ha : Txt1 0 12 a) (hb : Txt1 0 12 b) {w : Int} (hw : w.natAbs ≤ 100) : callN 1000 progL n "raw_slants" [.str a, .str b, .int w] S = some (.lv ((slantsL a b w).map triV), S) := by
  obtain ⟨m, rfl, hm⟩ := pos_n hn
  rw [callN_at fi_raw_slants rfl]
  have k1 := all_dots_ok (S := S) (n := m) (by omega) ha hb
  have h144 := allD_144 ha hb
  obtain ⟨ρ', p2, x4, x5, x6, hρ⟩ := loop_any (fu := 1000) (Φ := callN 1000 progL m) (g := .tp [4, 5]) (e := .call "all_dots" (.cons (.var 0) (.cons (.var 1) .nil))) (b := d_raw_slants_b1) (φ := pairV) (L := allD a b) (S := S) (ρ := [some (.str a), some (.str b), some (.int w), some (.lv []), none, none, none])
    (d := .lv ((allD a b).map pairV)) (by simp only [k1, eq_self, Bool.and_self, Bool.and_true, pb_non, pb_bl, pb_int, pb_str, pb_tup, pb_lv, pb_dv, pl_nil, pl_cons, pu_ints, pu_strs, pu_sgn, pu_nat, end_rt, end_nx, end_own, run, ev, evs, evT, evI, fin, Option.bind_some, Option.map_some, startE, List.map_cons, List.map_nil, List.length_cons, List.length_nil, List.cons_append, List.nil_append, List.replicate_succ, List.replicate_zero, Nat.reduceAdd, Nat.reduceSub, Nat.zero_add, List.getElem?_cons_zero, List.getElem?_cons_succ, List.set_cons_zero, List.set_cons_succ, wipeE, bindTg, setAll, cmpS, eq_ii, eq_ss, lt_ii, lt_ss, mem_s, p_add_i, p_sub_i, b_len_t, b_len_l, b_abs, b_int, b_tuple_l, b_list_t, b_list_l, m_count, i_tup, i_lv, atI_0, atI_1, atI_2, atI_3, atI_4, decide_eq_true_eq, Bool.not_true, Bool.not_false, Bool.false_eq_true, if_true, if_false, ite_true, ite_false, reduceIte, isNon, walkOf, walkS, isi_non_int, isi_non_str, isi_non_tuple, isi_non_list, isi_non_dict, isi_non_bool, isi_bl_int, isi_bl_str, isi_bl_tuple, isi_bl_list, isi_bl_dict, isi_bl_bool, isi_int_int, isi_int_str, isi_int_tuple, isi_int_list, isi_int_dict, isi_int_bool, isi_str_int, isi_str_str, isi_str_tuple, isi_str_list, isi_str_dict, isi_str_bool, isi_tup_int, isi_tup_str, isi_tup_tuple, isi_tup_list, isi_tup_dict, isi_tup_bool, isi_lv_int, isi_lv_str, isi_lv_tuple, isi_lv_list, isi_lv_dict, isi_lv_bool, isi_dv_int, isi_dv_str, isi_dv_tuple, isi_dv_list, isi_dv_dict, isi_dv_bool, isi_scr_int, isi_scr_str, isi_scr_tuple, isi_scr_list, isi_scr_dict, isi_scr_bool]) (.inl rfl) (by omega)
    (fun k ρ => ∃ x4 x5 x6, ρ = [some (.str a), some (.str b), some (.int w), some (.lv ((((allD a b).take k).filterMap (slAt a b w)).map triV)), x4, x5, x6]) ⟨none, none, none, rfl⟩ (fun k p ρ hk ⟨x4, x5, x6, e⟩ => by
      subst e
      obtain ⟨x6', h⟩ := raw_slants_step (S := S) (m := m) hm ha hb hw hk x6
      exact ⟨_, _, rfl, h, _, _, _, rfl⟩)
  subst hρ
  have l0 : (0 ≤ line) = True := le_line (by omega)
  have p1 : run 1000 (callN 1000 progL m) (.set 3 (.lst false (.nil))) [some (.str a), some (.str b), some (.int w), none, none, none, none] S = some (.nx [some (.str a), some (.str b), some (.int w), some (.lv []), none, none, none], S) := by
    simp only [l0, eq_self, Bool.and_self, Bool.and_true, pb_non, pb_bl, pb_int, pb_str, pb_tup, pb_lv, pb_dv, pl_nil, pl_cons, pu_ints, pu_strs, pu_sgn, pu_nat, end_rt, end_nx, end_own, run, ev, evs, evT, evI, fin, Option.bind_some, Option.map_some, startE, List.map_cons, List.map_nil, List.length_cons, List.length_nil, List.cons_append, List.nil_append, List.replicate_succ, List.replicate_zero, Nat.reduceAdd, Nat.reduceSub, Nat.zero_add, List.getElem?_cons_zero, List.getElem?_cons_succ, List.set_cons_zero, List.set_cons_succ, wipeE, bindTg, setAll, cmpS, eq_ii, eq_ss, lt_ii, lt_ss, mem_s, p_add_i, p_sub_i, b_len_t, b_len_l, b_abs, b_int, b_tuple_l, b_list_t, b_list_l, m_count, i_tup, i_lv, atI_0, atI_1, atI_2, atI_3, atI_4, decide_eq_true_eq, Bool.not_true, Bool.not_false, Bool.false_eq_true, if_true, if_false, ite_true, ite_false, reduceIte, isNon, walkOf, walkS, isi_non_int, isi_non_str, isi_non_tuple, isi_non_list, isi_non_dict, isi_non_bool, isi_bl_int, isi_bl_str, isi_bl_tuple, isi_bl_list, isi_bl_dict, isi_bl_bool, isi_int_int, isi_int_str, isi_int_tuple, isi_int_list, isi_int_dict, isi_int_bool, isi_str_int, isi_str_str, isi_str_tuple, isi_str_list, isi_str_dict, isi_str_bool, isi_tup_int, isi_tup_str, isi_tup_tuple, isi_tup_list, isi_tup_dict, isi_tup_bool, isi_lv_int, isi_lv_str, isi_lv_tuple, isi_lv_list, isi_lv_dict, isi_lv_bool, isi_dv_int, isi_dv_str, isi_dv_tuple, isi_dv_list, isi_dv_dict, isi_dv_bool, isi_scr_int, isi_scr_str, isi_scr_tuple, isi_scr_list, isi_scr_dict, isi_scr_bool]
  rw [List.take_length] at p2
  show (run 1000 (callN 1000 progL m) (.seq _ (.seq _ _)) [some (.str a), some (.str b), some (.int w), none, none, none, none] S).bind (endC false _) = _
  rw [run_seq p1, run_seq p2]
  exact end_rt (by rw [pb_lv]; exact pureL_map fun _ => rfl)
theorem slants_ok (hn : 6 ≤ n) {a b : List Nat} (ha : Txt1 0 12 a) (hb : Txt1 0 12 b) : callN 1000 progL n "slants" [.str a, .str b] S = some (.tup ((slantsL a b 1).map triV), S) := by
  obtain ⟨m, rfl, hm⟩ := pos_n hn
  rw [callN_at fi_slants rfl]
  have k1 := check_two_ok (S := S) (n := m) (by omega) ha hb
  have k2 := raw_slants_ok (S := S) (n := m) (by omega) ha hb (w := 1) (by decide)
  simp only [d_slants, k1, k2, eq_self, Bool.and_self, Bool.and_true, pb_non, pb_bl, pb_int, pb_str, pb_tup, pb_lv, pb_dv, pl_nil, pl_cons, pu_ints, pu_strs, pu_sgn, pu_nat, end_rt, end_nx, end_own, run, ev, evs, evT, evI, fin, Option.bind_some, Option.map_some, startE, List.map_cons, List.map_nil, List.length_cons, List.length_nil, List.cons_append, List.nil_append, List.replicate_succ, List.replicate_zero, Nat.reduceAdd, Nat.reduceSub, Nat.zero_add, List.getElem?_cons_zero, List.getElem?_cons_succ, List.set_cons_zero, List.set_cons_succ, wipeE, bindTg, setAll, cmpS, eq_ii, eq_ss, lt_ii, lt_ss, mem_s, p_add_i, p_sub_i, b_len_t, b_len_l, b_abs, b_int, b_tuple_l, b_list_t, b_list_l, m_count, i_tup, i_lv, atI_0, atI_1, atI_2, atI_3, atI_4, decide_eq_true_eq, Bool.not_true, Bool.not_false, Bool.false_eq_true, if_true, if_false, ite_true, ite_false, reduceIte, isNon, walkOf, walkS, isi_non_int, isi_non_str, isi_non_tuple, isi_non_list, isi_non_dict, isi_non_bool, isi_bl_int, isi_bl_str, isi_bl_tuple, isi_bl_list, isi_bl_dict, isi_bl_bool, isi_int_int, isi_int_str, isi_int_tuple, isi_int_list, isi_int_dict, isi_int_bool, isi_str_int, isi_str_str, isi_str_tuple, isi_str_list, isi_str_dict, isi_str_bool, isi_tup_int, isi_tup_str, isi_tup_tuple, isi_tup_list, isi_tup_dict, isi_tup_bool, isi_lv_int, isi_lv_str, isi_lv_tuple, isi_lv_list, isi_lv_dict, isi_lv_bool, isi_dv_int, isi_dv_str, isi_dv_tuple, isi_dv_list, isi_dv_dict, isi_dv_bool, isi_scr_int, isi_scr_str, isi_scr_tuple, isi_scr_list, isi_scr_dict, isi_scr_bool]
  exact end_rt (by rw [pb_tup]; exact pureL_map fun _ => rfl)
theorem back_slants_ok (hn : 6 ≤ n) {a b : List Nat} (ha : Txt1 0 12 a) (hb : Txt1 0 12 b) : callN 1000 progL n "back_slants" [.str a, .str b] S = some (.tup ((slantsL a b (-1)).map triV), S) := by
  obtain ⟨m, rfl, hm⟩ := pos_n hn
  rw [callN_at fi_back_slants rfl]
  have k1 := check_two_ok (S := S) (n := m) (by omega) ha hb
  have k2 := raw_slants_ok (S := S) (n := m) (by omega) ha hb (w := -1) (by decide)
  simp only [d_back_slants, k1, k2, eq_self, Bool.and_self, Bool.and_true, pb_non, pb_bl, pb_int, pb_str, pb_tup, pb_lv, pb_dv, pl_nil, pl_cons, pu_ints, pu_strs, pu_sgn, pu_nat, end_rt, end_nx, end_own, run, ev, evs, evT, evI, fin, Option.bind_some, Option.map_some, startE, List.map_cons, List.map_nil, List.length_cons, List.length_nil, List.cons_append, List.nil_append, List.replicate_succ, List.replicate_zero, Nat.reduceAdd, Nat.reduceSub, Nat.zero_add, List.getElem?_cons_zero, List.getElem?_cons_succ, List.set_cons_zero, List.set_cons_succ, wipeE, bindTg, setAll, cmpS, eq_ii, eq_ss, lt_ii, lt_ss, mem_s, p_add_i, p_sub_i, b_len_t, b_len_l, b_abs, b_int, b_tuple_l, b_list_t, b_list_l, m_count, i_tup, i_lv, atI_0, atI_1, atI_2, atI_3, atI_4, decide_eq_true_eq, Bool.not_true, Bool.not_false, Bool.false_eq_true, if_true, if_false, ite_true, ite_false, reduceIte, isNon, walkOf, walkS, isi_non_int, isi_non_str, isi_non_tuple, isi_non_list, isi_non_dict, isi_non_bool, isi_bl_int, isi_bl_str, isi_bl_tuple, isi_bl_list, isi_bl_dict, isi_bl_bool, isi_int_int, isi_int_str, isi_int_tuple, isi_int_list, isi_int_dict, isi_int_bool, isi_str_int, isi_str_str, isi_str_tuple, isi_str_list, isi_str_dict, isi_str_bool, isi_tup_int, isi_tup_str, isi_tup_tuple, isi_tup_list, isi_tup_dict, isi_tup_bool, isi_lv_int, isi_lv_str, isi_lv_tuple, isi_lv_list, isi_lv_dict, isi_lv_bool, isi_dv_int, isi_dv_str, isi_dv_tuple, isi_dv_list, isi_dv_dict, isi_dv_bool, isi_scr_int, isi_scr_str, isi_scr_tuple, isi_scr_list, isi_scr_dict, isi_scr_bool]
  exact end_rt (by rw [pb_tup]; exact pureL_map fun _ => rfl)
/-! ### the longest -/
def kapT (t : Tri) : Int := -(t.2.2 : Int) * 10000 + (t.1 : Int) * 100 + (t.2.1 : Int)
abbrev encT (t : Tri) : D := .tup [.int (-(t.2.2 : Int)), triV t]
def SmallT (t : Tri) : Prop := t.1 < 100 ∧ t.2.1 < 100 ∧ t.2.2 < 100
theorem slants_small {a b : List Nat} (ha : Txt1 0 12 a) (hb : Txt1 0 12 b) {w : Int} {t : Tri} (h : t ∈ slantsL a b w) : SmallT t := by
  obtain ⟨p, hp, e⟩ := List.mem_filterMap.mp h
  obtain ⟨h1, h2, _⟩ := mem_allD.mp hp
  have h3 := slen_le (a := a) (b := b) ha.le p.1 p.2 w
  have h4 := ha.le
  have h5 := hb.le
  unfold slAt at e
  split at e
  · cases e
  · split at e
    · cases e
      exact ⟨by show p.1 < 100; omega, by show p.2 < 100; omega, by show slen _ _ _ _ _ < 100; omega⟩
    · cases e
theorem kapT_inj {s t : Tri} (hs : SmallT s) (ht : SmallT t) (h : kapT s = kapT t) : s = t := by
  obtain ⟨a, b, c⟩ := s
  obtain ⟨x, y, z⟩ := t
  unfold kapT at h
  unfold SmallT at hs ht
  simp only at h hs ht
  have h1 : c = z := by omega
  have h2 : a = x := by omega
  have h3 : b = y := by omega
  rw [h1, h2, h3]
theorem lt_int3 (a b c x y z : Int) : PySem.W.dataLt (.tuple [.int a, .int b, .int c]) (.tuple [.int x, .int y, .int z]) = decide (a < x ∨ a = x ∧ (b < y ∨ b = y ∧ c < z)) := by
  have al : ∀ i j : Int, PySem.W.alike (.int i) (.int j) = true := fun i j => by simp [PySem.W.alike]
  have e : PyProof.Rows.lexLt PyProof.Rows.itemOrd (PySem.W.keyToksAll []) (PySem.W.keyToksAll []) = false := PyProof.Rows.lex_irrefl _
  rw [PySem.W.dataLt_tuple, PySem.W.dataLt_cons (al _ _), PySem.W.dataLt_cons (al _ _), PySem.W.dataLt_cons (al _ _), e, PySem.W.dataLt_int, PySem.W.dataLt_int, PySem.W.dataLt_int]
  simp only [PyData.eqv, beq_iff_eq]
  by_cases h1 : a = x <;> by_cases h2 : b = y <;> by_cases h3 : c = z <;> simp [h1, h2, h3]
theorem lt_tri {s t : Tri} (hs : SmallT s) (ht : SmallT t) : PySem.W.dataLt (py (encT s)) (py (encT t)) = decide (kapT s < kapT t) := by
  obtain ⟨a, b, c⟩ := s
  obtain ⟨x, y, z⟩ := t
  unfold SmallT at hs ht
  simp only at hs ht
  unfold kapT
  simp only [py, pys]
  rw [PySem.W.dataLt_pair (by simp [PySem.W.alike]) (by simp [PySem.W.alike, PySem.W.alikeAll]), PySem.W.dataLt_int, lt_int3]
  simp only [PyData.eqv, PyData.eqvAll, beq_iff_eq, Bool.and_eq_true, Bool.and_true]
  by_cases h1 : (-(c : Int)) = -(z : Int)
  · rw [if_pos h1]
    split
    · rename_i h2
      rw [eq_comm, decide_eq_false_iff_not]
      omega
    · rename_i h2
      rw [Bool.eq_iff_iff, decide_eq_true_eq, decide_eq_true_eq]
      omega
  · rw [if_neg h1, Bool.eq_iff_iff, decide_eq_true_eq, decide_eq_true_eq]
    omega
theorem alike_tri (L : List Tri) : alikeL (L.map encT) = true := alikeL_of (fun _ => rfl) (fun _ => rfl) fun _ _ => by simp only [py, pys, PySem.W.alike, PySem.W.alikeAll, Bool.and_self]
/-- the first of the longest -/
def longT : List Tri → D
  | [] => .non
  | t :: L => triV (minBy kapT t L)
theorem longest_slant_ok (hn : 6 ≤ n) {a b : List Nat} (ha : Txt1 0 12 a) (hb : Txt1 0 12 b) : callN 1000 progL n "longest_slant" [.str a, .str b] S = some (longT (slantsL a b 1), S) := by
  obtain ⟨m, rfl, hm⟩ := pos_n hn
  rw [callN_at fi_longest_slant rfl]
  have k1 := check_two_ok (S := S) (n := m) (by omega) ha hb
  have k2 := raw_slants_ok (S := S) (n := m) (by omega) ha hb (w := 1) (by decide)
  have hl : (slantsL a b 1).length ≤ 144 := by
    have := slantsL_len ha hb 1 (allD a b).length
    rwa [List.take_length] at this
  have l2 : (2 ≤ line) = True := le_line (by omega)
  have l3 : (3 ≤ line) = True := le_line (by omega)
  have c1 : ev 1000 (callN 1000 progL m) d_longest_slant_c1 [some (.str a), some (.str b), none, none, none, none] S = some (.lv ((slantsL a b 1).map encT), S) := by
    refine lc_map (L := slantsL a b 1) (φ := triV) encT (by simp only [k2, eq_self, Bool.and_self, Bool.and_true, pb_non, pb_bl, pb_int, pb_str, pb_tup, pb_lv, pb_dv, pl_nil, pl_cons, pu_ints, pu_strs, pu_sgn, pu_nat, end_rt, end_nx, end_own, run, ev, evs, evT, evI, fin, Option.bind_some, Option.map_some, startE, List.map_cons, List.map_nil, List.length_cons, List.length_nil, List.cons_append, List.nil_append, List.replicate_succ, List.replicate_zero, Nat.reduceAdd, Nat.reduceSub, Nat.zero_add, List.getElem?_cons_zero, List.getElem?_cons_succ, List.set_cons_zero, List.set_cons_succ, wipeE, bindTg, setAll, cmpS, eq_ii, eq_ss, lt_ii, lt_ss, mem_s, p_add_i, p_sub_i, b_len_t, b_len_l, b_abs, b_int, b_tuple_l, b_list_t, b_list_l, m_count, i_tup, i_lv, atI_0, atI_1, atI_2, atI_3, atI_4, decide_eq_true_eq, Bool.not_true, Bool.not_false, Bool.false_eq_true, if_true, if_false, ite_true, ite_false, reduceIte, isNon, walkOf, walkS, isi_non_int, isi_non_str, isi_non_tuple, isi_non_list, isi_non_dict, isi_non_bool, isi_bl_int, isi_bl_str, isi_bl_tuple, isi_bl_list, isi_bl_dict, isi_bl_bool, isi_int_int, isi_int_str, isi_int_tuple, isi_int_list, isi_int_dict, isi_int_bool, isi_str_int, isi_str_str, isi_str_tuple, isi_str_list, isi_str_dict, isi_str_bool, isi_tup_int, isi_tup_str, isi_tup_tuple, isi_tup_list, isi_tup_dict, isi_tup_bool, isi_lv_int, isi_lv_str, isi_lv_tuple, isi_lv_list, isi_lv_dict, isi_lv_bool, isi_dv_int, isi_dv_str, isi_dv_tuple, isi_dv_list, isi_dv_dict, isi_dv_bool, isi_scr_int, isi_scr_str, isi_scr_tuple, isi_scr_list, isi_scr_dict, isi_scr_bool]) (fun t ht => ?_) (ll (by omega))
    simp only [turnF, l2, l3, eq_self, Bool.and_self, Bool.and_true, pb_non, pb_bl, pb_int, pb_str, pb_tup, pb_lv, pb_dv, pl_nil, pl_cons, pu_ints, pu_strs, pu_sgn, pu_nat, end_rt, end_nx, end_own, run, ev, evs, evT, evI, fin, Option.bind_some, Option.map_some, startE, List.map_cons, List.map_nil, List.length_cons, List.length_nil, List.cons_append, List.nil_append, List.replicate_succ, List.replicate_zero, Nat.reduceAdd, Nat.reduceSub, Nat.zero_add, List.getElem?_cons_zero, List.getElem?_cons_succ, List.set_cons_zero, List.set_cons_succ, wipeE, bindTg, setAll, cmpS, eq_ii, eq_ss, lt_ii, lt_ss, mem_s, p_add_i, p_sub_i, b_len_t, b_len_l, b_abs, b_int, b_tuple_l, b_list_t, b_list_l, m_count, i_tup, i_lv, atI_0, atI_1, atI_2, atI_3, atI_4, decide_eq_true_eq, Bool.not_true, Bool.not_false, Bool.false_eq_true, if_true, if_false, ite_true, ite_false, reduceIte, isNon, walkOf, walkS, isi_non_int, isi_non_str, isi_non_tuple, isi_non_list, isi_non_dict, isi_non_bool, isi_bl_int, isi_bl_str, isi_bl_tuple, isi_bl_list, isi_bl_dict, isi_bl_bool, isi_int_int, isi_int_str, isi_int_tuple, isi_int_list, isi_int_dict, isi_int_bool, isi_str_int, isi_str_str, isi_str_tuple, isi_str_list, isi_str_dict, isi_str_bool, isi_tup_int, isi_tup_str, isi_tup_tuple, isi_tup_list, isi_tup_dict, isi_tup_bool, isi_lv_int, isi_lv_str, isi_lv_tuple, isi_lv_list, isi_lv_dict, isi_lv_bool, isi_dv_int, isi_dv_str, isi_dv_tuple, isi_dv_list, isi_dv_dict, isi_dv_bool, isi_scr_int, isi_scr_str, isi_scr_tuple, isi_scr_list, isi_scr_dict, isi_scr_bool]
  have small : ∀ t ∈ slantsL a b 1, SmallT t := fun t ht => slants_small ha hb ht
  cases e : slantsL a b 1 with
  | nil =>
    rw [e] at c1
    simp only [d_longest_slant, k1, c1, longT, show ¬ (0 : Int) < ((0 : Nat) : Int) from by decide, decide_false, eq_self, Bool.and_self, Bool.and_true, pb_non, pb_bl, pb_int, pb_str, pb_tup, pb_lv, pb_dv, pl_nil, pl_cons, pu_ints, pu_strs, pu_sgn, pu_nat, end_rt, end_nx, end_own, run, ev, evs, evT, evI, fin, Option.bind_some, Option.map_some, startE, List.map_cons, List.map_nil, List.length_cons, List.length_nil, List.cons_append, List.nil_append, List.replicate_succ, List.replicate_zero, Nat.reduceAdd, Nat.reduceSub, Nat.zero_add, List.getElem?_cons_zero, List.getElem?_cons_succ, List.set_cons_zero, List.set_cons_succ, wipeE, bindTg, setAll, cmpS, eq_ii, eq_ss, lt_ii, lt_ss, mem_s, p_add_i, p_sub_i, b_len_t, b_len_l, b_abs, b_int, b_tuple_l, b_list_t, b_list_l, m_count, i_tup, i_lv, atI_0, atI_1, atI_2, atI_3, atI_4, decide_eq_true_eq, Bool.not_true, Bool.not_false, Bool.false_eq_true, if_true, if_false, ite_true, ite_false, reduceIte, isNon, walkOf, walkS, isi_non_int, isi_non_str, isi_non_tuple, isi_non_list, isi_non_dict, isi_non_bool, isi_bl_int, isi_bl_str, isi_bl_tuple, isi_bl_list, isi_bl_dict, isi_bl_bool, isi_int_int, isi_int_str, isi_int_tuple, isi_int_list, isi_int_dict, isi_int_bool, isi_str_int, isi_str_str, isi_str_tuple, isi_str_list, isi_str_dict, isi_str_bool, isi_tup_int, isi_tup_str, isi_tup_tuple, isi_tup_list, isi_tup_dict, isi_tup_bool, isi_lv_int, isi_lv_str, isi_lv_tuple, isi_lv_list, isi_lv_dict, isi_lv_bool, isi_dv_int, isi_dv_str, isi_dv_tuple, isi_dv_list, isi_dv_dict, isi_dv_bool, isi_scr_int, isi_scr_str, isi_scr_tuple, isi_scr_list, isi_scr_dict, isi_scr_bool]
  | cons t L =>
    rw [e] at c1 small
    have hmin : bltS .min [.lv ((t :: L).map encT)] S = some (.val (encT (minBy kapT t L))) := by
      have hm := minL_map (φ := encT) (κ := kapT) (x := t) (xs := L) fun y hy z hz => lt_tri (small y hy) (small z hz)
      have ha := alike_tri (t :: L)
      show (if alikeL (encT t :: L.map encT) = true then some (PR.val (minL (encT t) (L.map encT))) else none) = _
      rw [if_pos (show alikeL (encT t :: L.map encT) = true from ha), hm]
    have hpos : (0 : Int) < (((L.map encT).length + 1 : Nat) : Int) := by omega
    have hp : pureB (triV (minBy kapT t L)) = true := rfl
    rw [List.map_cons] at c1 hmin
    simp only [d_longest_slant, k1, c1, longT, hmin, hpos, decide_true, b_len_l, end_rt hp, eq_self, Bool.and_self, Bool.and_true, pb_non, pb_bl, pb_int, pb_str, pb_tup, pb_lv, pb_dv, pl_nil, pl_cons, pu_ints, pu_strs, pu_sgn, pu_nat, end_rt, end_nx, end_own, run, ev, evs, evT, evI, fin, Option.bind_some, Option.map_some, startE, List.map_cons, List.map_nil, List.length_cons, List.length_nil, List.cons_append, List.nil_append, List.replicate_succ, List.replicate_zero, Nat.reduceAdd, Nat.reduceSub, Nat.zero_add, List.getElem?_cons_zero, List.getElem?_cons_succ, List.set_cons_zero, List.set_cons_succ, wipeE, bindTg, setAll, cmpS, eq_ii, eq_ss, lt_ii, lt_ss, mem_s, p_add_i, p_sub_i, b_len_t, b_len_l, b_abs, b_int, b_tuple_l, b_list_t, b_list_l, m_count, i_tup, i_lv, atI_0, atI_1, atI_2, atI_3, atI_4, decide_eq_true_eq, Bool.not_true, Bool.not_false, Bool.false_eq_true, if_true, if_false, ite_true, ite_false, reduceIte, isNon, walkOf, walkS, isi_non_int, isi_non_str, isi_non_tuple, isi_non_list, isi_non_dict, isi_non_bool, isi_bl_int, isi_bl_str, isi_bl_tuple, isi_bl_list, isi_bl_dict, isi_bl_bool, isi_int_int, isi_int_str, isi_int_tuple, isi_int_list, isi_int_dict, isi_int_bool, isi_str_int, isi_str_str, isi_str_tuple, isi_str_list, isi_str_dict, isi_str_bool, isi_tup_int, isi_tup_str, isi_tup_tuple, isi_tup_list, isi_tup_dict, isi_tup_bool, isi_lv_int, isi_lv_str, isi_lv_tuple, isi_lv_list, isi_lv_dict, isi_lv_bool, isi_dv_int, isi_dv_str, isi_dv_tuple, isi_dv_list, isi_dv_dict, isi_dv_bool, isi_scr_int, isi_scr_str, isi_scr_tuple, isi_scr_list, isi_scr_dict, isi_scr_bool]
end
end Pd

namespace Pd
open PySem PySem.Spec PyProof.Rows L2
/-! ### counts by whole numbers -/
def lookN (k : Int) : List (Int × Nat) → Option Nat
  | [] => none
  | p :: l => if p.1 = k then some p.2 else lookN k l
def bumpL (l : List (Int × Nat)) (k : Int) : List (Int × Nat) :=
  if (lookN k l).isSome then l.map fun p => if p.1 = k then (p.1, (lookN k l).getD 0 + 1) else p else l ++ [(k, (lookN k l).getD 0 + 1)]
abbrev cntK (l : List (Int × Nat)) : List DK := l.map fun p => DK.i p.1
abbrev cntW (l : List (Int × Nat)) : List D := l.map fun p => D.int (p.2 : Nat)
abbrev cntV (l : List (Int × Nat)) : D := .dv false (cntK l) (cntW l)
theorem dLook_cnt (k : Int) : ∀ l : List (Int × Nat), dLook (.i k) (cntK l) (cntW l) = (lookN k l).map fun c => D.int (c : Nat)
  | [] => rfl
  | p :: l => by
    show (if DK.i p.1 = .i k then some (D.int (p.2 : Nat)) else dLook (.i k) (cntK l) (cntW l)) = Option.map _ (if p.1 = k then some p.2 else lookN k l)
    by_cases h : p.1 = k
    · rw [if_pos (by rw [h]), if_pos h]; rfl
    · rw [if_neg (fun z => h (by cases z; rfl)), if_neg h, dLook_cnt k l]
theorem lookN_none {k : Int} : ∀ {l : List (Int × Nat)}, lookN k l = none ↔ k ∉ l.map (·.1)
  | [] => by simp [lookN]
  | p :: l => by
    rw [lookN, List.map_cons, List.mem_cons]
    by_cases h : p.1 = k
    · simp [h]
    · rw [if_neg h, lookN_none]
      exact ⟨fun z y => y.elim (fun w => h w.symm) z, fun z y => z (.inr y)⟩
theorem lookN_mem {p : Int × Nat} : ∀ {l : List (Int × Nat)}, (l.map (·.1)).Nodup → p ∈ l → lookN p.1 l = some p.2
  | [], _, h => (List.not_mem_nil h).elim
  | q :: l, hn, h => by
    rw [List.map_cons, List.nodup_cons] at hn
    rw [lookN]
    rcases List.mem_cons.mp h with rfl | h
    · rw [if_pos rfl]
    · rw [if_neg (fun z => hn.1 (by rw [z]; exact List.mem_map.mpr ⟨p, h, rfl⟩)), lookN_mem hn.2 h]
theorem any_cnt (k : Int) (l : List (Int × Nat)) : (cntK l).any (fun j => decide (j = .i k)) = (lookN k l).isSome := by
  induction l with
  | nil => rfl
  | cons p l ih =>
    show (decide (DK.i p.1 = .i k) || (cntK l).any fun j => decide (j = .i k)) = _
    rw [ih, lookN]
    by_cases h : p.1 = k
    · rw [if_pos h, h]; simp
    · rw [if_neg h, decide_eq_false (fun z => h (by cases z; rfl)), Bool.false_or]
theorem putV_cnt (k : Int) (c : Nat) : ∀ l : List (Int × Nat), dPutV (.i k) (.int (c : Nat)) (cntK l) (cntW l) = cntW (l.map fun p => if p.1 = k then (p.1, c) else p)
  | [] => rfl
  | p :: l => by
    show (if DK.i p.1 = .i k then D.int (c : Nat) else D.int (p.2 : Nat)) :: dPutV (.i k) (.int (c : Nat)) (cntK l) (cntW l) = _
    rw [putV_cnt k c l, List.map_cons]
    by_cases h : p.1 = k
    · rw [if_pos (by rw [h]), if_pos h]; rfl
    · rw [if_neg (fun z => h (by cases z; rfl)), if_neg h]; rfl
theorem put_cnt0 (k : Int) (l : List (Int × Nat)) : dPut (.i k) (.int ((lookN k l).getD 0 + 1 : Nat)) (cntK l) (cntW l) = (cntK (bumpL l k), cntW (bumpL l k)) := by
  unfold dPut bumpL
  rw [any_cnt]
  split
  · rw [putV_cnt]
    congr 1
    unfold cntK
    rw [List.map_map]
    apply List.map_congr_left
    intro p _
    simp only [Function.comp]
    split <;> rfl
  · unfold cntK cntW
    rw [List.map_append, List.map_append]
    rfl
theorem bump_keys (l : List (Int × Nat)) (k : Int) : (bumpL l k).map (·.1) = if k ∈ l.map (·.1) then l.map (·.1) else l.map (·.1) ++ [k] := by
  unfold bumpL
  cases h : lookN k l with
  | none =>
    rw [if_neg (lookN_none.mp h)]
    simp
  | some c =>
    have : k ∈ l.map (·.1) := Classical.byContradiction fun z => by rw [lookN_none.mpr z] at h; cases h
    rw [if_pos this]
    simp only [Option.isSome_some, if_true, List.map_map]
    apply List.map_congr_left
    intro p _
    simp only [Function.comp]
    split <;> rfl
theorem bump_nodup {l : List (Int × Nat)} (h : (l.map (·.1)).Nodup) (k : Int) : ((bumpL l k).map (·.1)).Nodup := by
  rw [bump_keys]
  split
  · exact h
  · rename_i hk
    exact List.nodup_append.mpr ⟨h, by simp, fun a ha b hb => by rw [List.mem_singleton.mp hb]; exact fun z => hk (z ▸ ha)⟩
theorem bump_len (l : List (Int × Nat)) (k : Int) : (bumpL l k).length ≤ l.length + 1 := by
  have := congrArg List.length (bump_keys l k)
  rw [List.length_map] at this
  rw [this]
  split <;> simp
section
variable {n : Nat} {S : Store}
theorem get_cnt {l : Nat} {L : List (Int × Nat)} (h : S[l]? = some (cntV L)) (k : Int) : mthS .get (.ref l) [.int k, .int 0] S = some (.int ((lookN k L).getD 0 : Nat), S) := by
  simp only [mthS, asDk, h, Option.bind_some, asKey, DK.fits, DK.flat, Bool.not_false, beq_self_eq_true, if_true, dLook_cnt]
  cases lookN k L <;> rfl
theorem put_cnt {l : Nat} {L : List (Int × Nat)} (h : S[l]? = some (cntV L)) (hl : L.length ≤ 1000) (k : Int) : setS (.ref l) (.int k) (.int ((lookN k L).getD 0 + 1 : Nat)) S = some (S.set l (cntV (bumpL L k))) := by
  have h1 : (cntK L).length < line := by rw [List.length_map]; unfold line; omega
  simp only [setS, h, asKey, DK.fits, DK.flat, Bool.not_false, beq_self_eq_true, Bool.true_and, decide_eq_true_eq, h1, if_true, put_cnt0]
theorem item_cnt {L : List (Int × Nat)} (hn : (L.map (·.1)).Nodup) {p : Int × Nat} (hp : p ∈ L) : itemS (cntV L) (.int p.1) S = some (.int (p.2 : Nat)) := by
  simp only [itemS, asL, asDk, asKey, DK.fits, DK.flat, Bool.not_false, beq_self_eq_true, if_true, dLook_cnt, lookN_mem hn hp]
  rfl
theorem item_cntR {l : Nat} {L : List (Int × Nat)} (h : S[l]? = some (cntV L)) (hn : (L.map (·.1)).Nodup) {p : Int × Nat} (hp : p ∈ L) : itemS (.ref l) (.int p.1) S = some (.int (p.2 : Nat)) := by
  simp only [itemS, asL, asDk, h, asKey, DK.fits, DK.flat, Bool.not_false, beq_self_eq_true, if_true, dLook_cnt, lookN_mem hn hp]
  rfl
theorem pure_cnt (L : List (Int × Nat)) : pureB (cntV L) = true := by
  rw [pb_dv]
  exact pureL_map fun _ => rfl
/-! ### sums of slants -/
def sumsOf (l : List (Int × Nat)) (P : List (Nat × Nat)) : List (Int × Nat) := P.foldl (fun l p => bumpL l ((p.2 : Int) - (p.1 : Int))) l
def sumsL (a b : List Nat) : List (Int × Nat) := sumsOf [] (allD a b)
theorem sumsOf_nodup : ∀ (P : List (Nat × Nat)) {l : List (Int × Nat)}, (l.map (·.1)).Nodup → ((sumsOf l P).map (·.1)).Nodup
  | [], _, h => h
  | p :: P, _, h => sumsOf_nodup P (bump_nodup h _)
theorem sumsOf_len : ∀ (P : List (Nat × Nat)) (l : List (Int × Nat)), (sumsOf l P).length ≤ l.length + P.length
  | [], _ => Nat.le_refl _
  | p :: P, l => by
    have h1 := sumsOf_len P (bumpL l ((p.2 : Int) - (p.1 : Int)))
    have h2 := bump_len l ((p.2 : Int) - (p.1 : Int))
    show (sumsOf (bumpL l _) P).length ≤ _
    rw [List.length_cons]
    omega
theorem sumsOf_key : ∀ (P : List (Nat × Nat)) {l : List (Int × Nat)} {k : Int}, k ∈ (sumsOf l P).map (·.1) → k ∈ l.map (·.1) ∨ ∃ p ∈ P, k = (p.2 : Int) - (p.1 : Int)
  | [], _, _, h => .inl h
  | p :: P, l, k, h => by
    rcases sumsOf_key P (l := bumpL l ((p.2 : Int) - (p.1 : Int))) h with h | ⟨q, hq, e⟩
    · rw [bump_keys] at h
      split at h
      · exact .inl h
      · rcases List.mem_append.mp h with h | h
        · exact .inl h
        · exact .inr ⟨p, List.mem_cons_self, List.mem_singleton.mp h⟩
    · exact .inr ⟨q, List.mem_cons_of_mem _ hq, e⟩
theorem sumsL_nodup (a b : List Nat) : ((sumsL a b).map (·.1)).Nodup := sumsOf_nodup _ (by simp)
theorem sumsOf_144 {a b : List Nat} (ha : Txt1 0 12 a) (hb : Txt1 0 12 b) (k : Nat) : (sumsOf [] ((allD a b).take k)).length ≤ 144 := by
  have h1 := sumsOf_len ((allD a b).take k) []
  have h2 := allD_144 ha hb
  rw [List.length_take, List.length_nil] at h1
  omega
theorem sumsL_small {a b : List Nat} (ha : Txt1 0 12 a) (hb : Txt1 0 12 b) {p : Int × Nat} (hp : p ∈ sumsL a b) : p.1.natAbs ≤ 12 := by
  rcases sumsOf_key (allD a b) (List.mem_map.mpr ⟨p, hp, rfl⟩) with h | ⟨q, hq, e⟩
  · simp at h
  · obtain ⟨h1, h2, _⟩ := mem_allD.mp hq
    have h3 := ha.le
    have h4 := hb.le
    omega
theorem sums_step {m : Nat} {a b : List Nat} {L : List (Int × Nat)} (hl : L.length ≤ 1000) (p : Nat × Nat) :
    run 1000 (callN 1000 progL m) d_raw_sums_b1 [some (.str a), some (.str b), some (.ref S.length), some (.int (p.1 : Nat)), some (.int (p.2 : Nat))] (S ++ [cntV L]) =
      some (.nx [some (.str a), some (.str b), some (.ref S.length), some (.int (p.1 : Nat)), some (.int (p.2 : Nat))], S ++ [cntV (bumpL L ((p.2 : Int) - (p.1 : Int)))]) := by
  have hg := get_last S (cntV L)
  have h1 := get_cnt hg ((p.2 : Int) - (p.1 : Int))
  have h2 := put_cnt hg hl ((p.2 : Int) - (p.1 : Int))
  rw [set_last] at h2
  have ty : (tyOf (S ++ [cntV L]) (.ref S.length) = some (mthTy .get)) = True := by
    simp only [tyOf, hg, mthTy]
  have ek : (((lookN ((p.2 : Int) - (p.1 : Int)) L).getD 0 : Nat) : Int) + 1 = (((lookN ((p.2 : Int) - (p.1 : Int)) L).getD 0 + 1 : Nat) : Int) := by omega
  simp only [d_raw_sums_b1, ty, h1, h2, ek, eq_self, Bool.and_self, Bool.and_true, pb_non, pb_bl, pb_int, pb_str, pb_tup, pb_lv, pb_dv, pl_nil, pl_cons, pu_ints, pu_strs, pu_sgn, pu_nat, end_rt, end_nx, end_own, run, ev, evs, evT, evI, fin, Option.bind_some, Option.map_some, startE, List.map_cons, List.map_nil, List.length_cons, List.length_nil, List.cons_append, List.nil_append, List.replicate_succ, List.replicate_zero, Nat.reduceAdd, Nat.reduceSub, Nat.zero_add, List.getElem?_cons_zero, List.getElem?_cons_succ, List.set_cons_zero, List.set_cons_succ, wipeE, bindTg, setAll, cmpS, eq_ii, eq_ss, lt_ii, lt_ss, mem_s, p_add_i, p_sub_i, b_len_t, b_len_l, b_abs, b_int, b_tuple_l, b_list_t, b_list_l, m_count, i_tup, i_lv, atI_0, atI_1, atI_2, atI_3, atI_4, decide_eq_true_eq, Bool.not_true, Bool.not_false, Bool.false_eq_true, if_true, if_false, ite_true, ite_false, reduceIte, isNon, walkOf, walkS, isi_non_int, isi_non_str, isi_non_tuple, isi_non_list, isi_non_dict, isi_non_bool, isi_bl_int, isi_bl_str, isi_bl_tuple, isi_bl_list, isi_bl_dict, isi_bl_bool, isi_int_int, isi_int_str, isi_int_tuple, isi_int_list, isi_int_dict, isi_int_bool, isi_str_int, isi_str_str, isi_str_tuple, isi_str_list, isi_str_dict, isi_str_bool, isi_tup_int, isi_tup_str, isi_tup_tuple, isi_tup_list, isi_tup_dict, isi_tup_bool, isi_lv_int, isi_lv_str, isi_lv_tuple, isi_lv_list, isi_lv_dict, isi_lv_bool, isi_dv_int, isi_dv_str, isi_dv_tuple, isi_dv_list, isi_dv_dict, isi_dv_bool, isi_scr_int, isi_scr_str, isi_scr_tuple, isi_scr_list, isi_scr_dict, isi_scr_bool]
theorem raw_sums_ok (hn : 2 ≤ n) {a b : List Nat} (ha : Txt1 0 12 a) (hb : Txt1 0 12 b) : callN 1000 progL n "raw_sums" [.str a, .str b] S = some (cntV (sumsL a b), S) := by
  obtain ⟨m, rfl, hm⟩ := pos_n hn
  rw [callN_at fi_raw_sums rfl]
  have k1 := all_dots_ok (S := S ++ [cntV []]) (n := m) (by omega) ha hb
  obtain ⟨ρ', S', p2', x3, x4, hρ, hS⟩ := forFix_inv (g := .tp [3, 4]) (b := run 1000 (callN 1000 progL m) d_raw_sums_b1) (φ := pairV)
    (fun i ρ S' => ∃ x3 x4, ρ = [some (.str a), some (.str b), some (.ref S.length), x3, x4] ∧ S' = S ++ [cntV (sumsOf [] ((allD a b).take i))])
    (allD a b) 0 [some (.str a), some (.str b), some (.ref S.length), none, none] (S ++ [cntV []]) ⟨none, none, rfl, rfl⟩ (fun j p ρ S' hj ⟨x3, x4, e1, e2⟩ => by
      subst e1 e2
      rw [Nat.zero_add]
      have st := sums_step (S := S) (m := m) (a := a) (b := b) (L := sumsOf [] ((allD a b).take j)) (by have := sumsOf_144 ha hb j; omega) p
      have ee : bumpL (sumsOf [] ((allD a b).take j)) ((p.2 : Int) - (p.1 : Int)) = sumsOf [] ((allD a b).take (j + 1)) := by
        unfold sumsOf
        rw [List.take_add_one, hj, List.foldl_append]
        rfl
      rw [ee] at st
      exact ⟨_, _, _, rfl, .inl st, _, _, rfl, rfl⟩)
  subst hρ hS
  rw [Nat.zero_add, List.take_length] at p2'
  have p1 : run 1000 (callN 1000 progL m) (.set 2 (.dct true false .nil .nil)) [some (.str a), some (.str b), none, none, none] S = some (.nx [some (.str a), some (.str b), some (.ref S.length), none, none], S ++ [cntV []]) := rfl
  have p2 : run 1000 (callN 1000 progL m) (.loop (.tp [3, 4]) (.of (.call "all_dots" (.cons (.var 0) (.cons (.var 1) .nil)))) (d_raw_sums_b1)) [some (.str a), some (.str b), some (.ref S.length), none, none] (S ++ [cntV []]) = some (.nx [some (.str a), some (.str b), some (.ref S.length), x3, x4], S ++ [cntV (sumsL a b)]) := by
    simp only [k1, eq_self, Bool.and_self, Bool.and_true, pb_non, pb_bl, pb_int, pb_str, pb_tup, pb_lv, pb_dv, pl_nil, pl_cons, pu_ints, pu_strs, pu_sgn, pu_nat, end_rt, end_nx, end_own, run, ev, evs, evT, evI, fin, Option.bind_some, Option.map_some, startE, List.map_cons, List.map_nil, List.length_cons, List.length_nil, List.cons_append, List.nil_append, List.replicate_succ, List.replicate_zero, Nat.reduceAdd, Nat.reduceSub, Nat.zero_add, List.getElem?_cons_zero, List.getElem?_cons_succ, List.set_cons_zero, List.set_cons_succ, wipeE, bindTg, setAll, cmpS, eq_ii, eq_ss, lt_ii, lt_ss, mem_s, p_add_i, p_sub_i, b_len_t, b_len_l, b_abs, b_int, b_tuple_l, b_list_t, b_list_l, m_count, i_tup, i_lv, atI_0, atI_1, atI_2, atI_3, atI_4, decide_eq_true_eq, Bool.not_true, Bool.not_false, Bool.false_eq_true, if_true, if_false, ite_true, ite_false, reduceIte, isNon, walkOf, walkS, isi_non_int, isi_non_str, isi_non_tuple, isi_non_list, isi_non_dict, isi_non_bool, isi_bl_int, isi_bl_str, isi_bl_tuple, isi_bl_list, isi_bl_dict, isi_bl_bool, isi_int_int, isi_int_str, isi_int_tuple, isi_int_list, isi_int_dict, isi_int_bool, isi_str_int, isi_str_str, isi_str_tuple, isi_str_list, isi_str_dict, isi_str_bool, isi_tup_int, isi_tup_str, isi_tup_tuple, isi_tup_list, isi_tup_dict, isi_tup_bool, isi_lv_int, isi_lv_str, isi_lv_tuple, isi_lv_list, isi_lv_dict, isi_lv_bool, isi_dv_int, isi_dv_str, isi_dv_tuple, isi_dv_list, isi_dv_dict, isi_dv_bool, isi_scr_int, isi_scr_str, isi_scr_tuple, isi_scr_list, isi_scr_dict, isi_scr_bool]
    exact p2'
  show (run 1000 (callN 1000 progL m) (.seq _ (.seq _ _)) [some (.str a), some (.str b), none, none, none] S).bind (endC false _) = _
  rw [run_seq p1, run_seq p2]
  exact end_app (shut_ref (Nat.le_refl _) (get_last S _) (pure_cnt _))
theorem slant_sums_ok (hn : 5 ≤ n) {a b : List Nat} (ha : Txt1 0 12 a) (hb : Txt1 0 12 b) : callN 1000 progL n "slant_sums" [.str a, .str b] S = some (cntV (sumsL a b), S) := by
  obtain ⟨m, rfl, hm⟩ := pos_n hn
  rw [callN_at fi_slant_sums rfl]
  have k1 := check_two_ok (S := S) (n := m) (by omega) ha hb
  have k2 := raw_sums_ok (S := S) (n := m) (by omega) ha hb
  simp only [d_slant_sums, k1, k2, end_rt (pure_cnt (sumsL a b)), eq_self, Bool.and_self, Bool.and_true, pb_non, pb_bl, pb_int, pb_str, pb_tup, pb_lv, pb_dv, pl_nil, pl_cons, pu_ints, pu_strs, pu_sgn, pu_nat, end_rt, end_nx, end_own, run, ev, evs, evT, evI, fin, Option.bind_some, Option.map_some, startE, List.map_cons, List.map_nil, List.length_cons, List.length_nil, List.cons_append, List.nil_append, List.replicate_succ, List.replicate_zero, Nat.reduceAdd, Nat.reduceSub, Nat.zero_add, List.getElem?_cons_zero, List.getElem?_cons_succ, List.set_cons_zero, List.set_cons_succ, wipeE, bindTg, setAll, cmpS, eq_ii, eq_ss, lt_ii, lt_ss, mem_s, p_add_i, p_sub_i, b_len_t, b_len_l, b_abs, b_int, b_tuple_l, b_list_t, b_list_l, m_count, i_tup, i_lv, atI_0, atI_1, atI_2, atI_3, atI_4, decide_eq_true_eq, Bool.not_true, Bool.not_false, Bool.false_eq_true, if_true, if_false, ite_true, ite_false, reduceIte, isNon, walkOf, walkS, isi_non_int, isi_non_str, isi_non_tuple, isi_non_list, isi_non_dict, isi_non_bool, isi_bl_int, isi_bl_str, isi_bl_tuple, isi_bl_list, isi_bl_dict, isi_bl_bool, isi_int_int, isi_int_str, isi_int_tuple, isi_int_list, isi_int_dict, isi_int_bool, isi_str_int, isi_str_str, isi_str_tuple, isi_str_list, isi_str_dict, isi_str_bool, isi_tup_int, isi_tup_str, isi_tup_tuple, isi_tup_list, isi_tup_dict, isi_tup_bool, isi_lv_int, isi_lv_str, isi_lv_tuple, isi_lv_list, isi_lv_dict, isi_lv_bool, isi_dv_int, isi_dv_str, isi_dv_tuple, isi_dv_list, isi_dv_dict, isi_dv_bool, isi_scr_int, isi_scr_str, isi_scr_tuple, isi_scr_list, isi_scr_dict, isi_scr_bool]
/-! ### the best shift -/
def kapS (p : Int × Nat) : Int := -(p.2 : Int) * 1000000 + (p.1.natAbs : Int) * 1000 + p.1
abbrev encS (p : Int × Nat) : D := .tup [.int (-(p.2 : Int)), .int (p.1.natAbs : Int), .int p.1]
theorem lt_sh {p q : Int × Nat} (hp : p.1.natAbs ≤ 12) (hq : q.1.natAbs ≤ 12) : PySem.W.dataLt (py (encS p)) (py (encS q)) = decide (kapS p < kapS q) := by
  unfold kapS
  simp only [py, pys]
  rw [lt_int3, Bool.eq_iff_iff, decide_eq_true_eq, decide_eq_true_eq]
  omega
theorem kapS_inj {p q : Int × Nat} (hp : p.1.natAbs ≤ 12) (hq : q.1.natAbs ≤ 12) (h : kapS p = kapS q) : p = q := by
  unfold kapS at h
  obtain ⟨a, b⟩ := p
  obtain ⟨c, d⟩ := q
  simp only at h hp hq
  have h1 : b = d := by omega
  have h2 : a = c := by omega
  rw [h1, h2]
theorem alike_sh (L : List (Int × Nat)) : alikeL (L.map encS) = true := alikeL_of (fun _ => rfl) (fun _ => rfl) fun _ _ => by simp only [py, pys, PySem.W.alike, PySem.W.alikeAll, Bool.and_self]
def bestS : List (Int × Nat) → D
  | [] => .non
  | p :: L => .int (minBy kapS p L).1
theorem abs_eq (i : Int) : (if i < 0 then -i else i) = (i.natAbs : Int) := by split <;> omega
theorem best_shift_ok (hn : 5 ≤ n) {a b : List Nat} (ha : Txt1 0 12 a) (hb : Txt1 0 12 b) : callN 1000 progL n "best_shift" [.str a, .str b] S = some (bestS (sumsL a b), S) := by
  obtain ⟨m, rfl, hm⟩ := pos_n hn
  rw [callN_at fi_best_shift rfl]
  have k1 := check_two_ok (S := S) (n := m) (by omega) ha hb
  have k2 := raw_sums_ok (S := S) (n := m) (by omega) ha hb
  have hl : (sumsL a b).length ≤ 144 := by
    have := sumsOf_144 ha hb (allD a b).length
    rwa [List.take_length] at this
  have l3 : (3 ≤ line) = True := le_line (by omega)
  have small : ∀ t ∈ sumsL a b, t.1.natAbs ≤ 12 := fun t ht => sumsL_small ha hb ht
  have hnd := sumsL_nodup a b
  have c1 : ev 1000 (callN 1000 progL m) d_best_shift_c1 [some (.str a), some (.str b), some (cntV (sumsL a b)), none, none] S = some (.lv ((sumsL a b).map encS), S) := by
    refine lc_map (L := sumsL a b) (φ := fun p => .int p.1) encS (by simp only [List.map_map, eq_self, Bool.and_self, Bool.and_true, pb_non, pb_bl, pb_int, pb_str, pb_tup, pb_lv, pb_dv, pl_nil, pl_cons, pu_ints, pu_strs, pu_sgn, pu_nat, end_rt, end_nx, end_own, run, ev, evs, evT, evI, fin, Option.bind_some, Option.map_some, startE, List.map_cons, List.map_nil, List.length_cons, List.length_nil, List.cons_append, List.nil_append, List.replicate_succ, List.replicate_zero, Nat.reduceAdd, Nat.reduceSub, Nat.zero_add, List.getElem?_cons_zero, List.getElem?_cons_succ, List.set_cons_zero, List.set_cons_succ, wipeE, bindTg, setAll, cmpS, eq_ii, eq_ss, lt_ii, lt_ss, mem_s, p_add_i, p_sub_i, b_len_t, b_len_l, b_abs, b_int, b_tuple_l, b_list_t, b_list_l, m_count, i_tup, i_lv, atI_0, atI_1, atI_2, atI_3, atI_4, decide_eq_true_eq, Bool.not_true, Bool.not_false, Bool.false_eq_true, if_true, if_false, ite_true, ite_false, reduceIte, isNon, walkOf, walkS, isi_non_int, isi_non_str, isi_non_tuple, isi_non_list, isi_non_dict, isi_non_bool, isi_bl_int, isi_bl_str, isi_bl_tuple, isi_bl_list, isi_bl_dict, isi_bl_bool, isi_int_int, isi_int_str, isi_int_tuple, isi_int_list, isi_int_dict, isi_int_bool, isi_str_int, isi_str_str, isi_str_tuple, isi_str_list, isi_str_dict, isi_str_bool, isi_tup_int, isi_tup_str, isi_tup_tuple, isi_tup_list, isi_tup_dict, isi_tup_bool, isi_lv_int, isi_lv_str, isi_lv_tuple, isi_lv_list, isi_lv_dict, isi_lv_bool, isi_dv_int, isi_dv_str, isi_dv_tuple, isi_dv_list, isi_dv_dict, isi_dv_bool, isi_scr_int, isi_scr_str, isi_scr_tuple, isi_scr_list, isi_scr_dict, isi_scr_bool]; rfl) (fun t ht => ?_) (ll (by omega))
    have hi := item_cnt (S := S) hnd ht
    simp only [turnF, hi, l3, abs_eq, eq_self, Bool.and_self, Bool.and_true, pb_non, pb_bl, pb_int, pb_str, pb_tup, pb_lv, pb_dv, pl_nil, pl_cons, pu_ints, pu_strs, pu_sgn, pu_nat, end_rt, end_nx, end_own, run, ev, evs, evT, evI, fin, Option.bind_some, Option.map_some, startE, List.map_cons, List.map_nil, List.length_cons, List.length_nil, List.cons_append, List.nil_append, List.replicate_succ, List.replicate_zero, Nat.reduceAdd, Nat.reduceSub, Nat.zero_add, List.getElem?_cons_zero, List.getElem?_cons_succ, List.set_cons_zero, List.set_cons_succ, wipeE, bindTg, setAll, cmpS, eq_ii, eq_ss, lt_ii, lt_ss, mem_s, p_add_i, p_sub_i, b_len_t, b_len_l, b_abs, b_int, b_tuple_l, b_list_t, b_list_l, m_count, i_tup, i_lv, atI_0, atI_1, atI_2, atI_3, atI_4, decide_eq_true_eq, Bool.not_true, Bool.not_false, Bool.false_eq_true, if_true, if_false, ite_true, ite_false, reduceIte, isNon, walkOf, walkS, isi_non_int, isi_non_str, isi_non_tuple, isi_non_list, isi_non_dict, isi_non_bool, isi_bl_int, isi_bl_str, isi_bl_tuple, isi_bl_list, isi_bl_dict, isi_bl_bool, isi_int_int, isi_int_str, isi_int_tuple, isi_int_list, isi_int_dict, isi_int_bool, isi_str_int, isi_str_str, isi_str_tuple, isi_str_list, isi_str_dict, isi_str_bool, isi_tup_int, isi_tup_str, isi_tup_tuple, isi_tup_list, isi_tup_dict, isi_tup_bool, isi_lv_int, isi_lv_str, isi_lv_tuple, isi_lv_list, isi_lv_dict, isi_lv_bool, isi_dv_int, isi_dv_str, isi_dv_tuple, isi_dv_list, isi_dv_dict, isi_dv_bool, isi_scr_int, isi_scr_str, isi_scr_tuple, isi_scr_list, isi_scr_dict, isi_scr_bool]
  cases e : sumsL a b with
  | nil =>
    rw [e] at c1 k2
    simp only [d_best_shift, k1, k2, c1, bestS, show ¬ (0 : Int) < ((0 : Nat) : Int) from by decide, decide_false, eq_self, Bool.and_self, Bool.and_true, pb_non, pb_bl, pb_int, pb_str, pb_tup, pb_lv, pb_dv, pl_nil, pl_cons, pu_ints, pu_strs, pu_sgn, pu_nat, end_rt, end_nx, end_own, run, ev, evs, evT, evI, fin, Option.bind_some, Option.map_some, startE, List.map_cons, List.map_nil, List.length_cons, List.length_nil, List.cons_append, List.nil_append, List.replicate_succ, List.replicate_zero, Nat.reduceAdd, Nat.reduceSub, Nat.zero_add, List.getElem?_cons_zero, List.getElem?_cons_succ, List.set_cons_zero, List.set_cons_succ, wipeE, bindTg, setAll, cmpS, eq_ii, eq_ss, lt_ii, lt_ss, mem_s, p_add_i, p_sub_i, b_len_t, b_len_l, b_abs, b_int, b_tuple_l, b_list_t, b_list_l, m_count, i_tup, i_lv, atI_0, atI_1, atI_2, atI_3, atI_4, decide_eq_true_eq, Bool.not_true, Bool.not_false, Bool.false_eq_true, if_true, if_false, ite_true, ite_false, reduceIte, isNon, walkOf, walkS, isi_non_int, isi_non_str, isi_non_tuple, isi_non_list, isi_non_dict, isi_non_bool, isi_bl_int, isi_bl_str, isi_bl_tuple, isi_bl_list, isi_bl_dict, isi_bl_bool, isi_int_int, isi_int_str, isi_int_tuple, isi_int_list, isi_int_dict, isi_int_bool, isi_str_int, isi_str_str, isi_str_tuple, isi_str_list, isi_str_dict, isi_str_bool, isi_tup_int, isi_tup_str, isi_tup_tuple, isi_tup_list, isi_tup_dict, isi_tup_bool, isi_lv_int, isi_lv_str, isi_lv_tuple, isi_lv_list, isi_lv_dict, isi_lv_bool, isi_dv_int, isi_dv_str, isi_dv_tuple, isi_dv_list, isi_dv_dict, isi_dv_bool, isi_scr_int, isi_scr_str, isi_scr_tuple, isi_scr_list, isi_scr_dict, isi_scr_bool]
  | cons t L =>
    rw [e] at c1 small k2
    have hmin : bltS .min [.lv ((t :: L).map encS)] S = some (.val (encS (minBy kapS t L))) := by
      have hm := minL_map (φ := encS) (κ := kapS) (x := t) (xs := L) fun y hy z hz => lt_sh (small y hy) (small z hz)
      have ha := alike_sh (t :: L)
      show (if alikeL (encS t :: L.map encS) = true then some (PR.val (minL (encS t) (L.map encS))) else none) = _
      rw [if_pos (show alikeL (encS t :: L.map encS) = true from ha), hm]
    have hpos : (0 : Int) < (((L.map encS).length + 1 : Nat) : Int) := by omega
    have k2' : callN 1000 progL m "raw_sums" [.str a, .str b] S = some (cntV (t :: L), S) := k2
    generalize hcv : cntV (t :: L) = cv at k2' c1
    rw [List.map_cons] at c1 hmin
    simp only [d_best_shift, k1, k2', c1, bestS, hmin, hpos, decide_true, b_len_l, eq_self, Bool.and_self, Bool.and_true, pb_non, pb_bl, pb_int, pb_str, pb_tup, pb_lv, pb_dv, pl_nil, pl_cons, pu_ints, pu_strs, pu_sgn, pu_nat, end_rt, end_nx, end_own, run, ev, evs, evT, evI, fin, Option.bind_some, Option.map_some, startE, List.map_cons, List.map_nil, List.length_cons, List.length_nil, List.cons_append, List.nil_append, List.replicate_succ, List.replicate_zero, Nat.reduceAdd, Nat.reduceSub, Nat.zero_add, List.getElem?_cons_zero, List.getElem?_cons_succ, List.set_cons_zero, List.set_cons_succ, wipeE, bindTg, setAll, cmpS, eq_ii, eq_ss, lt_ii, lt_ss, mem_s, p_add_i, p_sub_i, b_len_t, b_len_l, b_abs, b_int, b_tuple_l, b_list_t, b_list_l, m_count, i_tup, i_lv, atI_0, atI_1, atI_2, atI_3, atI_4, decide_eq_true_eq, Bool.not_true, Bool.not_false, Bool.false_eq_true, if_true, if_false, ite_true, ite_false, reduceIte, isNon, walkOf, walkS, isi_non_int, isi_non_str, isi_non_tuple, isi_non_list, isi_non_dict, isi_non_bool, isi_bl_int, isi_bl_str, isi_bl_tuple, isi_bl_list, isi_bl_dict, isi_bl_bool, isi_int_int, isi_int_str, isi_int_tuple, isi_int_list, isi_int_dict, isi_int_bool, isi_str_int, isi_str_str, isi_str_tuple, isi_str_list, isi_str_dict, isi_str_bool, isi_tup_int, isi_tup_str, isi_tup_tuple, isi_tup_list, isi_tup_dict, isi_tup_bool, isi_lv_int, isi_lv_str, isi_lv_tuple, isi_lv_list, isi_lv_dict, isi_lv_bool, isi_dv_int, isi_dv_str, isi_dv_tuple, isi_dv_list, isi_dv_dict, isi_dv_bool, isi_scr_int, isi_scr_str, isi_scr_tuple, isi_scr_list, isi_scr_dict, isi_scr_bool]
theorem rows_without_ok (hn : 5 ≤ n) {a b : List Nat} (ha : Txt1 0 12 a) (hb : Txt1 0 12 b) : callN 1000 progL n "rows_without" [.str a, .str b] S = some (.tup (natsV ((List.range a.length).filter fun i => !decide (a[i]?.getD 0 ∈ b))), S) := by
  obtain ⟨m, rfl, hm⟩ := pos_n hn
  rw [callN_at fi_rows_without rfl]
  have k1 := check_two_ok (S := S) (n := m) (by omega) ha hb
  have c1 : ev 1000 (callN 1000 progL m) d_rows_without_c1 [some (.str a), some (.str b), none, none] S = some (.lv (natsV ((List.range a.length).filter fun i => !decide (a[i]?.getD 0 ∈ b))), S) := by
    have e := enum_rng (fun c : Nat => D.str [c]) 0 a
    refine lc_filter (L := List.range a.length) (φ := fun i : Nat => .tup [.int (i : Nat), .str [a[i]?.getD 0]]) (fun i => !decide (a[i]?.getD 0 ∈ b)) (fun i : Nat => .int (i : Nat)) (by simp only [e, eq_self, Bool.and_self, Bool.and_true, pb_non, pb_bl, pb_int, pb_str, pb_tup, pb_lv, pb_dv, pl_nil, pl_cons, pu_ints, pu_strs, pu_sgn, pu_nat, end_rt, end_nx, end_own, run, ev, evs, evT, evI, fin, Option.bind_some, Option.map_some, startE, List.map_cons, List.map_nil, List.length_cons, List.length_nil, List.cons_append, List.nil_append, List.replicate_succ, List.replicate_zero, Nat.reduceAdd, Nat.reduceSub, Nat.zero_add, List.getElem?_cons_zero, List.getElem?_cons_succ, List.set_cons_zero, List.set_cons_succ, wipeE, bindTg, setAll, cmpS, eq_ii, eq_ss, lt_ii, lt_ss, mem_s, p_add_i, p_sub_i, b_len_t, b_len_l, b_abs, b_int, b_tuple_l, b_list_t, b_list_l, m_count, i_tup, i_lv, atI_0, atI_1, atI_2, atI_3, atI_4, decide_eq_true_eq, Bool.not_true, Bool.not_false, Bool.false_eq_true, if_true, if_false, ite_true, ite_false, reduceIte, isNon, walkOf, walkS, isi_non_int, isi_non_str, isi_non_tuple, isi_non_list, isi_non_dict, isi_non_bool, isi_bl_int, isi_bl_str, isi_bl_tuple, isi_bl_list, isi_bl_dict, isi_bl_bool, isi_int_int, isi_int_str, isi_int_tuple, isi_int_list, isi_int_dict, isi_int_bool, isi_str_int, isi_str_str, isi_str_tuple, isi_str_list, isi_str_dict, isi_str_bool, isi_tup_int, isi_tup_str, isi_tup_tuple, isi_tup_list, isi_tup_dict, isi_tup_bool, isi_lv_int, isi_lv_str, isi_lv_tuple, isi_lv_list, isi_lv_dict, isi_lv_bool, isi_dv_int, isi_dv_str, isi_dv_tuple, isi_dv_list, isi_dv_dict, isi_dv_bool, isi_scr_int, isi_scr_str, isi_scr_tuple, isi_scr_list, isi_scr_dict, isi_scr_bool]) (fun i hi => ?_) (by rw [List.length_range]; exact ll12 ha)
    cases hq : decide (a[i]?.getD 0 ∈ b) <;> simp only [turnF, hq, eq_self, Bool.and_self, Bool.and_true, pb_non, pb_bl, pb_int, pb_str, pb_tup, pb_lv, pb_dv, pl_nil, pl_cons, pu_ints, pu_strs, pu_sgn, pu_nat, end_rt, end_nx, end_own, run, ev, evs, evT, evI, fin, Option.bind_some, Option.map_some, startE, List.map_cons, List.map_nil, List.length_cons, List.length_nil, List.cons_append, List.nil_append, List.replicate_succ, List.replicate_zero, Nat.reduceAdd, Nat.reduceSub, Nat.zero_add, List.getElem?_cons_zero, List.getElem?_cons_succ, List.set_cons_zero, List.set_cons_succ, wipeE, bindTg, setAll, cmpS, eq_ii, eq_ss, lt_ii, lt_ss, mem_s, p_add_i, p_sub_i, b_len_t, b_len_l, b_abs, b_int, b_tuple_l, b_list_t, b_list_l, m_count, i_tup, i_lv, atI_0, atI_1, atI_2, atI_3, atI_4, decide_eq_true_eq, Bool.not_true, Bool.not_false, Bool.false_eq_true, if_true, if_false, ite_true, ite_false, reduceIte, isNon, walkOf, walkS, isi_non_int, isi_non_str, isi_non_tuple, isi_non_list, isi_non_dict, isi_non_bool, isi_bl_int, isi_bl_str, isi_bl_tuple, isi_bl_list, isi_bl_dict, isi_bl_bool, isi_int_int, isi_int_str, isi_int_tuple, isi_int_list, isi_int_dict, isi_int_bool, isi_str_int, isi_str_str, isi_str_tuple, isi_str_list, isi_str_dict, isi_str_bool, isi_tup_int, isi_tup_str, isi_tup_tuple, isi_tup_list, isi_tup_dict, isi_tup_bool, isi_lv_int, isi_lv_str, isi_lv_tuple, isi_lv_list, isi_lv_dict, isi_lv_bool, isi_dv_int, isi_dv_str, isi_dv_tuple, isi_dv_list, isi_dv_dict, isi_dv_bool, isi_scr_int, isi_scr_str, isi_scr_tuple, isi_scr_list, isi_scr_dict, isi_scr_bool]
  simp only [d_rows_without, k1, c1, eq_self, Bool.and_self, Bool.and_true, pb_non, pb_bl, pb_int, pb_str, pb_tup, pb_lv, pb_dv, pl_nil, pl_cons, pu_ints, pu_strs, pu_sgn, pu_nat, end_rt, end_nx, end_own, run, ev, evs, evT, evI, fin, Option.bind_some, Option.map_some, startE, List.map_cons, List.map_nil, List.length_cons, List.length_nil, List.cons_append, List.nil_append, List.replicate_succ, List.replicate_zero, Nat.reduceAdd, Nat.reduceSub, Nat.zero_add, List.getElem?_cons_zero, List.getElem?_cons_succ, List.set_cons_zero, List.set_cons_succ, wipeE, bindTg, setAll, cmpS, eq_ii, eq_ss, lt_ii, lt_ss, mem_s, p_add_i, p_sub_i, b_len_t, b_len_l, b_abs, b_int, b_tuple_l, b_list_t, b_list_l, m_count, i_tup, i_lv, atI_0, atI_1, atI_2, atI_3, atI_4, decide_eq_true_eq, Bool.not_true, Bool.not_false, Bool.false_eq_true, if_true, if_false, ite_true, ite_false, reduceIte, isNon, walkOf, walkS, isi_non_int, isi_non_str, isi_non_tuple, isi_non_list, isi_non_dict, isi_non_bool, isi_bl_int, isi_bl_str, isi_bl_tuple, isi_bl_list, isi_bl_dict, isi_bl_bool, isi_int_int, isi_int_str, isi_int_tuple, isi_int_list, isi_int_dict, isi_int_bool, isi_str_int, isi_str_str, isi_str_tuple, isi_str_list, isi_str_dict, isi_str_bool, isi_tup_int, isi_tup_str, isi_tup_tuple, isi_tup_list, isi_tup_dict, isi_tup_bool, isi_lv_int, isi_lv_str, isi_lv_tuple, isi_lv_list, isi_lv_dict, isi_lv_bool, isi_dv_int, isi_dv_str, isi_dv_tuple, isi_dv_list, isi_dv_dict, isi_dv_bool, isi_scr_int, isi_scr_str, isi_scr_tuple, isi_scr_list, isi_scr_dict, isi_scr_bool]
end
end Pd

namespace Pd
open PySem PySem.Spec PyProof.Rows L2
/-! ### dots as a dict -/
def tk (p : Nat × Nat) : DK := .t [.inl (p.1 : Nat), .inl (p.2 : Nat)]
abbrev slV (P : List (Nat × Nat)) : D := .dv true (P.map tk) (P.map fun _ => .bl true)
theorem tk_inj {p q : Nat × Nat} (h : tk p = tk q) : p = q := by
  unfold tk at h
  simp only [DK.t.injEq, List.cons.injEq, Sum.inl.injEq, and_true] at h
  obtain ⟨a, b⟩ := p
  obtain ⟨c, d⟩ := q
  simp only at h
  rw [show a = c by omega, show b = d by omega]
theorem any_tk (p : Nat × Nat) (P : List (Nat × Nat)) : (P.map tk).any (fun j => decide (j = tk p)) = decide (p ∈ P) := by
  rw [Bool.eq_iff_iff, List.any_eq_true, decide_eq_true_eq]
  constructor
  · rintro ⟨j, hj, e⟩
    obtain ⟨q, hq, rfl⟩ := List.mem_map.mp hj
    exact tk_inj (of_decide_eq_true e) ▸ hq
  · intro h
    exact ⟨tk p, List.mem_map.mpr ⟨p, h, rfl⟩, decide_eq_true rfl⟩
theorem dLook_tk (k : DK) : ∀ P : List (Nat × Nat), (dLook k (P.map tk) (P.map fun _ => D.bl true)).isSome = decide (∃ p ∈ P, tk p = k)
  | [] => by simp [dLook]
  | p :: P => by
    show (if tk p = k then some (D.bl true) else dLook k (P.map tk) (P.map fun _ => D.bl true)).isSome = _
    by_cases h : tk p = k
    · rw [if_pos h]
      simp [h]
    · rw [if_neg h, dLook_tk k P]
      simp [h]
section
variable {n : Nat} {S : Store}
theorem put_tk {l : Nat} {P : List (Nat × Nat)} (h : S[l]? = some (slV P)) (hl : P.length ≤ 1000) {p : Nat × Nat} (hp : p ∉ P) : setS (.ref l) (pairV p) (.bl true) S = some (S.set l (slV (P ++ [p]))) := by
  have h1 : (P.map tk).length < line := by rw [List.length_map]; unfold line; omega
  have hk : asKey (pairV p) = some (tk p) := rfl
  have e : dPut (tk p) (.bl true) (P.map tk) (P.map fun _ => .bl true) = ((P ++ [p]).map tk, (P ++ [p]).map fun _ => D.bl true) := by
    unfold dPut
    rw [any_tk, if_neg (by simpa using hp), List.map_append, List.map_append]
    rfl
  have hf : (tk p).fits true = true := rfl
  simp only [setS, h, hk, hf, Bool.true_and, decide_eq_true_eq, h1, if_true, e]
theorem mem_tk {l : Nat} {a b : List Nat} (h : S[l]? = some (slV (allD a b))) (x y : Int) : memS S (.tup [.int x, .int y]) (.ref l) = some (dotB a b x y) := by
  have hk : asKey (.tup [.int x, .int y]) = some (.t [.inl x, .inl y]) := rfl
  have hf : (DK.t [.inl x, .inl y]).fits true = true := rfl
  have e : (dLook (.t [.inl x, .inl y]) ((allD a b).map tk) ((allD a b).map fun _ => D.bl true)).isSome = dotB a b x y := by
    rw [dLook_tk, Bool.eq_iff_iff, decide_eq_true_eq, dotB_mem]
    constructor
    · rintro ⟨p, hp, e⟩
      unfold tk at e
      simp only [DK.t.injEq, List.cons.injEq, Sum.inl.injEq, and_true] at e
      exact ⟨p, hp, e⟩
    · rintro ⟨p, hp, rfl, rfl⟩
      exact ⟨p, hp, rfl⟩
  simp only [memS, asDk, h, hk, hf, if_true, e]
/-! ### dots in order -/
def lexR (p q : Nat × Nat) : Prop := p.1 < q.1 ∨ (p.1 = q.1 ∧ p.2 < q.2)
theorem rowD_pw (a b : List Nat) (i : Nat) : (rowD a b i).Pairwise lexR := by
  unfold rowD
  rw [List.pairwise_map]
  exact (List.pairwise_lt_range.filter _).imp fun h => .inr ⟨rfl, h⟩
theorem allD_pw (a b : List Nat) : (allD a b).Pairwise lexR := by
  unfold allD
  rw [List.pairwise_flatten]
  refine ⟨fun l hl => ?_, ?_⟩
  · obtain ⟨i, _, rfl⟩ := List.mem_map.mp hl
    exact rowD_pw a b i
  · rw [List.pairwise_map]
    refine List.pairwise_lt_range.imp fun {i j} h x hx y hy => ?_
    obtain ⟨_, _, rfl⟩ := List.mem_map.mp hx
    obtain ⟨_, _, rfl⟩ := List.mem_map.mp hy
    exact .inl h
theorem alike_pair (L : List (Nat × Nat)) : alikeL (L.map pairV) = true := alikeL_of (fun _ => rfl) (fun _ => rfl) fun _ _ => by simp only [py, pys, PySem.W.alike, PySem.W.alikeAll, Bool.and_self]
theorem sortable_pair (L : List (Nat × Nat)) : sortableL (L.map pairV) = true := sort_tup fun x hx => by
  obtain ⟨k, _, rfl⟩ := List.mem_map.mp hx
  rfl
theorem sorted_allD {l : Nat} {a b : List Nat} (h : S[l]? = some (slV (allD a b))) (hl : (allD a b).length ≤ 1000) : bltS .sorted [.ref l] S = some (.new (.lv ((allD a b).map pairV))) := by
  have hd : drawS S (.ref l) = some ((allD a b).map pairV) := by
    simp only [drawS, asSq, asL, asDk, h, List.map_map]
    rfl
  rw [b_sorted hd (alike_pair _) (sortable_pair _) (by rw [List.length_map]; exact ll (by omega)), map_sort]
  congr 4
  refine List.mergeSort_of_pairwise ((allD_pw a b).imp fun {p q} h => ?_)
  unfold leD
  simp only [py, pys]
  rw [PySem.W.dataLt_ii, Bool.not_eq_true', decide_eq_false_iff_not]
  unfold lexR at h
  omega
/-! ### the law's own slants -/
def preI (a b : List Nat) (i : Nat) : List (Nat × Nat) := ((List.range i).map (rowD a b)).flatten
def partI (a b : List Nat) (i j : Nat) : List (Nat × Nat) := ((List.range j).filter fun k => decide (a[i]?.getD 0 = b[k]?.getD 0)).map fun k => (i, k)
theorem part_not {a b : List Nat} {i j : Nat} : (i, j) ∉ preI a b i ++ partI a b i j := fun h => by
  rcases List.mem_append.mp h with h | h
  · obtain ⟨l, hl, h⟩ := List.mem_flatten.mp h
    obtain ⟨k, hk, rfl⟩ := List.mem_map.mp hl
    obtain ⟨_, _, e⟩ := List.mem_map.mp h
    have := List.mem_range.mp hk
    cases e
    omega
  · obtain ⟨k, hk, e⟩ := List.mem_map.mp h
    have := List.mem_range.mp (List.mem_filter.mp hk).1
    cases e
    omega
theorem part_succ (a b : List Nat) (i j : Nat) : partI a b i (j + 1) = partI a b i j ++ if a[i]?.getD 0 = b[j]?.getD 0 then [(i, j)] else [] := by
  unfold partI
  rw [List.range_succ, List.filter_append, List.map_append]
  congr 1
  by_cases h : a[i]?.getD 0 = b[j]?.getD 0
  · rw [if_pos h]; simp [h]
  · rw [if_neg h]; simp [h]
theorem pre_succ (a b : List Nat) (i : Nat) : preI a b (i + 1) = preI a b i ++ partI a b i b.length := by
  unfold preI
  rw [List.range_succ, List.map_append, List.flatten_append]
  simp only [List.map_cons, List.map_nil, List.flatten_cons, List.flatten_nil, List.append_nil]
  rfl
theorem part_len (a b : List Nat) (i j : Nat) : (partI a b i j).length ≤ j := by
  unfold partI
  rw [List.length_map]
  have := List.length_filter_le (fun k => decide (a[i]?.getD 0 = b[k]?.getD 0)) (List.range j)
  rwa [List.length_range] at this
theorem pre_len {a b : List Nat} (hb : b.length ≤ 12) : ∀ i, (preI a b i).length ≤ i * 12
  | 0 => by simp [preI]
  | i + 1 => by
    rw [pre_succ, List.length_append]
    have h1 := pre_len (a := a) hb i
    have h2 := part_len a b i b.length
    omega
abbrev eSl (a b : List Nat) (w : Int) (S : Store) (found : List Tri) (x4 x5 x6 x7 x8 : Option D) : Env := [some (.lv ((rowsL a b).map .str)), some (.int w), some (.lv (found.map triV)), some (.ref S.length), x4, x5, x6, x7, x8]
theorem eSl_snoc (a b : List Nat) (w : Int) (S : Store) (found : List Tri) (t : Tri) (x4 x5 x6 x7 x8 : Option D) : eSl a b w S (found ++ [t]) x4 x5 x6 x7 x8 = [some (.lv ((rowsL a b).map .str)), some (.int w), some (.lv (found.map triV ++ [triV t])), some (.ref S.length), x4, x5, x6, x7, x8] := by
  show [_, _, some (D.lv ((found ++ [t]).map triV)), _, _, _, _, _, _] = _
  rw [List.map_append]
  rfl
theorem row_at {a b : List Nat} {i : Nat} (h : i < a.length) : (rowsL a b)[i]?.getD [] = dotRow b (a[i]?.getD 0) := by
  unfold rowsL
  rw [List.getElem?_map, List.getElem?_eq_getElem h]
  rfl
theorem col_at {b : List Nat} {x j : Nat} (h : j < b.length) : (dotRow b x)[j]?.getD 0 = if x = b[j]?.getD 0 then 35 else 46 := by
  unfold dotRow
  rw [List.getElem?_map, List.getElem?_eq_getElem h]
  rfl
theorem dotRow_len (b : List Nat) (x : Nat) : (dotRow b x).length = b.length := List.length_map _
theorem sl_row {m : Nat} {a b : List Nat} (ha : a.length ≤ 12) (hb : b.length ≤ 12) (w : Int) {i : Nat} (hi : i < a.length) (x6 x7 x8 : Option D) : ∃ x6' x7',
    run 1000 (callN 1000 progL m) d_law_slants_b4 (eSl a b w S [] (some (.int (i : Nat))) (some (.str (dotRow b (a[i]?.getD 0)))) x6 x7 x8) (S ++ [slV (preI a b i)]) =
      some (.nx (eSl a b w S [] (some (.int (i : Nat))) (some (.str (dotRow b (a[i]?.getD 0)))) x6' x7' x8), S ++ [slV (preI a b (i + 1))]) := by
  let row := dotRow b (a[i]?.getD 0)
  obtain ⟨ρ', S', p, x6', x7', hρ, hS⟩ := forFix_inv (g := .tp [6, 7]) (b := run 1000 (callN 1000 progL m) d_law_slants_b3) (φ := fun j : Nat => D.tup [.int (j : Nat), .str [row[j]?.getD 0]])
    (fun j ρ S' => ∃ x6 x7, ρ = eSl a b w S [] (some (.int (i : Nat))) (some (.str row)) x6 x7 x8 ∧ S' = S ++ [slV (preI a b i ++ partI a b i j)])
    (List.range row.length) 0 (eSl a b w S [] (some (.int (i : Nat))) (some (.str row)) x6 x7 x8) (S ++ [slV (preI a b i)]) ⟨x6, x7, rfl, by simp [partI]⟩ (fun k j ρ S' hk ⟨x6, x7, e1, e2⟩ => by
      subst e1 e2
      have hlt := (List.getElem?_eq_some_iff.mp hk).1
      rw [List.length_range] at hlt
      rw [List.getElem?_range hlt] at hk
      cases hk
      have hk : k < b.length := by rw [← dotRow_len b (a[i]?.getD 0)]; exact hlt
      rw [Nat.zero_add, part_succ]
      have hc : row[k]?.getD 0 = if a[i]?.getD 0 = b[k]?.getD 0 then 35 else 46 := col_at hk
      by_cases he : a[i]?.getD 0 = b[k]?.getD 0
      · rw [if_pos he] at hc ⊢
        have hput := put_tk (S := S ++ [slV (preI a b i ++ partI a b i k)]) (get_last _ _) (by
          rw [List.length_append]
          have h1 := pre_len (a := a) (b := b) hb i
          have h2 := part_len a b i k
          omega) (p := (i, k)) part_not
        rw [set_last] at hput
        have hput' : setS (.ref S.length) (.tup [.int (i : Nat), .int (k : Nat)]) (.bl true) (S ++ [slV (preI a b i ++ partI a b i k)]) = some (S ++ [slV (preI a b i ++ partI a b i k ++ [(i, k)])]) := hput
        have l2 : (2 ≤ line) = True := le_line (by omega)
        rw [hc]
        refine ⟨_, eSl a b w S [] (some (.int (i : Nat))) (some (.str row)) (some (.int (k : Nat))) (some (.str [35])) x8, S ++ [slV (preI a b i ++ partI a b i k ++ [(i, k)])], rfl, .inl ?_, _, _, rfl, by rw [List.append_assoc]⟩
        simp only [d_law_slants_b3, l2, hput', decide_true, eq_self, Bool.and_self, Bool.and_true, pb_non, pb_bl, pb_int, pb_str, pb_tup, pb_lv, pb_dv, pl_nil, pl_cons, pu_ints, pu_strs, pu_sgn, pu_nat, end_rt, end_nx, end_own, run, ev, evs, evT, evI, fin, Option.bind_some, Option.map_some, startE, List.map_cons, List.map_nil, List.length_cons, List.length_nil, List.cons_append, List.nil_append, List.replicate_succ, List.replicate_zero, Nat.reduceAdd, Nat.reduceSub, Nat.zero_add, List.getElem?_cons_zero, List.getElem?_cons_succ, List.set_cons_zero, List.set_cons_succ, wipeE, bindTg, setAll, cmpS, eq_ii, eq_ss, lt_ii, lt_ss, mem_s, p_add_i, p_sub_i, b_len_t, b_len_l, b_abs, b_int, b_tuple_l, b_list_t, b_list_l, m_count, i_tup, i_lv, atI_0, atI_1, atI_2, atI_3, atI_4, decide_eq_true_eq, Bool.not_true, Bool.not_false, Bool.false_eq_true, if_true, if_false, ite_true, ite_false, reduceIte, isNon, walkOf, walkS, isi_non_int, isi_non_str, isi_non_tuple, isi_non_list, isi_non_dict, isi_non_bool, isi_bl_int, isi_bl_str, isi_bl_tuple, isi_bl_list, isi_bl_dict, isi_bl_bool, isi_int_int, isi_int_str, isi_int_tuple, isi_int_list, isi_int_dict, isi_int_bool, isi_str_int, isi_str_str, isi_str_tuple, isi_str_list, isi_str_dict, isi_str_bool, isi_tup_int, isi_tup_str, isi_tup_tuple, isi_tup_list, isi_tup_dict, isi_tup_bool, isi_lv_int, isi_lv_str, isi_lv_tuple, isi_lv_list, isi_lv_dict, isi_lv_bool, isi_dv_int, isi_dv_str, isi_dv_tuple, isi_dv_list, isi_dv_dict, isi_dv_bool, isi_scr_int, isi_scr_str, isi_scr_tuple, isi_scr_list, isi_scr_dict, isi_scr_bool]
        rfl
      · rw [if_neg he] at hc ⊢
        rw [hc, List.append_nil]
        refine ⟨_, eSl a b w S [] (some (.int (i : Nat))) (some (.str row)) (some (.int (k : Nat))) (some (.str [46])) x8, _, rfl, .inl ?_, _, _, rfl, rfl⟩
        simp only [d_law_slants_b3, show ¬ [46] = [35] from by decide, decide_false, eq_self, Bool.and_self, Bool.and_true, pb_non, pb_bl, pb_int, pb_str, pb_tup, pb_lv, pb_dv, pl_nil, pl_cons, pu_ints, pu_strs, pu_sgn, pu_nat, end_rt, end_nx, end_own, run, ev, evs, evT, evI, fin, Option.bind_some, Option.map_some, startE, List.map_cons, List.map_nil, List.length_cons, List.length_nil, List.cons_append, List.nil_append, List.replicate_succ, List.replicate_zero, Nat.reduceAdd, Nat.reduceSub, Nat.zero_add, List.getElem?_cons_zero, List.getElem?_cons_succ, List.set_cons_zero, List.set_cons_succ, wipeE, bindTg, setAll, cmpS, eq_ii, eq_ss, lt_ii, lt_ss, mem_s, p_add_i, p_sub_i, b_len_t, b_len_l, b_abs, b_int, b_tuple_l, b_list_t, b_list_l, m_count, i_tup, i_lv, atI_0, atI_1, atI_2, atI_3, atI_4, decide_eq_true_eq, Bool.not_true, Bool.not_false, Bool.false_eq_true, if_true, if_false, ite_true, ite_false, reduceIte, isNon, walkOf, walkS, isi_non_int, isi_non_str, isi_non_tuple, isi_non_list, isi_non_dict, isi_non_bool, isi_bl_int, isi_bl_str, isi_bl_tuple, isi_bl_list, isi_bl_dict, isi_bl_bool, isi_int_int, isi_int_str, isi_int_tuple, isi_int_list, isi_int_dict, isi_int_bool, isi_str_int, isi_str_str, isi_str_tuple, isi_str_list, isi_str_dict, isi_str_bool, isi_tup_int, isi_tup_str, isi_tup_tuple, isi_tup_list, isi_tup_dict, isi_tup_bool, isi_lv_int, isi_lv_str, isi_lv_tuple, isi_lv_list, isi_lv_dict, isi_lv_bool, isi_dv_int, isi_dv_str, isi_dv_tuple, isi_dv_list, isi_dv_dict, isi_dv_bool, isi_scr_int, isi_scr_str, isi_scr_tuple, isi_scr_list, isi_scr_dict, isi_scr_bool]
        rfl)
  subst hρ hS
  rw [List.length_range, Nat.zero_add, show row.length = b.length from dotRow_len b _, ← pre_succ] at p
  refine ⟨x6', x7', ?_⟩
  have e := enum_rng (fun c : Nat => D.str [c]) 0 row
  rw [show row.length = b.length from dotRow_len b _] at e
  show run 1000 (callN 1000 progL m) d_law_slants_b4 (eSl a b w S [] (some (.int (i : Nat))) (some (.str row)) x6 x7 x8) _ = _
  simp only [d_law_slants_b4, e, p, eq_self, Bool.and_self, Bool.and_true, pb_non, pb_bl, pb_int, pb_str, pb_tup, pb_lv, pb_dv, pl_nil, pl_cons, pu_ints, pu_strs, pu_sgn, pu_nat, end_rt, end_nx, end_own, run, ev, evs, evT, evI, fin, Option.bind_some, Option.map_some, startE, List.map_cons, List.map_nil, List.length_cons, List.length_nil, List.cons_append, List.nil_append, List.replicate_succ, List.replicate_zero, Nat.reduceAdd, Nat.reduceSub, Nat.zero_add, List.getElem?_cons_zero, List.getElem?_cons_succ, List.set_cons_zero, List.set_cons_succ, wipeE, bindTg, setAll, cmpS, eq_ii, eq_ss, lt_ii, lt_ss, mem_s, p_add_i, p_sub_i, b_len_t, b_len_l, b_abs, b_int, b_tuple_l, b_list_t, b_list_l, m_count, i_tup, i_lv, atI_0, atI_1, atI_2, atI_3, atI_4, decide_eq_true_eq, Bool.not_true, Bool.not_false, Bool.false_eq_true, if_true, if_false, ite_true, ite_false, reduceIte, isNon, walkOf, walkS, isi_non_int, isi_non_str, isi_non_tuple, isi_non_list, isi_non_dict, isi_non_bool, isi_bl_int, isi_bl_str, isi_bl_tuple, isi_bl_list, isi_bl_dict, isi_bl_bool, isi_int_int, isi_int_str, isi_int_tuple, isi_int_list, isi_int_dict, isi_int_bool, isi_str_int, isi_str_str, isi_str_tuple, isi_str_list, isi_str_dict, isi_str_bool, isi_tup_int, isi_tup_str, isi_tup_tuple, isi_tup_list, isi_tup_dict, isi_tup_bool, isi_lv_int, isi_lv_str, isi_lv_tuple, isi_lv_list, isi_lv_dict, isi_lv_bool, isi_dv_int, isi_dv_str, isi_dv_tuple, isi_dv_list, isi_dv_dict, isi_dv_bool, isi_scr_int, isi_scr_str, isi_scr_tuple, isi_scr_list, isi_scr_dict, isi_scr_bool]
  rfl
theorem one_add (k : Nat) : ((1 + k : Nat) : Int) + 1 = ((1 + (k + 1) : Nat) : Int) := by omega
theorem sl_step {m : Nat} {a b : List Nat} (ha : Txt1 0 12 a) (hb : Txt1 0 12 b) {w : Int} (hw : w.natAbs ≤ 100) {k : Nat} {p : Nat × Nat} (hk : (allD a b)[k]? = some p) (x5 x7 x8 : Option D) : ∃ x8',
    run 1000 (callN 1000 progL m) d_law_slants_b2 (eSl a b w S (((allD a b).take k).filterMap (slAt a b w)) (some (.int (p.1 : Nat))) x5 (some (.int (p.2 : Nat))) x7 x8) (S ++ [slV (allD a b)]) =
      some (.nx (eSl a b w S (((allD a b).take (k + 1)).filterMap (slAt a b w)) (some (.int (p.1 : Nat))) x5 (some (.int (p.2 : Nat))) x7 x8'), S ++ [slV (allD a b)]) := by
  have hg := get_last S (slV (allD a b))
  have hmem := fun x y => mem_tk (S := S ++ [slV (allD a b)]) (a := a) (b := b) hg x y
  have hl := slantsL_len ha hb w k
  rw [slantsL_take hk]
  have l2 : (2 ≤ line) = True := le_line (by omega)
  have l3 : (3 ≤ line) = True := le_line (by omega)
  have l1 : (1 ≤ line) = True := le_line (by omega)
  have l0 : (0 ≤ line) = True := le_line (by omega)
  have hm1 := hmem ((p.1 : Int) - 1) ((p.2 : Int) - w)
  cases hd : dotB a b ((p.1 : Int) - 1) ((p.2 : Int) - w) with
  | true =>
    rw [hd] at hm1
    refine ⟨x8, ?_⟩
    have e : slAt a b w p = none := by unfold slAt; rw [if_pos hd]
    rw [e]
    simp only [d_law_slants_b2, hm1, l2, Option.toList, List.append_nil, eq_self, Bool.and_self, Bool.and_true, pb_non, pb_bl, pb_int, pb_str, pb_tup, pb_lv, pb_dv, pl_nil, pl_cons, pu_ints, pu_strs, pu_sgn, pu_nat, end_rt, end_nx, end_own, run, ev, evs, evT, evI, fin, Option.bind_some, Option.map_some, startE, List.map_cons, List.map_nil, List.length_cons, List.length_nil, List.cons_append, List.nil_append, List.replicate_succ, List.replicate_zero, Nat.reduceAdd, Nat.reduceSub, Nat.zero_add, List.getElem?_cons_zero, List.getElem?_cons_succ, List.set_cons_zero, List.set_cons_succ, wipeE, bindTg, setAll, cmpS, eq_ii, eq_ss, lt_ii, lt_ss, mem_s, p_add_i, p_sub_i, b_len_t, b_len_l, b_abs, b_int, b_tuple_l, b_list_t, b_list_l, m_count, i_tup, i_lv, atI_0, atI_1, atI_2, atI_3, atI_4, decide_eq_true_eq, Bool.not_true, Bool.not_false, Bool.false_eq_true, if_true, if_false, ite_true, ite_false, reduceIte, isNon, walkOf, walkS, isi_non_int, isi_non_str, isi_non_tuple, isi_non_list, isi_non_dict, isi_non_bool, isi_bl_int, isi_bl_str, isi_bl_tuple, isi_bl_list, isi_bl_dict, isi_bl_bool, isi_int_int, isi_int_str, isi_int_tuple, isi_int_list, isi_int_dict, isi_int_bool, isi_str_int, isi_str_str, isi_str_tuple, isi_str_list, isi_str_dict, isi_str_bool, isi_tup_int, isi_tup_str, isi_tup_tuple, isi_tup_list, isi_tup_dict, isi_tup_bool, isi_lv_int, isi_lv_str, isi_lv_tuple, isi_lv_list, isi_lv_dict, isi_lv_bool, isi_dv_int, isi_dv_str, isi_dv_tuple, isi_dv_list, isi_dv_dict, isi_dv_bool, isi_scr_int, isi_scr_str, isi_scr_tuple, isi_scr_list, isi_scr_dict, isi_scr_bool]
  | false =>
    rw [hd] at hm1
    have hp := mem_allD.mp (List.mem_of_getElem? hk)
    have h13 := slen_le (a := a) (b := b) ha.le p.1 p.2 w
    have hge : 1 ≤ slen a b p.1 p.2 w := Classical.byContradiction fun z => by
      have z0 : slen a b p.1 p.2 w = 0 := by omega
      have he := lenP_end (p := fun k => dotB a b ((p.1 : Int) + (k : Int)) ((p.2 : Int) + w * (k : Int))) (n := 13) (by show slen a b p.1 p.2 w < 13; omega)
      rw [show lenP (fun k => dotB a b ((p.1 : Int) + (k : Int)) ((p.2 : Int) + w * (k : Int))) 13 = 0 from z0] at he
      have : dotB a b ((p.1 : Int) + ((0 : Nat) : Int)) ((p.2 : Int) + w * ((0 : Nat) : Int)) = true := by
        have e0 : w * ((0 : Nat) : Int) = 0 := Int.mul_zero w
        rw [e0, Int.add_zero]
        rw [show (p.1 : Int) + ((0 : Nat) : Int) = (p.1 : Int) from by omega]
        exact dotB_mem.mpr ⟨p, List.mem_of_getElem? hk, rfl, rfl⟩
      rw [this] at he
      cases he
    obtain ⟨d, hd1⟩ : ∃ d, slen a b p.1 p.2 w = d + 1 := ⟨slen a b p.1 p.2 w - 1, by omega⟩
    let found := ((allD a b).take k).filterMap (slAt a b w)
    have cond : ∀ q : Nat, ev 1000 (callN 1000 progL m) (.cmp .mem (.tup (.cons (.op .add (.var 4) (.var 8)) (.cons (d_law_slants_o1) .nil))) (.var 3)) (eSl a b w S found (some (.int (p.1 : Nat))) x5 (some (.int (p.2 : Nat))) x7 (some (.int (1 + q : Nat)))) (S ++ [slV (allD a b)]) =
        some (.bl (dotB a b ((p.1 : Int) + ((1 + q : Nat) : Int)) ((p.2 : Int) + w * ((1 + q : Nat) : Int))), S ++ [slV (allD a b)]) := fun q => by
      have hmul := p_mul_ij (S := S ++ [slV (allD a b)]) (j := ((1 + q : Nat) : Int)) hw
      have hm2 := hmem ((p.1 : Int) + ((1 + q : Nat) : Int)) ((p.2 : Int) + w * ((1 + q : Nat) : Int))
      simp only [d_law_slants_o1, hmul, l2, hm2, eq_self, Bool.and_self, Bool.and_true, pb_non, pb_bl, pb_int, pb_str, pb_tup, pb_lv, pb_dv, pl_nil, pl_cons, pu_ints, pu_strs, pu_sgn, pu_nat, end_rt, end_nx, end_own, run, ev, evs, evT, evI, fin, Option.bind_some, Option.map_some, startE, List.map_cons, List.map_nil, List.length_cons, List.length_nil, List.cons_append, List.nil_append, List.replicate_succ, List.replicate_zero, Nat.reduceAdd, Nat.reduceSub, Nat.zero_add, List.getElem?_cons_zero, List.getElem?_cons_succ, List.set_cons_zero, List.set_cons_succ, wipeE, bindTg, setAll, cmpS, eq_ii, eq_ss, lt_ii, lt_ss, mem_s, p_add_i, p_sub_i, b_len_t, b_len_l, b_abs, b_int, b_tuple_l, b_list_t, b_list_l, m_count, i_tup, i_lv, atI_0, atI_1, atI_2, atI_3, atI_4, decide_eq_true_eq, Bool.not_true, Bool.not_false, Bool.false_eq_true, if_true, if_false, ite_true, ite_false, reduceIte, isNon, walkOf, walkS, isi_non_int, isi_non_str, isi_non_tuple, isi_non_list, isi_non_dict, isi_non_bool, isi_bl_int, isi_bl_str, isi_bl_tuple, isi_bl_list, isi_bl_dict, isi_bl_bool, isi_int_int, isi_int_str, isi_int_tuple, isi_int_list, isi_int_dict, isi_int_bool, isi_str_int, isi_str_str, isi_str_tuple, isi_str_list, isi_str_dict, isi_str_bool, isi_tup_int, isi_tup_str, isi_tup_tuple, isi_tup_list, isi_tup_dict, isi_tup_bool, isi_lv_int, isi_lv_str, isi_lv_tuple, isi_lv_list, isi_lv_dict, isi_lv_bool, isi_dv_int, isi_dv_str, isi_dv_tuple, isi_dv_list, isi_dv_dict, isi_dv_bool, isi_scr_int, isi_scr_str, isi_scr_tuple, isi_scr_list, isi_scr_dict, isi_scr_bool]
    have hw' := whl_run0 (fu := 1000) (Φ := callN 1000 progL m) (c := .cmp .mem (.tup (.cons (.op .add (.var 4) (.var 8)) (.cons (d_law_slants_o1) .nil))) (.var 3)) (b := d_law_slants_b1) (S := S ++ [slV (allD a b)])
      (ρ := fun q : Nat => eSl a b w S found (some (.int (p.1 : Nat))) x5 (some (.int (p.2 : Nat))) x7 (some (.int (1 + q : Nat)))) (k := d) (fun q hq => by
        have ht : dotB a b ((p.1 : Int) + ((1 + q : Nat) : Int)) ((p.2 : Int) + w * ((1 + q : Nat) : Int)) = true := lenP_lt (p := fun k => dotB a b ((p.1 : Int) + (k : Int)) ((p.2 : Int) + w * (k : Int))) (n := 13) (i := 1 + q) (by show 1 + q < slen a b p.1 p.2 w; omega)
        rw [cond q, ht]) (fun q hq => by
        simp only [d_law_slants_b1, one_add, eq_self, Bool.and_self, Bool.and_true, pb_non, pb_bl, pb_int, pb_str, pb_tup, pb_lv, pb_dv, pl_nil, pl_cons, pu_ints, pu_strs, pu_sgn, pu_nat, end_rt, end_nx, end_own, run, ev, evs, evT, evI, fin, Option.bind_some, Option.map_some, startE, List.map_cons, List.map_nil, List.length_cons, List.length_nil, List.cons_append, List.nil_append, List.replicate_succ, List.replicate_zero, Nat.reduceAdd, Nat.reduceSub, Nat.zero_add, List.getElem?_cons_zero, List.getElem?_cons_succ, List.set_cons_zero, List.set_cons_succ, wipeE, bindTg, setAll, cmpS, eq_ii, eq_ss, lt_ii, lt_ss, mem_s, p_add_i, p_sub_i, b_len_t, b_len_l, b_abs, b_int, b_tuple_l, b_list_t, b_list_l, m_count, i_tup, i_lv, atI_0, atI_1, atI_2, atI_3, atI_4, decide_eq_true_eq, Bool.not_true, Bool.not_false, Bool.false_eq_true, if_true, if_false, ite_true, ite_false, reduceIte, isNon, walkOf, walkS, isi_non_int, isi_non_str, isi_non_tuple, isi_non_list, isi_non_dict, isi_non_bool, isi_bl_int, isi_bl_str, isi_bl_tuple, isi_bl_list, isi_bl_dict, isi_bl_bool, isi_int_int, isi_int_str, isi_int_tuple, isi_int_list, isi_int_dict, isi_int_bool, isi_str_int, isi_str_str, isi_str_tuple, isi_str_list, isi_str_dict, isi_str_bool, isi_tup_int, isi_tup_str, isi_tup_tuple, isi_tup_list, isi_tup_dict, isi_tup_bool, isi_lv_int, isi_lv_str, isi_lv_tuple, isi_lv_list, isi_lv_dict, isi_lv_bool, isi_dv_int, isi_dv_str, isi_dv_tuple, isi_dv_list, isi_dv_dict, isi_dv_bool, isi_scr_int, isi_scr_str, isi_scr_tuple, isi_scr_list, isi_scr_dict, isi_scr_bool]) (by
        have he : dotB a b ((p.1 : Int) + ((slen a b p.1 p.2 w : Nat) : Int)) ((p.2 : Int) + w * ((slen a b p.1 p.2 w : Nat) : Int)) = false := lenP_end (p := fun k => dotB a b ((p.1 : Int) + (k : Int)) ((p.2 : Int) + w * (k : Int))) (n := 13) (by show slen a b p.1 p.2 w < 13; omega)
        rw [show slen a b p.1 p.2 w = 1 + d from by omega] at he
        rw [cond, he]) (by omega)
    have hfl : found.length ≤ 144 := hl
    have es : ((1 + d : Nat) : Int) = ((slen a b p.1 p.2 w : Nat) : Int) := by omega
    rw [es] at hw'
    refine ⟨some (.int (slen a b p.1 p.2 w : Nat)), ?_⟩
    have hw0 : run 1000 (callN 1000 progL m) (.whl (.cmp .mem (.tup (.cons (.op .add (.var 4) (.var 8)) (.cons (d_law_slants_o1) .nil))) (.var 3)) d_law_slants_b1) [some (.lv ((rowsL a b).map .str)), some (.int w), some (.lv (found.map triV)), some (.ref S.length), some (.int (p.1 : Nat)), x5, some (.int (p.2 : Nat)), x7, some (.int 1)] (S ++ [slV (allD a b)]) = some (.nx (eSl a b w S found (some (.int (p.1 : Nat))) x5 (some (.int (p.2 : Nat))) x7 (some (.int (slen a b p.1 p.2 w : Nat)))), S ++ [slV (allD a b)]) := hw'
    have seqs : ∀ (found' : List Tri) , run 1000 (callN 1000 progL m) (.set 2 (.op .add (.var 2) (.ite (.cmp .gt (.var 8) (.int 1)) (.lst false (.cons (.tup (.cons (.var 4) (.cons (.var 6) (.cons (.var 8) .nil)))) .nil)) (.lst false (.nil))))) (eSl a b w S found (some (.int (p.1 : Nat))) x5 (some (.int (p.2 : Nat))) x7 (some (.int (slen a b p.1 p.2 w : Nat)))) (S ++ [slV (allD a b)]) = some (.nx (eSl a b w S found' (some (.int (p.1 : Nat))) x5 (some (.int (p.2 : Nat))) x7 (some (.int (slen a b p.1 p.2 w : Nat)))), S ++ [slV (allD a b)]) →
        run 1000 (callN 1000 progL m) d_law_slants_b2 (eSl a b w S found (some (.int (p.1 : Nat))) x5 (some (.int (p.2 : Nat))) x7 x8) (S ++ [slV (allD a b)]) = some (.nx (eSl a b w S found' (some (.int (p.1 : Nat))) x5 (some (.int (p.2 : Nat))) x7 (some (.int (slen a b p.1 p.2 w : Nat)))), S ++ [slV (allD a b)]) := fun found' h => by
      have inner : run 1000 (callN 1000 progL m) (.seq (.set 8 (.int 1)) (.seq (.whl (.cmp .mem (.tup (.cons (.op .add (.var 4) (.var 8)) (.cons (d_law_slants_o1) .nil))) (.var 3)) d_law_slants_b1) (.seq (.set 2 (.op .add (.var 2) (.ite (.cmp .gt (.var 8) (.int 1)) (.lst false (.cons (.tup (.cons (.var 4) (.cons (.var 6) (.cons (.var 8) .nil)))) .nil)) (.lst false (.nil))))) .skip))) (eSl a b w S found (some (.int (p.1 : Nat))) x5 (some (.int (p.2 : Nat))) x7 x8) (S ++ [slV (allD a b)]) = some (.nx (eSl a b w S found' (some (.int (p.1 : Nat))) x5 (some (.int (p.2 : Nat))) x7 (some (.int (slen a b p.1 p.2 w : Nat)))), S ++ [slV (allD a b)]) := by
        rw [run_seq (ρ1 := [some (.lv ((rowsL a b).map .str)), some (.int w), some (.lv (found.map triV)), some (.ref S.length), some (.int (p.1 : Nat)), x5, some (.int (p.2 : Nat)), x7, some (.int 1)]) rfl, run_seq hw0, run_seq h]
        rfl
      have hcond : ev 1000 (callN 1000 progL m) (.cmp .nmem (.tup (.cons (.op .sub (.var 4) (.int 1)) (.cons (.op .sub (.var 6) (.var 1)) .nil))) (.var 3)) (eSl a b w S found (some (.int (p.1 : Nat))) x5 (some (.int (p.2 : Nat))) x7 x8) (S ++ [slV (allD a b)]) = some (.bl true, S ++ [slV (allD a b)]) := by
        simp only [hm1, l2, eq_self, Bool.and_self, Bool.and_true, pb_non, pb_bl, pb_int, pb_str, pb_tup, pb_lv, pb_dv, pl_nil, pl_cons, pu_ints, pu_strs, pu_sgn, pu_nat, end_rt, end_nx, end_own, run, ev, evs, evT, evI, fin, Option.bind_some, Option.map_some, startE, List.map_cons, List.map_nil, List.length_cons, List.length_nil, List.cons_append, List.nil_append, List.replicate_succ, List.replicate_zero, Nat.reduceAdd, Nat.reduceSub, Nat.zero_add, List.getElem?_cons_zero, List.getElem?_cons_succ, List.set_cons_zero, List.set_cons_succ, wipeE, bindTg, setAll, cmpS, eq_ii, eq_ss, lt_ii, lt_ss, mem_s, p_add_i, p_sub_i, b_len_t, b_len_l, b_abs, b_int, b_tuple_l, b_list_t, b_list_l, m_count, i_tup, i_lv, atI_0, atI_1, atI_2, atI_3, atI_4, decide_eq_true_eq, Bool.not_true, Bool.not_false, Bool.false_eq_true, if_true, if_false, ite_true, ite_false, reduceIte, isNon, walkOf, walkS, isi_non_int, isi_non_str, isi_non_tuple, isi_non_list, isi_non_dict, isi_non_bool, isi_bl_int, isi_bl_str, isi_bl_tuple, isi_bl_list, isi_bl_dict, isi_bl_bool, isi_int_int, isi_int_str, isi_int_tuple, isi_int_list, isi_int_dict, isi_int_bool, isi_str_int, isi_str_str, isi_str_tuple, isi_str_list, isi_str_dict, isi_str_bool, isi_tup_int, isi_tup_str, isi_tup_tuple, isi_tup_list, isi_tup_dict, isi_tup_bool, isi_lv_int, isi_lv_str, isi_lv_tuple, isi_lv_list, isi_lv_dict, isi_lv_bool, isi_dv_int, isi_dv_str, isi_dv_tuple, isi_dv_list, isi_dv_dict, isi_dv_bool, isi_scr_int, isi_scr_str, isi_scr_tuple, isi_scr_list, isi_scr_dict, isi_scr_bool]
      have hite : run 1000 (callN 1000 progL m) (.ite (.cmp .nmem (.tup (.cons (.op .sub (.var 4) (.int 1)) (.cons (.op .sub (.var 6) (.var 1)) .nil))) (.var 3)) (.seq (.set 8 (.int 1)) (.seq (.whl (.cmp .mem (.tup (.cons (.op .add (.var 4) (.var 8)) (.cons (d_law_slants_o1) .nil))) (.var 3)) d_law_slants_b1) (.seq (.set 2 (.op .add (.var 2) (.ite (.cmp .gt (.var 8) (.int 1)) (.lst false (.cons (.tup (.cons (.var 4) (.cons (.var 6) (.cons (.var 8) .nil)))) .nil)) (.lst false (.nil))))) .skip))) .skip) (eSl a b w S found (some (.int (p.1 : Nat))) x5 (some (.int (p.2 : Nat))) x7 x8) (S ++ [slV (allD a b)]) = some (.nx (eSl a b w S found' (some (.int (p.1 : Nat))) x5 (some (.int (p.2 : Nat))) x7 (some (.int (slen a b p.1 p.2 w : Nat)))), S ++ [slV (allD a b)]) := by
        show ((ev 1000 (callN 1000 progL m) _ _ _).bind _) = _
        rw [hcond]
        exact inner
      show run 1000 (callN 1000 progL m) (.seq (.ite _ _ _) .skip) _ _ = _
      rw [run_seq hite]
      rfl
    by_cases h2 : 2 ≤ slen a b p.1 p.2 w
    · have e : slAt a b w p = some (p.1, p.2, slen a b p.1 p.2 w) := by unfold slAt; rw [if_neg (by rw [hd]; exact Bool.false_ne_true), if_pos h2]
      have hlt : (1 : Int) < ((slen a b p.1 p.2 w : Nat) : Int) := by omega
      have ea : opS .add (.lv (found.map triV)) (.lv [.tup [.int (p.1 : Nat), .int (p.2 : Nat), .int (slen a b p.1 p.2 w : Nat)]]) (S ++ [slV (allD a b)]) = some (.new (.lv (found.map triV ++ [.tup [.int (p.1 : Nat), .int (p.2 : Nat), .int (slen a b p.1 p.2 w : Nat)]]))) := by
        show (if _ then _ else _) = _
        rw [if_pos (ll (by rw [List.length_map]; simp; omega))]
      rw [e]
      refine seqs (found ++ [(p.1, p.2, slen a b p.1 p.2 w)]) ?_
      rw [eSl_snoc]
      simp only [hlt, ea, l1, l3, decide_true, eq_self, Bool.and_self, Bool.and_true, pb_non, pb_bl, pb_int, pb_str, pb_tup, pb_lv, pb_dv, pl_nil, pl_cons, pu_ints, pu_strs, pu_sgn, pu_nat, end_rt, end_nx, end_own, run, ev, evs, evT, evI, fin, Option.bind_some, Option.map_some, startE, List.map_cons, List.map_nil, List.length_cons, List.length_nil, List.cons_append, List.nil_append, List.replicate_succ, List.replicate_zero, Nat.reduceAdd, Nat.reduceSub, Nat.zero_add, List.getElem?_cons_zero, List.getElem?_cons_succ, List.set_cons_zero, List.set_cons_succ, wipeE, bindTg, setAll, cmpS, eq_ii, eq_ss, lt_ii, lt_ss, mem_s, p_add_i, p_sub_i, b_len_t, b_len_l, b_abs, b_int, b_tuple_l, b_list_t, b_list_l, m_count, i_tup, i_lv, atI_0, atI_1, atI_2, atI_3, atI_4, decide_eq_true_eq, Bool.not_true, Bool.not_false, Bool.false_eq_true, if_true, if_false, ite_true, ite_false, reduceIte, isNon, walkOf, walkS, isi_non_int, isi_non_str, isi_non_tuple, isi_non_list, isi_non_dict, isi_non_bool, isi_bl_int, isi_bl_str, isi_bl_tuple, isi_bl_list, isi_bl_dict, isi_bl_bool, isi_int_int, isi_int_str, isi_int_tuple, isi_int_list, isi_int_dict, isi_int_bool, isi_str_int, isi_str_str, isi_str_tuple, isi_str_list, isi_str_dict, isi_str_bool, isi_tup_int, isi_tup_str, isi_tup_tuple, isi_tup_list, isi_tup_dict, isi_tup_bool, isi_lv_int, isi_lv_str, isi_lv_tuple, isi_lv_list, isi_lv_dict, isi_lv_bool, isi_dv_int, isi_dv_str, isi_dv_tuple, isi_dv_list, isi_dv_dict, isi_dv_bool, isi_scr_int, isi_scr_str, isi_scr_tuple, isi_scr_list, isi_scr_dict, isi_scr_bool]
    · have e : slAt a b w p = none := by unfold slAt; rw [if_neg (by rw [hd]; exact Bool.false_ne_true), if_neg h2]
      have hlt : ¬ (1 : Int) < ((slen a b p.1 p.2 w : Nat) : Int) := by omega
      have ea : opS .add (.lv (found.map triV)) (.lv []) (S ++ [slV (allD a b)]) = some (.new (.lv (found.map triV))) := by
        show (if _ then _ else _) = _
        rw [if_pos (ll (by rw [List.length_map]; simp; omega)), List.append_nil]
      rw [e, Option.toList, List.append_nil]
      refine seqs found ?_
      simp only [hlt, ea, l0, decide_false, eq_self, Bool.and_self, Bool.and_true, pb_non, pb_bl, pb_int, pb_str, pb_tup, pb_lv, pb_dv, pl_nil, pl_cons, pu_ints, pu_strs, pu_sgn, pu_nat, end_rt, end_nx, end_own, run, ev, evs, evT, evI, fin, Option.bind_some, Option.map_some, startE, List.map_cons, List.map_nil, List.length_cons, List.length_nil, List.cons_append, List.nil_append, List.replicate_succ, List.replicate_zero, Nat.reduceAdd, Nat.reduceSub, Nat.zero_add, List.getElem?_cons_zero, List.getElem?_cons_succ, List.set_cons_zero, List.set_cons_succ, wipeE, bindTg, setAll, cmpS, eq_ii, eq_ss, lt_ii, lt_ss, mem_s, p_add_i, p_sub_i, b_len_t, b_len_l, b_abs, b_int, b_tuple_l, b_list_t, b_list_l, m_count, i_tup, i_lv, atI_0, atI_1, atI_2, atI_3, atI_4, decide_eq_true_eq, Bool.not_true, Bool.not_false, Bool.false_eq_true, if_true, if_false, ite_true, ite_false, reduceIte, isNon, walkOf, walkS, isi_non_int, isi_non_str, isi_non_tuple, isi_non_list, isi_non_dict, isi_non_bool, isi_bl_int, isi_bl_str, isi_bl_tuple, isi_bl_list, isi_bl_dict, isi_bl_bool, isi_int_int, isi_int_str, isi_int_tuple, isi_int_list, isi_int_dict, isi_int_bool, isi_str_int, isi_str_str, isi_str_tuple, isi_str_list, isi_str_dict, isi_str_bool, isi_tup_int, isi_tup_str, isi_tup_tuple, isi_tup_list, isi_tup_dict, isi_tup_bool, isi_lv_int, isi_lv_str, isi_lv_tuple, isi_lv_list, isi_lv_dict, isi_lv_bool, isi_dv_int, isi_dv_str, isi_dv_tuple, isi_dv_list, isi_dv_dict, isi_dv_bool, isi_scr_int, isi_scr_str, isi_scr_tuple, isi_scr_list, isi_scr_dict, isi_scr_bool]
theorem law_slants_ok (hn : 1 ≤ n) {a b : List Nat} (ha : Txt1 0 12 a) (hb : Txt1 0 12 b) {w : Int} (hw : w.natAbs ≤ 100) : callN 1000 progL n "_law_slants" [.lv ((rowsL a b).map .str), .int w] S = some (.lv ((slantsL a b w).map triV), S) := by
  obtain ⟨m, rfl, hm⟩ := pos_n hn
  rw [callN_at fi_law_slants rfl]
  have h144 := allD_144 ha hb
  have l0 : (0 ≤ line) = True := le_line (by omega)
  have p1 : run 1000 (callN 1000 progL m) (.par [2, 3] (.cons (.lst false (.nil)) (.cons (.dct true true .nil .nil) (.nil)))) [some (.lv ((rowsL a b).map .str)), some (.int w), none, none, none, none, none, none, none] S = some (.nx (eSl a b w S [] none none none none none), S ++ [slV []]) := by
    simp only [l0, eq_self, Bool.and_self, Bool.and_true, pb_non, pb_bl, pb_int, pb_str, pb_tup, pb_lv, pb_dv, pl_nil, pl_cons, pu_ints, pu_strs, pu_sgn, pu_nat, end_rt, end_nx, end_own, run, ev, evs, evT, evI, fin, Option.bind_some, Option.map_some, startE, List.map_cons, List.map_nil, List.length_cons, List.length_nil, List.cons_append, List.nil_append, List.replicate_succ, List.replicate_zero, Nat.reduceAdd, Nat.reduceSub, Nat.zero_add, List.getElem?_cons_zero, List.getElem?_cons_succ, List.set_cons_zero, List.set_cons_succ, wipeE, bindTg, setAll, cmpS, eq_ii, eq_ss, lt_ii, lt_ss, mem_s, p_add_i, p_sub_i, b_len_t, b_len_l, b_abs, b_int, b_tuple_l, b_list_t, b_list_l, m_count, i_tup, i_lv, atI_0, atI_1, atI_2, atI_3, atI_4, decide_eq_true_eq, Bool.not_true, Bool.not_false, Bool.false_eq_true, if_true, if_false, ite_true, ite_false, reduceIte, isNon, walkOf, walkS, isi_non_int, isi_non_str, isi_non_tuple, isi_non_list, isi_non_dict, isi_non_bool, isi_bl_int, isi_bl_str, isi_bl_tuple, isi_bl_list, isi_bl_dict, isi_bl_bool, isi_int_int, isi_int_str, isi_int_tuple, isi_int_list, isi_int_dict, isi_int_bool, isi_str_int, isi_str_str, isi_str_tuple, isi_str_list, isi_str_dict, isi_str_bool, isi_tup_int, isi_tup_str, isi_tup_tuple, isi_tup_list, isi_tup_dict, isi_tup_bool, isi_lv_int, isi_lv_str, isi_lv_tuple, isi_lv_list, isi_lv_dict, isi_lv_bool, isi_dv_int, isi_dv_str, isi_dv_tuple, isi_dv_list, isi_dv_dict, isi_dv_bool, isi_scr_int, isi_scr_str, isi_scr_tuple, isi_scr_list, isi_scr_dict, isi_scr_bool]
    rfl
  obtain ⟨ρ2, S2, p2', x4, x5, x6, x7, hρ2, hS2⟩ := forFix_inv (g := .tp [4, 5]) (b := run 1000 (callN 1000 progL m) d_law_slants_b4) (φ := fun i : Nat => D.tup [.int (i : Nat), .str ((rowsL a b)[i]?.getD [])])
    (fun i ρ S' => ∃ x4 x5 x6 x7, ρ = eSl a b w S [] x4 x5 x6 x7 none ∧ S' = S ++ [slV (preI a b i)])
    (List.range (rowsL a b).length) 0 (eSl a b w S [] none none none none none) (S ++ [slV []]) ⟨none, none, none, none, rfl, rfl⟩ (fun k i ρ S' hk ⟨x4, x5, x6, x7, e1, e2⟩ => by
      subst e1 e2
      have hlt := (List.getElem?_eq_some_iff.mp hk).1
      rw [List.length_range] at hlt
      rw [List.getElem?_range hlt] at hk
      cases hk
      rw [rowsL_len] at hlt
      obtain ⟨x6', x7', h⟩ := sl_row (S := S) (m := m) ha.le hb.le w hlt x6 x7 none
      rw [Nat.zero_add, row_at hlt]
      exact ⟨_, _, _, rfl, .inl h, _, _, _, _, rfl, rfl⟩)
  subst hρ2 hS2
  rw [List.length_range, Nat.zero_add, rowsL_len, show preI a b a.length = allD a b from rfl] at p2'
  have p2 : run 1000 (callN 1000 progL m) (.loop (.tp [4, 5]) (.enum (.var 0)) (d_law_slants_b4)) (eSl a b w S [] none none none none none) (S ++ [slV []]) = some (.nx (eSl a b w S [] x4 x5 x6 x7 none), S ++ [slV (allD a b)]) := by
    have e := enum_rng (fun c : List Nat => D.str c) [] (rowsL a b)
    rw [rowsL_len] at e
    simp only [e, p2', eq_self, Bool.and_self, Bool.and_true, pb_non, pb_bl, pb_int, pb_str, pb_tup, pb_lv, pb_dv, pl_nil, pl_cons, pu_ints, pu_strs, pu_sgn, pu_nat, end_rt, end_nx, end_own, run, ev, evs, evT, evI, fin, Option.bind_some, Option.map_some, startE, List.map_cons, List.map_nil, List.length_cons, List.length_nil, List.cons_append, List.nil_append, List.replicate_succ, List.replicate_zero, Nat.reduceAdd, Nat.reduceSub, Nat.zero_add, List.getElem?_cons_zero, List.getElem?_cons_succ, List.set_cons_zero, List.set_cons_succ, wipeE, bindTg, setAll, cmpS, eq_ii, eq_ss, lt_ii, lt_ss, mem_s, p_add_i, p_sub_i, b_len_t, b_len_l, b_abs, b_int, b_tuple_l, b_list_t, b_list_l, m_count, i_tup, i_lv, atI_0, atI_1, atI_2, atI_3, atI_4, decide_eq_true_eq, Bool.not_true, Bool.not_false, Bool.false_eq_true, if_true, if_false, ite_true, ite_false, reduceIte, isNon, walkOf, walkS, isi_non_int, isi_non_str, isi_non_tuple, isi_non_list, isi_non_dict, isi_non_bool, isi_bl_int, isi_bl_str, isi_bl_tuple, isi_bl_list, isi_bl_dict, isi_bl_bool, isi_int_int, isi_int_str, isi_int_tuple, isi_int_list, isi_int_dict, isi_int_bool, isi_str_int, isi_str_str, isi_str_tuple, isi_str_list, isi_str_dict, isi_str_bool, isi_tup_int, isi_tup_str, isi_tup_tuple, isi_tup_list, isi_tup_dict, isi_tup_bool, isi_lv_int, isi_lv_str, isi_lv_tuple, isi_lv_list, isi_lv_dict, isi_lv_bool, isi_dv_int, isi_dv_str, isi_dv_tuple, isi_dv_list, isi_dv_dict, isi_dv_bool, isi_scr_int, isi_scr_str, isi_scr_tuple, isi_scr_list, isi_scr_dict, isi_scr_bool]
  have hs := sorted_allD (S := S ++ [slV (allD a b)]) (get_last S (slV (allD a b))) (by omega)
  obtain ⟨ρ3, p3, y4, y5, y6, y7, y8, hρ3⟩ := loop_any (fu := 1000) (Φ := callN 1000 progL m) (g := .tp [4, 6]) (e := .blt .sorted false (.cons (.var 3) .nil)) (b := d_law_slants_b2) (φ := pairV) (L := allD a b) (S := S ++ [slV (allD a b)]) (ρ := eSl a b w S [] x4 x5 x6 x7 none)
    (d := .lv ((allD a b).map pairV)) (by simp only [hs, eq_self, Bool.and_self, Bool.and_true, pb_non, pb_bl, pb_int, pb_str, pb_tup, pb_lv, pb_dv, pl_nil, pl_cons, pu_ints, pu_strs, pu_sgn, pu_nat, end_rt, end_nx, end_own, run, ev, evs, evT, evI, fin, Option.bind_some, Option.map_some, startE, List.map_cons, List.map_nil, List.length_cons, List.length_nil, List.cons_append, List.nil_append, List.replicate_succ, List.replicate_zero, Nat.reduceAdd, Nat.reduceSub, Nat.zero_add, List.getElem?_cons_zero, List.getElem?_cons_succ, List.set_cons_zero, List.set_cons_succ, wipeE, bindTg, setAll, cmpS, eq_ii, eq_ss, lt_ii, lt_ss, mem_s, p_add_i, p_sub_i, b_len_t, b_len_l, b_abs, b_int, b_tuple_l, b_list_t, b_list_l, m_count, i_tup, i_lv, atI_0, atI_1, atI_2, atI_3, atI_4, decide_eq_true_eq, Bool.not_true, Bool.not_false, Bool.false_eq_true, if_true, if_false, ite_true, ite_false, reduceIte, isNon, walkOf, walkS, isi_non_int, isi_non_str, isi_non_tuple, isi_non_list, isi_non_dict, isi_non_bool, isi_bl_int, isi_bl_str, isi_bl_tuple, isi_bl_list, isi_bl_dict, isi_bl_bool, isi_int_int, isi_int_str, isi_int_tuple, isi_int_list, isi_int_dict, isi_int_bool, isi_str_int, isi_str_str, isi_str_tuple, isi_str_list, isi_str_dict, isi_str_bool, isi_tup_int, isi_tup_str, isi_tup_tuple, isi_tup_list, isi_tup_dict, isi_tup_bool, isi_lv_int, isi_lv_str, isi_lv_tuple, isi_lv_list, isi_lv_dict, isi_lv_bool, isi_dv_int, isi_dv_str, isi_dv_tuple, isi_dv_list, isi_dv_dict, isi_dv_bool, isi_scr_int, isi_scr_str, isi_scr_tuple, isi_scr_list, isi_scr_dict, isi_scr_bool]) (.inl rfl) (by omega)
    (fun k ρ => ∃ x4 x5 x6 x7 x8, ρ = eSl a b w S (((allD a b).take k).filterMap (slAt a b w)) x4 x5 x6 x7 x8) ⟨x4, x5, x6, x7, none, rfl⟩ (fun k p ρ hk ⟨x4, x5, x6, x7, x8, e⟩ => by
      subst e
      obtain ⟨x8', h⟩ := sl_step (S := S) (m := m) ha hb hw hk x5 x7 x8
      exact ⟨_, _, rfl, h, _, _, _, _, _, rfl⟩)
  subst hρ3
  rw [List.take_length] at p3
  show (run 1000 (callN 1000 progL m) (.seq _ (.seq _ (.seq _ _))) [some (.lv ((rowsL a b).map .str)), some (.int w), none, none, none, none, none, none, none] S).bind (endC false _) = _
  rw [run_seq p1, run_seq p2, run_seq p3]
  exact end_appP (by rw [pb_lv]; exact pureL_map fun _ => rfl)
end
end Pd

namespace Pd
open PySem PySem.Spec PyProof.Rows L2
/-! ### plain laws -/
theorem map_get0 (c : List Nat) : c = (List.range c.length).map fun i => c[i]?.getD 0 := by
  apply List.ext_getElem
  · rw [List.length_map, List.length_range]
  · intro i h1 h2
    rw [List.getElem_map, List.getElem_range, List.getElem?_eq_getElem h1]
    rfl
theorem rows_rng (a b : List Nat) : rowsL a b = (List.range a.length).map fun i => dotRow b (a[i]?.getD 0) := by
  unfold rowsL
  rw [show a.map (dotRow b) = ((List.range a.length).map fun i => a[i]?.getD 0).map (dotRow b) from by rw [← map_get0], List.map_map]
  rfl
theorem count_row (b : List Nat) (x : Nat) : (dotRow b x).count 35 = ((List.range b.length).filter fun j => decide (x = b[j]?.getD 0)).length := by
  have e : dotRow b x = (List.range b.length).map fun j => if x = b[j]?.getD 0 then 35 else 46 := by
    unfold dotRow
    rw [show (b.map fun y => if x = y then 35 else 46) = ((List.range b.length).map fun j => b[j]?.getD 0).map (fun y => if x = y then 35 else 46) from by rw [← map_get0], List.map_map]
    rfl
  rw [e, List.count, List.countP_map, List.countP_eq_length_filter]
  congr 1
  apply List.filter_congr
  intro j _
  simp only [Function.comp]
  by_cases h : x = b[j]?.getD 0 <;> simp [h]
theorem sum_cast (l : List Nat) : (l.map fun k : Nat => (k : Int)).sum = ((l.sum : Nat) : Int) := by
  induction l with
  | nil => rfl
  | cons x l ih => rw [List.map_cons, List.sum_cons, List.sum_cons, ih]; omega
theorem dots_count (a b : List Nat) : ((rowsL a b).map fun r => ((r.count 35 : Nat) : Int)).sum = ((allD a b).length : Nat) := by
  have e1 : ((rowsL a b).map fun r => ((r.count 35 : Nat) : Int)) = ((rowsL a b).map (·.count 35)).map fun k : Nat => (k : Int) := by rw [List.map_map]; rfl
  rw [e1, sum_cast]
  congr 1
  unfold allD
  rw [List.length_flatten, List.map_map, rows_rng, List.map_map]
  congr 1
  apply List.map_congr_left
  intro i _
  simp only [Function.comp]
  rw [count_row]
  unfold rowD
  rw [List.length_map]
/-! ### the first of the longest -/
theorem slants_pw (a b : List Nat) (w : Int) : (slantsL a b w).Pairwise fun s t => s.1 < t.1 ∨ (s.1 = t.1 ∧ s.2.1 < t.2.1) := by
  unfold slantsL
  rw [List.pairwise_filterMap]
  refine (allD_pw a b).imp fun {p q} h s hs t ht => ?_
  have e : ∀ {p : Nat × Nat} {s : Tri}, slAt a b w p = some s → s.1 = p.1 ∧ s.2.1 = p.2 := fun {p s} h => by
    unfold slAt at h
    split at h
    · cases h
    · split at h
      · cases h; exact ⟨rfl, rfl⟩
      · cases h
  obtain ⟨e1, e2⟩ := e hs
  obtain ⟨e3, e4⟩ := e ht
  rw [e1, e2, e3, e4]
  exact h
theorem foldl_max : ∀ (xs : List Nat) (x : Nat), (xs.foldl max x = x ∨ xs.foldl max x ∈ xs) ∧ x ≤ xs.foldl max x ∧ ∀ y ∈ xs, y ≤ xs.foldl max x
  | [], x => ⟨.inl rfl, Nat.le_refl _, fun _ h => (List.not_mem_nil h).elim⟩
  | y :: xs, x => by
    obtain ⟨h1, h2, h3⟩ := foldl_max xs (max x y)
    rw [List.foldl_cons]
    refine ⟨?_, by omega, fun z hz => ?_⟩
    · rcases h1 with h1 | h1
      · rw [h1]
        rcases Nat.le_total x y with h | h
        · rw [Nat.max_eq_right h]; exact .inr List.mem_cons_self
        · rw [Nat.max_eq_left h]; exact .inl rfl
      · exact .inr (List.mem_cons_of_mem _ h1)
    · rcases List.mem_cons.mp hz with rfl | hz
      · omega
      · exact h3 z hz
theorem maxL_nat : ∀ (xs : List Nat) (x : Nat), maxL (.int (x : Nat)) (natsV xs) = .int ((xs.foldl max x : Nat) : Int)
  | [], x => rfl
  | y :: xs, x => by
    show List.foldl _ (if PySem.W.dataLt (py (.int (x : Nat))) (py (.int (y : Nat))) = true then D.int (y : Nat) else D.int (x : Nat)) (natsV xs) = _
    have e : (if PySem.W.dataLt (py (.int (x : Nat))) (py (.int (y : Nat))) = true then D.int (y : Nat) else D.int (x : Nat)) = .int ((max x y : Nat) : Int) := by
      have hd : PySem.W.dataLt (py (.int (x : Nat))) (py (.int (y : Nat))) = decide (((x : Nat) : Int) < ((y : Nat) : Int)) := by
        simp only [py]
        exact PySem.W.dataLt_int _ _
      rw [hd]
      by_cases h : x < y
      · rw [if_pos (decide_eq_true (by omega)), Nat.max_eq_right (by omega)]
      · rw [if_neg (by simp; omega), Nat.max_eq_left (by omega)]
    rw [e, List.foldl_cons]
    exact maxL_nat xs (max x y)
/-- the greatest length of slants -/
def topM : List Tri → Nat
  | [] => 0
  | t :: L => (L.map (·.2.2)).foldl max t.2.2
theorem topM_spec {t : Tri} {L : List Tri} : (∃ s ∈ t :: L, s.2.2 = topM (t :: L)) ∧ ∀ s ∈ t :: L, s.2.2 ≤ topM (t :: L) := by
  obtain ⟨h1, h2, h3⟩ := foldl_max (L.map (·.2.2)) t.2.2
  refine ⟨?_, fun s hs => ?_⟩
  · rcases h1 with h1 | h1
    · exact ⟨t, List.mem_cons_self, h1.symm⟩
    · obtain ⟨s, hs, e⟩ := List.mem_map.mp h1
      exact ⟨s, List.mem_cons_of_mem _ hs, e⟩
  · rcases List.mem_cons.mp hs with rfl | hs
    · exact h2
    · exact h3 _ (List.mem_map.mpr ⟨s, hs, rfl⟩)
theorem first_top {t : Tri} {L : List Tri} (hp : (t :: L).Pairwise fun s t => s.1 < t.1 ∨ (s.1 = t.1 ∧ s.2.1 < t.2.1)) (hs : ∀ s ∈ t :: L, SmallT s) :
    ∃ r, ((t :: L).filter fun s => decide (s.2.2 = topM (t :: L))) = minBy kapT t L :: r := by
  obtain ⟨⟨s0, hs0, e0⟩, hm⟩ := topM_spec (t := t) (L := L)
  generalize hM : topM (t :: L) = M at *
  cases e : (t :: L).filter fun s => decide (s.2.2 = M) with
  | nil => exact absurd (List.filter_eq_nil_iff.mp e s0 hs0) (by simpa using e0)
  | cons f r =>
    refine ⟨r, ?_⟩
    have hf := List.mem_filter.mp (show f ∈ (t :: L).filter fun s => decide (s.2.2 = M) from by rw [e]; exact List.mem_cons_self)
    have hfm : f.2.2 = M := of_decide_eq_true hf.2
    have hpf : (f :: r).Pairwise fun s t => s.1 < t.1 ∨ (s.1 = t.1 ∧ s.2.1 < t.2.1) := by rw [← e]; exact hp.filter _
    have sf := hs f hf.1
    congr 1
    symm
    refine minBy_is hf.1 (fun y hy => ?_) fun y hy h => kapT_inj (hs y hy) sf h
    have sy := hs y hy
    have hym := hm y hy
    unfold kapT
    unfold SmallT at sf sy
    by_cases h : y.2.2 = M
    · have hyf : y ∈ f :: r := by rw [← e]; exact List.mem_filter.mpr ⟨hy, decide_eq_true h⟩
      rcases List.mem_cons.mp hyf with rfl | hyr
      · exact Int.le_refl _
      · have := (List.pairwise_cons.mp hpf).1 y hyr
        omega
    · omega
/-! ### the best shift -/
theorem sortable_sh (L : List (Int × Nat)) : sortableL (L.map encS) = true := sort_tup fun x hx => by
  obtain ⟨k, _, rfl⟩ := List.mem_map.mp hx
  rfl
theorem alike_key (L : List (Int × Nat)) : alikeL (L.map fun p => D.int p.1) = true := alikeL_of (fun _ => rfl) (fun _ => rfl) fun _ _ => by simp only [py, PySem.W.alike]
theorem sortable_key (L : List (Int × Nat)) : sortableL (L.map fun p => D.int p.1) = true := sort_flat fun x hx => by
  obtain ⟨k, _, rfl⟩ := List.mem_map.mp hx
  rfl
theorem sort_congr {α : Type} {l : List α} {r s : α → α → Bool} (h : ∀ a ∈ l, ∀ b ∈ l, r a b = s a b) : l.mergeSort r = l.mergeSort s := by
  have := List.map_mergeSort (r := r) (s := s) (f := id) (l := l) h
  simpa using this
theorem best_head {L L1 : List (Int × Nat)} (hp : L1.Perm L) (hs : ∀ p ∈ L, p.1.natAbs ≤ 12) {h : Int × Nat} {r : List (Int × Nat)} (e : (L1.mergeSort fun x y => leD (encS x) (encS y)) = h :: r) : bestS L = .int h.1 := by
  have hs1 : ∀ p ∈ L1, p.1.natAbs ≤ 12 := fun p hp1 => hs p (hp.mem_iff.mp hp1)
  have e1 : (L1.mergeSort fun x y => leD (encS x) (encS y)) = L1.mergeSort fun x y => !decide (kapS y < kapS x) := sort_congr fun a ha b hb => by
    unfold leD
    rw [lt_sh (hs1 b hb) (hs1 a ha)]
  have hperm : (h :: r).Perm L := by rw [← e]; exact (List.mergeSort_perm _ _).trans hp
  have hpw : (h :: r).Pairwise fun x y => kapS x ≤ kapS y := by
    rw [← e, e1]
    have := List.pairwise_mergeSort (le := fun x y => !decide (kapS y < kapS x)) (fun a b c => by simp only [Bool.not_eq_true', decide_eq_false_iff_not]; omega) (fun a b => by simp only [Bool.or_eq_true, Bool.not_eq_true', decide_eq_false_iff_not]; omega) L1
    exact this.imp fun h => by simp only [Bool.not_eq_true', decide_eq_false_iff_not] at h; omega
  cases L with
  | nil => exact absurd hperm.length_eq (by simp)
  | cons t L =>
    have hz : h ∈ t :: L := hperm.mem_iff.mp List.mem_cons_self
    have : minBy kapS t L = h := minBy_is hz (fun y hy => by
      rcases List.mem_cons.mp (hperm.mem_iff.mpr hy) with rfl | hy
      · exact Int.le_refl _
      · exact (List.pairwise_cons.mp hpw).1 y hy) fun y hy q => kapS_inj (hs y hy) (hs h hz) q
    show D.int (minBy kapS t L).1 = _
    rw [this]
/-! ### rows without, rows alike -/
theorem dot_in {b : List Nat} {x : Nat} : 35 ∈ dotRow b x ↔ x ∈ b := by
  unfold dotRow
  rw [List.mem_map]
  constructor
  · rintro ⟨y, hy, e⟩
    split at e
    · rename_i h; rw [h]; exact hy
    · omega
  · intro h
    exact ⟨x, h, if_pos rfl⟩
theorem rows_alike {b : List Nat} {x y j : Nat} (hj : j < b.length) (h1 : (dotRow b x)[j]?.getD 0 = 35) (h2 : (dotRow b y)[j]?.getD 0 = 35) : x = y := by
  rw [col_at hj] at h1 h2
  split at h1
  · split at h2
    · omega
    · omega
  · omega
end Pd

namespace Pd
open PySem PySem.Spec PyProof.Rows L2
section
variable {n : Nat} {S : Store}
theorem eq_nilT (L : List Tri) : eqS S (.lv (L.map triV)) (.lv []) = some (decide (L = [])) := by
  refine eq_inj (x := .lv (L.map triV)) (y := .lv []) (show (L.map triV).all (okd 11) = true from okd_map fun _ => rfl) (show ([] : List D).all (okd 11) = true from rfl) ?_
  cases L with
  | nil => rfl
  | cons t L => simp only [List.map_cons, py, pys, PyData.eqv, PyData.eqvAll, reduceCtorEq, decide_false]
theorem eq_nilS (L : List (Int × Nat)) : eqS S (.lv (L.map encS)) (.lv []) = some (decide (L = [])) := by
  refine eq_inj (x := .lv (L.map encS)) (y := .lv []) (show (L.map encS).all (okd 11) = true from okd_map fun _ => rfl) (show ([] : List D).all (okd 11) = true from rfl) ?_
  cases L with
  | nil => rfl
  | cons t L => simp only [List.map_cons, py, pys, PyData.eqv, PyData.eqvAll, reduceCtorEq, decide_false]
theorem isD_tri {t : Tri} (h : SmallT t) : isD 3 (triV t) := by
  unfold SmallT at h
  refine isD_tup (by simp) fun x hx => ?_
  simp only [List.mem_cons, List.not_mem_nil, or_false] at hx
  rcases hx with rfl | rfl | rfl <;> exact isD_nat (by omega)
theorem isD_mono {k : Nat} {d : D} (h : isD k d) : isD (k + 1) d := by
  induction k generalizing d with
  | zero => cases h
  | succ k ih =>
    rcases h with ⟨xs, hd, hl, hx⟩ | h
    · exact .inl ⟨xs, hd, hl, fun x hx' => ih (hx x hx')⟩
    · exact .inr h
theorem long_isD {L : List Tri} (h : ∀ t ∈ L, SmallT t) : isD 4 (longT L) := by
  cases L with
  | nil => exact isD_non
  | cons t L => exact isD_mono (isD_tri (h _ (minBy_mem kapT L t)))
theorem isD_two' {k : Nat} {a b : D} (ha : isD k a) (hb : isD k b) : isD (k + 1) (.lv [a, b]) := isD_lv (by simp) fun x hx => by
  simp only [List.mem_cons, List.not_mem_nil, or_false] at hx
  rcases hx with rfl | rfl
  · exact ha
  · exact hb
abbrev eR (a b : List Nat) (x1 x2 x3 x4 x5 x6 x7 x8 x9 x12 x13 x14 x15 x16 x17 : Option D) : Env := [some (.ref 0), x1, x2, x3, x4, x5, x6, x7, x8, x9, some (.str a), some (.str b), x12, x13, x14, x15, x16, x17]
abbrev rowsV (a b : List Nat) : D := .lv ((rowsL a b).map .str)
/-! ### sums by the law's own loops -/
theorem ru_in {m : Nat} {a b : List Nat} (hb : b.length ≤ 12) {i : Nat} (hi : i < a.length) {x0 : D} {T : Store} {L : List (Int × Nat)} (hl : L.length ≤ 500) (x1 x2 x3 x4 x5 x7 x8 x13 x14 x15 x16 x17 : Option D) : ∃ x14' x15',
    run 1000 (callN 1000 progL m) d_law_is_right_b2 (eR a b x1 x2 x3 x4 x5 (some (.ref (T.length + 1))) x7 x8 (some (.str (dotRow b (a[i]?.getD 0)))) (some (.int (i : Nat))) x13 x14 x15 x16 x17) (x0 :: (T ++ [cntV L])) =
      some (.nx (eR a b x1 x2 x3 x4 x5 (some (.ref (T.length + 1))) x7 x8 (some (.str (dotRow b (a[i]?.getD 0)))) (some (.int (i : Nat))) x13 x14' x15' x16 x17), x0 :: (T ++ [cntV (sumsOf L (rowD a b i))])) := by
  let row := dotRow b (a[i]?.getD 0)
  obtain ⟨ρ', S', p, x14', x15', hρ, hS⟩ := forFix_inv (g := .tp [14, 15]) (b := run 1000 (callN 1000 progL m) d_law_is_right_b1) (φ := fun j : Nat => D.tup [.int (j : Nat), .str [row[j]?.getD 0]])
    (fun j ρ S' => ∃ x14 x15, ρ = eR a b x1 x2 x3 x4 x5 (some (.ref (T.length + 1))) x7 x8 (some (.str row)) (some (.int (i : Nat))) x13 x14 x15 x16 x17 ∧ S' = x0 :: (T ++ [cntV (sumsOf L (partI a b i j))]))
    (List.range row.length) 0 (eR a b x1 x2 x3 x4 x5 (some (.ref (T.length + 1))) x7 x8 (some (.str row)) (some (.int (i : Nat))) x13 x14 x15 x16 x17) (x0 :: (T ++ [cntV L])) ⟨x14, x15, rfl, rfl⟩ (fun k j ρ S' hk ⟨x14, x15, e1, e2⟩ => by
      subst e1 e2
      have hlt := (List.getElem?_eq_some_iff.mp hk).1
      rw [List.length_range] at hlt
      rw [List.getElem?_range hlt] at hk
      cases hk
      have hk : k < b.length := by rw [← dotRow_len b (a[i]?.getD 0)]; exact hlt
      rw [Nat.zero_add, part_succ]
      have hc : row[k]?.getD 0 = if a[i]?.getD 0 = b[k]?.getD 0 then 35 else 46 := col_at hk
      by_cases he : a[i]?.getD 0 = b[k]?.getD 0
      · rw [if_pos he] at hc ⊢
        let L1 := sumsOf L (partI a b i k)
        have hL1 : L1.length ≤ 1000 := by
          have h1 := sumsOf_len (partI a b i k) L
          have h2 := part_len a b i k
          show (sumsOf L (partI a b i k)).length ≤ 1000
          omega
        have hg : (x0 :: (T ++ [cntV L1]))[T.length + 1]? = some (cntV L1) := at_ref
        have h1 := get_cnt hg ((k : Int) - (i : Int))
        have h2 := put_cnt hg hL1 ((k : Int) - (i : Int))
        rw [setAt_ref] at h2
        have ty : (tyOf (x0 :: (T ++ [cntV L1])) (.ref (T.length + 1)) = some (mthTy .get)) = True := by
          simp only [tyOf, hg, mthTy]
        have ek : (((lookN ((k : Int) - (i : Int)) L1).getD 0 : Nat) : Int) + 1 = (((lookN ((k : Int) - (i : Int)) L1).getD 0 + 1 : Nat) : Int) := by omega
        have es : sumsOf L (partI a b i k ++ [(i, k)]) = bumpL L1 ((k : Int) - (i : Int)) := by
          show List.foldl _ L (partI a b i k ++ [(i, k)]) = _
          rw [List.foldl_append]
          rfl
        rw [hc, es]
        refine ⟨_, eR a b x1 x2 x3 x4 x5 (some (.ref (T.length + 1))) x7 x8 (some (.str row)) (some (.int (i : Nat))) x13 (some (.int (k : Nat))) (some (.str [35])) x16 x17, _, rfl, .inl ?_, _, _, rfl, rfl⟩
        show run _ _ _ _ (x0 :: (T ++ [cntV L1])) = _
        simp only [d_law_is_right_b1, ty, h1, h2, ek, decide_true, eq_self, Bool.and_self, Bool.and_true, pb_non, pb_bl, pb_int, pb_str, pb_tup, pb_lv, pb_dv, pl_nil, pl_cons, pu_ints, pu_strs, pu_sgn, pu_nat, end_rt, end_nx, end_own, run, ev, evs, evT, evI, fin, Option.bind_some, Option.map_some, startE, List.map_cons, List.map_nil, List.length_cons, List.length_nil, List.cons_append, List.nil_append, List.replicate_succ, List.replicate_zero, Nat.reduceAdd, Nat.reduceSub, Nat.zero_add, List.getElem?_cons_zero, List.getElem?_cons_succ, List.set_cons_zero, List.set_cons_succ, wipeE, bindTg, setAll, cmpS, eq_ii, eq_ss, lt_ii, lt_ss, mem_s, p_add_i, p_sub_i, b_len_t, b_len_l, b_abs, b_int, b_tuple_l, b_list_t, b_list_l, m_count, i_tup, i_lv, atI_0, atI_1, atI_2, atI_3, atI_4, decide_eq_true_eq, Bool.not_true, Bool.not_false, Bool.false_eq_true, if_true, if_false, ite_true, ite_false, reduceIte, isNon, walkOf, walkS, isi_non_int, isi_non_str, isi_non_tuple, isi_non_list, isi_non_dict, isi_non_bool, isi_bl_int, isi_bl_str, isi_bl_tuple, isi_bl_list, isi_bl_dict, isi_bl_bool, isi_int_int, isi_int_str, isi_int_tuple, isi_int_list, isi_int_dict, isi_int_bool, isi_str_int, isi_str_str, isi_str_tuple, isi_str_list, isi_str_dict, isi_str_bool, isi_tup_int, isi_tup_str, isi_tup_tuple, isi_tup_list, isi_tup_dict, isi_tup_bool, isi_lv_int, isi_lv_str, isi_lv_tuple, isi_lv_list, isi_lv_dict, isi_lv_bool, isi_dv_int, isi_dv_str, isi_dv_tuple, isi_dv_list, isi_dv_dict, isi_dv_bool, isi_scr_int, isi_scr_str, isi_scr_tuple, isi_scr_list, isi_scr_dict, isi_scr_bool]
      · rw [if_neg he] at hc ⊢
        rw [hc, List.append_nil]
        refine ⟨_, eR a b x1 x2 x3 x4 x5 (some (.ref (T.length + 1))) x7 x8 (some (.str row)) (some (.int (i : Nat))) x13 (some (.int (k : Nat))) (some (.str [46])) x16 x17, _, rfl, .inl ?_, _, _, rfl, rfl⟩
        simp only [d_law_is_right_b1, show ¬ [46] = [35] from by decide, decide_false, eq_self, Bool.and_self, Bool.and_true, pb_non, pb_bl, pb_int, pb_str, pb_tup, pb_lv, pb_dv, pl_nil, pl_cons, pu_ints, pu_strs, pu_sgn, pu_nat, end_rt, end_nx, end_own, run, ev, evs, evT, evI, fin, Option.bind_some, Option.map_some, startE, List.map_cons, List.map_nil, List.length_cons, List.length_nil, List.cons_append, List.nil_append, List.replicate_succ, List.replicate_zero, Nat.reduceAdd, Nat.reduceSub, Nat.zero_add, List.getElem?_cons_zero, List.getElem?_cons_succ, List.set_cons_zero, List.set_cons_succ, wipeE, bindTg, setAll, cmpS, eq_ii, eq_ss, lt_ii, lt_ss, mem_s, p_add_i, p_sub_i, b_len_t, b_len_l, b_abs, b_int, b_tuple_l, b_list_t, b_list_l, m_count, i_tup, i_lv, atI_0, atI_1, atI_2, atI_3, atI_4, decide_eq_true_eq, Bool.not_true, Bool.not_false, Bool.false_eq_true, if_true, if_false, ite_true, ite_false, reduceIte, isNon, walkOf, walkS, isi_non_int, isi_non_str, isi_non_tuple, isi_non_list, isi_non_dict, isi_non_bool, isi_bl_int, isi_bl_str, isi_bl_tuple, isi_bl_list, isi_bl_dict, isi_bl_bool, isi_int_int, isi_int_str, isi_int_tuple, isi_int_list, isi_int_dict, isi_int_bool, isi_str_int, isi_str_str, isi_str_tuple, isi_str_list, isi_str_dict, isi_str_bool, isi_tup_int, isi_tup_str, isi_tup_tuple, isi_tup_list, isi_tup_dict, isi_tup_bool, isi_lv_int, isi_lv_str, isi_lv_tuple, isi_lv_list, isi_lv_dict, isi_lv_bool, isi_dv_int, isi_dv_str, isi_dv_tuple, isi_dv_list, isi_dv_dict, isi_dv_bool, isi_scr_int, isi_scr_str, isi_scr_tuple, isi_scr_list, isi_scr_dict, isi_scr_bool])
  subst hρ hS
  rw [List.length_range, Nat.zero_add, show row.length = b.length from dotRow_len b _, show partI a b i b.length = rowD a b i from rfl] at p
  refine ⟨x14', x15', ?_⟩
  have e := enum_rng (fun c : Nat => D.str [c]) 0 row
  rw [show row.length = b.length from dotRow_len b _] at e
  show run 1000 (callN 1000 progL m) d_law_is_right_b2 (eR a b x1 x2 x3 x4 x5 (some (.ref (T.length + 1))) x7 x8 (some (.str row)) (some (.int (i : Nat))) x13 x14 x15 x16 x17) _ = _
  simp only [d_law_is_right_b2, e, p, eq_self, Bool.and_self, Bool.and_true, pb_non, pb_bl, pb_int, pb_str, pb_tup, pb_lv, pb_dv, pl_nil, pl_cons, pu_ints, pu_strs, pu_sgn, pu_nat, end_rt, end_nx, end_own, run, ev, evs, evT, evI, fin, Option.bind_some, Option.map_some, startE, List.map_cons, List.map_nil, List.length_cons, List.length_nil, List.cons_append, List.nil_append, List.replicate_succ, List.replicate_zero, Nat.reduceAdd, Nat.reduceSub, Nat.zero_add, List.getElem?_cons_zero, List.getElem?_cons_succ, List.set_cons_zero, List.set_cons_succ, wipeE, bindTg, setAll, cmpS, eq_ii, eq_ss, lt_ii, lt_ss, mem_s, p_add_i, p_sub_i, b_len_t, b_len_l, b_abs, b_int, b_tuple_l, b_list_t, b_list_l, m_count, i_tup, i_lv, atI_0, atI_1, atI_2, atI_3, atI_4, decide_eq_true_eq, Bool.not_true, Bool.not_false, Bool.false_eq_true, if_true, if_false, ite_true, ite_false, reduceIte, isNon, walkOf, walkS, isi_non_int, isi_non_str, isi_non_tuple, isi_non_list, isi_non_dict, isi_non_bool, isi_bl_int, isi_bl_str, isi_bl_tuple, isi_bl_list, isi_bl_dict, isi_bl_bool, isi_int_int, isi_int_str, isi_int_tuple, isi_int_list, isi_int_dict, isi_int_bool, isi_str_int, isi_str_str, isi_str_tuple, isi_str_list, isi_str_dict, isi_str_bool, isi_tup_int, isi_tup_str, isi_tup_tuple, isi_tup_list, isi_tup_dict, isi_tup_bool, isi_lv_int, isi_lv_str, isi_lv_tuple, isi_lv_list, isi_lv_dict, isi_lv_bool, isi_dv_int, isi_dv_str, isi_dv_tuple, isi_dv_list, isi_dv_dict, isi_dv_bool, isi_scr_int, isi_scr_str, isi_scr_tuple, isi_scr_list, isi_scr_dict, isi_scr_bool]
  rfl
theorem sums_app (l : List (Int × Nat)) (P Q : List (Nat × Nat)) : sumsOf l (P ++ Q) = sumsOf (sumsOf l P) Q := by
  unfold sumsOf
  rw [List.foldl_append]
theorem ru_out {m : Nat} {a b : List Nat} (ha : Txt1 0 12 a) (hb : Txt1 0 12 b) {x0 : D} {T : Store} (x2 x3 x4 x5 x7 x8 x9 x12 x13 x14 x15 x16 x17 : Option D) : ∃ x9' x12' x14' x15',
    run 1000 (callN 1000 progL m) d_law_is_right_s11 (eR a b (some (rowsV a b)) x2 x3 x4 x5 (some (.ref (T.length + 1))) x7 x8 x9 x12 x13 x14 x15 x16 x17) (x0 :: (T ++ [cntV []])) =
      some (.nx (eR a b (some (rowsV a b)) x2 x3 x4 x5 (some (.ref (T.length + 1))) x7 x8 x9' x12' x13 x14' x15' x16 x17), x0 :: (T ++ [cntV (sumsL a b)])) := by
  have hbl := hb.le
  have hal := ha.le
  obtain ⟨ρ', S', p, x9', x12', x14', x15', hρ, hS⟩ := forFix_inv (g := .tp [12, 9]) (b := run 1000 (callN 1000 progL m) d_law_is_right_b2) (φ := fun i : Nat => D.tup [.int (i : Nat), .str ((rowsL a b)[i]?.getD [])])
    (fun i ρ S' => ∃ x9 x12 x14 x15, ρ = eR a b (some (rowsV a b)) x2 x3 x4 x5 (some (.ref (T.length + 1))) x7 x8 x9 x12 x13 x14 x15 x16 x17 ∧ S' = x0 :: (T ++ [cntV (sumsOf [] (preI a b i))]))
    (List.range (rowsL a b).length) 0 (eR a b (some (rowsV a b)) x2 x3 x4 x5 (some (.ref (T.length + 1))) x7 x8 x9 x12 x13 x14 x15 x16 x17) (x0 :: (T ++ [cntV []])) ⟨x9, x12, x14, x15, rfl, rfl⟩ (fun k i ρ S' hk ⟨x9, x12, x14, x15, e1, e2⟩ => by
      subst e1 e2
      have hlt := (List.getElem?_eq_some_iff.mp hk).1
      rw [List.length_range] at hlt
      rw [List.getElem?_range hlt] at hk
      cases hk
      rw [rowsL_len] at hlt
      have hlen : (sumsOf [] (preI a b k)).length ≤ 500 := by
        have h1 := sumsOf_len (preI a b k) []
        have h2 := pre_len (a := a) hbl k
        rw [List.length_nil] at h1
        omega
      obtain ⟨x14', x15', h⟩ := ru_in (m := m) (a := a) (b := b) hbl hlt (x0 := x0) (T := T) hlen (some (rowsV a b)) x2 x3 x4 x5 x7 x8 x13 x14 x15 x16 x17
      rw [Nat.zero_add, row_at hlt, pre_succ, sums_app]
      exact ⟨_, _, _, rfl, .inl h, _, _, _, _, rfl, rfl⟩)
  subst hρ hS
  rw [List.length_range, Nat.zero_add, rowsL_len, show preI a b a.length = allD a b from rfl] at p
  refine ⟨x9', x12', x14', x15', ?_⟩
  have e := enum_rng (fun c : List Nat => D.str c) [] (rowsL a b)
  rw [rowsL_len] at e
  simp only [d_law_is_right_s11, e, p, eq_self, Bool.and_self, Bool.and_true, pb_non, pb_bl, pb_int, pb_str, pb_tup, pb_lv, pb_dv, pl_nil, pl_cons, pu_ints, pu_strs, pu_sgn, pu_nat, end_rt, end_nx, end_own, run, ev, evs, evT, evI, fin, Option.bind_some, Option.map_some, startE, List.map_cons, List.map_nil, List.length_cons, List.length_nil, List.cons_append, List.nil_append, List.replicate_succ, List.replicate_zero, Nat.reduceAdd, Nat.reduceSub, Nat.zero_add, List.getElem?_cons_zero, List.getElem?_cons_succ, List.set_cons_zero, List.set_cons_succ, wipeE, bindTg, setAll, cmpS, eq_ii, eq_ss, lt_ii, lt_ss, mem_s, p_add_i, p_sub_i, b_len_t, b_len_l, b_abs, b_int, b_tuple_l, b_list_t, b_list_l, m_count, i_tup, i_lv, atI_0, atI_1, atI_2, atI_3, atI_4, decide_eq_true_eq, Bool.not_true, Bool.not_false, Bool.false_eq_true, if_true, if_false, ite_true, ite_false, reduceIte, isNon, walkOf, walkS, isi_non_int, isi_non_str, isi_non_tuple, isi_non_list, isi_non_dict, isi_non_bool, isi_bl_int, isi_bl_str, isi_bl_tuple, isi_bl_list, isi_bl_dict, isi_bl_bool, isi_int_int, isi_int_str, isi_int_tuple, isi_int_list, isi_int_dict, isi_int_bool, isi_str_int, isi_str_str, isi_str_tuple, isi_str_list, isi_str_dict, isi_str_bool, isi_tup_int, isi_tup_str, isi_tup_tuple, isi_tup_list, isi_tup_dict, isi_tup_bool, isi_lv_int, isi_lv_str, isi_lv_tuple, isi_lv_list, isi_lv_dict, isi_lv_bool, isi_dv_int, isi_dv_str, isi_dv_tuple, isi_dv_list, isi_dv_dict, isi_dv_bool, isi_scr_int, isi_scr_str, isi_scr_tuple, isi_scr_list, isi_scr_dict, isi_scr_bool]
  rfl
/-! ### rows that share a dot's column -/
theorem fact_in {m : Nat} {a b : List Nat} (ha : a.length ≤ 12) (hb : b.length ≤ 12) {x y : Nat} (x1 x2 x3 x4 x5 x6 x7 x8 x12 x14 x15 x16 x17 : Option D) :
    run 1000 (callN 1000 progL m) d_law_is_right_b3 (eR a b x1 x2 x3 x4 x5 x6 x7 x8 (some (.str (dotRow b x))) x12 (some (.str (dotRow b y))) x14 x15 x16 x17) S =
      some (.nx (eR a b x1 x2 x3 x4 x5 x6 x7 x8 (some (.str (dotRow b x))) x12 (some (.str (dotRow b y))) x14 x15 x16 x17), S) := by
  let p : Nat → Bool := fun k => decide ((dotRow b x)[k]?.getD 0 = 35) && decide ((dotRow b y)[k]?.getD 0 = 35)
  have c6 : ev 1000 (callN 1000 progL m) d_law_is_right_c6 (eR a b x1 x2 x3 x4 x5 x6 x7 x8 (some (.str (dotRow b x))) x12 (some (.str (dotRow b y))) x14 x15 x16 x17) S = some (.lv ((List.range b.length).map fun k => .bl (p k)), S) := by
    have e := enum_rng (fun c : Nat => D.str [c]) 0 (dotRow b x)
    rw [dotRow_len] at e
    refine lc_map (L := List.range b.length) (φ := fun k : Nat => .tup [.int (k : Nat), .str [(dotRow b x)[k]?.getD 0]]) (fun k => .bl (p k)) (by simp only [e, eq_self, Bool.and_self, Bool.and_true, pb_non, pb_bl, pb_int, pb_str, pb_tup, pb_lv, pb_dv, pl_nil, pl_cons, pu_ints, pu_strs, pu_sgn, pu_nat, end_rt, end_nx, end_own, run, ev, evs, evT, evI, fin, Option.bind_some, Option.map_some, startE, List.map_cons, List.map_nil, List.length_cons, List.length_nil, List.cons_append, List.nil_append, List.replicate_succ, List.replicate_zero, Nat.reduceAdd, Nat.reduceSub, Nat.zero_add, List.getElem?_cons_zero, List.getElem?_cons_succ, List.set_cons_zero, List.set_cons_succ, wipeE, bindTg, setAll, cmpS, eq_ii, eq_ss, lt_ii, lt_ss, mem_s, p_add_i, p_sub_i, b_len_t, b_len_l, b_abs, b_int, b_tuple_l, b_list_t, b_list_l, m_count, i_tup, i_lv, atI_0, atI_1, atI_2, atI_3, atI_4, decide_eq_true_eq, Bool.not_true, Bool.not_false, Bool.false_eq_true, if_true, if_false, ite_true, ite_false, reduceIte, isNon, walkOf, walkS, isi_non_int, isi_non_str, isi_non_tuple, isi_non_list, isi_non_dict, isi_non_bool, isi_bl_int, isi_bl_str, isi_bl_tuple, isi_bl_list, isi_bl_dict, isi_bl_bool, isi_int_int, isi_int_str, isi_int_tuple, isi_int_list, isi_int_dict, isi_int_bool, isi_str_int, isi_str_str, isi_str_tuple, isi_str_list, isi_str_dict, isi_str_bool, isi_tup_int, isi_tup_str, isi_tup_tuple, isi_tup_list, isi_tup_dict, isi_tup_bool, isi_lv_int, isi_lv_str, isi_lv_tuple, isi_lv_list, isi_lv_dict, isi_lv_bool, isi_dv_int, isi_dv_str, isi_dv_tuple, isi_dv_list, isi_dv_dict, isi_dv_bool, isi_scr_int, isi_scr_str, isi_scr_tuple, isi_scr_list, isi_scr_dict, isi_scr_bool]) (fun k hk => ?_) (by rw [List.length_range]; exact ll (by omega))
    have hk' := List.mem_range.mp hk
    have gi : itemS (.str (dotRow b y)) (.int (k : Nat)) S = some (.str [(dotRow b y)[k]?.getD 0]) := i_str_at (ll (by rw [dotRow_len]; omega)) (by rw [List.getElem?_eq_getElem (by rw [dotRow_len]; exact hk')]; rfl)
    show _ = some (some (D.bl (decide _ && decide _)), S)
    by_cases h1 : (dotRow b x)[k]?.getD 0 = 35
    · simp only [turnF, gi, h1, List.cons.injEq, and_true, decide_true, Bool.true_and, eq_self, Bool.and_self, Bool.and_true, pb_non, pb_bl, pb_int, pb_str, pb_tup, pb_lv, pb_dv, pl_nil, pl_cons, pu_ints, pu_strs, pu_sgn, pu_nat, end_rt, end_nx, end_own, run, ev, evs, evT, evI, fin, Option.bind_some, Option.map_some, startE, List.map_cons, List.map_nil, List.length_cons, List.length_nil, List.cons_append, List.nil_append, List.replicate_succ, List.replicate_zero, Nat.reduceAdd, Nat.reduceSub, Nat.zero_add, List.getElem?_cons_zero, List.getElem?_cons_succ, List.set_cons_zero, List.set_cons_succ, wipeE, bindTg, setAll, cmpS, eq_ii, eq_ss, lt_ii, lt_ss, mem_s, p_add_i, p_sub_i, b_len_t, b_len_l, b_abs, b_int, b_tuple_l, b_list_t, b_list_l, m_count, i_tup, i_lv, atI_0, atI_1, atI_2, atI_3, atI_4, decide_eq_true_eq, Bool.not_true, Bool.not_false, Bool.false_eq_true, if_true, if_false, ite_true, ite_false, reduceIte, isNon, walkOf, walkS, isi_non_int, isi_non_str, isi_non_tuple, isi_non_list, isi_non_dict, isi_non_bool, isi_bl_int, isi_bl_str, isi_bl_tuple, isi_bl_list, isi_bl_dict, isi_bl_bool, isi_int_int, isi_int_str, isi_int_tuple, isi_int_list, isi_int_dict, isi_int_bool, isi_str_int, isi_str_str, isi_str_tuple, isi_str_list, isi_str_dict, isi_str_bool, isi_tup_int, isi_tup_str, isi_tup_tuple, isi_tup_list, isi_tup_dict, isi_tup_bool, isi_lv_int, isi_lv_str, isi_lv_tuple, isi_lv_list, isi_lv_dict, isi_lv_bool, isi_dv_int, isi_dv_str, isi_dv_tuple, isi_dv_list, isi_dv_dict, isi_dv_bool, isi_scr_int, isi_scr_str, isi_scr_tuple, isi_scr_list, isi_scr_dict, isi_scr_bool]
    · simp only [turnF, h1, List.cons.injEq, and_true, decide_false, Bool.false_and, eq_self, Bool.and_self, Bool.and_true, pb_non, pb_bl, pb_int, pb_str, pb_tup, pb_lv, pb_dv, pl_nil, pl_cons, pu_ints, pu_strs, pu_sgn, pu_nat, end_rt, end_nx, end_own, run, ev, evs, evT, evI, fin, Option.bind_some, Option.map_some, startE, List.map_cons, List.map_nil, List.length_cons, List.length_nil, List.cons_append, List.nil_append, List.replicate_succ, List.replicate_zero, Nat.reduceAdd, Nat.reduceSub, Nat.zero_add, List.getElem?_cons_zero, List.getElem?_cons_succ, List.set_cons_zero, List.set_cons_succ, wipeE, bindTg, setAll, cmpS, eq_ii, eq_ss, lt_ii, lt_ss, mem_s, p_add_i, p_sub_i, b_len_t, b_len_l, b_abs, b_int, b_tuple_l, b_list_t, b_list_l, m_count, i_tup, i_lv, atI_0, atI_1, atI_2, atI_3, atI_4, decide_eq_true_eq, Bool.not_true, Bool.not_false, Bool.false_eq_true, if_true, if_false, ite_true, ite_false, reduceIte, isNon, walkOf, walkS, isi_non_int, isi_non_str, isi_non_tuple, isi_non_list, isi_non_dict, isi_non_bool, isi_bl_int, isi_bl_str, isi_bl_tuple, isi_bl_list, isi_bl_dict, isi_bl_bool, isi_int_int, isi_int_str, isi_int_tuple, isi_int_list, isi_int_dict, isi_int_bool, isi_str_int, isi_str_str, isi_str_tuple, isi_str_list, isi_str_dict, isi_str_bool, isi_tup_int, isi_tup_str, isi_tup_tuple, isi_tup_list, isi_tup_dict, isi_tup_bool, isi_lv_int, isi_lv_str, isi_lv_tuple, isi_lv_list, isi_lv_dict, isi_lv_bool, isi_dv_int, isi_dv_str, isi_dv_tuple, isi_dv_list, isi_dv_dict, isi_dv_bool, isi_scr_int, isi_scr_str, isi_scr_tuple, isi_scr_list, isi_scr_dict, isi_scr_bool]
  have hany := any_bl (S := S) (List.range b.length) p
  by_cases h : (List.range b.length).any p = true
  · obtain ⟨k, hk, hpk⟩ := List.any_eq_true.mp h
    have hk' := List.mem_range.mp hk
    simp only [p, Bool.and_eq_true, decide_eq_true_eq] at hpk
    have exy := rows_alike hk' hpk.1 hpk.2
    subst exy
    simp only [d_law_is_right_b3, c6, hany, h, decide_true, eq_self, Bool.and_self, Bool.and_true, pb_non, pb_bl, pb_int, pb_str, pb_tup, pb_lv, pb_dv, pl_nil, pl_cons, pu_ints, pu_strs, pu_sgn, pu_nat, end_rt, end_nx, end_own, run, ev, evs, evT, evI, fin, Option.bind_some, Option.map_some, startE, List.map_cons, List.map_nil, List.length_cons, List.length_nil, List.cons_append, List.nil_append, List.replicate_succ, List.replicate_zero, Nat.reduceAdd, Nat.reduceSub, Nat.zero_add, List.getElem?_cons_zero, List.getElem?_cons_succ, List.set_cons_zero, List.set_cons_succ, wipeE, bindTg, setAll, cmpS, eq_ii, eq_ss, lt_ii, lt_ss, mem_s, p_add_i, p_sub_i, b_len_t, b_len_l, b_abs, b_int, b_tuple_l, b_list_t, b_list_l, m_count, i_tup, i_lv, atI_0, atI_1, atI_2, atI_3, atI_4, decide_eq_true_eq, Bool.not_true, Bool.not_false, Bool.false_eq_true, if_true, if_false, ite_true, ite_false, reduceIte, isNon, walkOf, walkS, isi_non_int, isi_non_str, isi_non_tuple, isi_non_list, isi_non_dict, isi_non_bool, isi_bl_int, isi_bl_str, isi_bl_tuple, isi_bl_list, isi_bl_dict, isi_bl_bool, isi_int_int, isi_int_str, isi_int_tuple, isi_int_list, isi_int_dict, isi_int_bool, isi_str_int, isi_str_str, isi_str_tuple, isi_str_list, isi_str_dict, isi_str_bool, isi_tup_int, isi_tup_str, isi_tup_tuple, isi_tup_list, isi_tup_dict, isi_tup_bool, isi_lv_int, isi_lv_str, isi_lv_tuple, isi_lv_list, isi_lv_dict, isi_lv_bool, isi_dv_int, isi_dv_str, isi_dv_tuple, isi_dv_list, isi_dv_dict, isi_dv_bool, isi_scr_int, isi_scr_str, isi_scr_tuple, isi_scr_list, isi_scr_dict, isi_scr_bool]
  · have h : (List.range b.length).any p = false := by simpa using h
    simp only [d_law_is_right_b3, c6, hany, h, eq_self, Bool.and_self, Bool.and_true, pb_non, pb_bl, pb_int, pb_str, pb_tup, pb_lv, pb_dv, pl_nil, pl_cons, pu_ints, pu_strs, pu_sgn, pu_nat, end_rt, end_nx, end_own, run, ev, evs, evT, evI, fin, Option.bind_some, Option.map_some, startE, List.map_cons, List.map_nil, List.length_cons, List.length_nil, List.cons_append, List.nil_append, List.replicate_succ, List.replicate_zero, Nat.reduceAdd, Nat.reduceSub, Nat.zero_add, List.getElem?_cons_zero, List.getElem?_cons_succ, List.set_cons_zero, List.set_cons_succ, wipeE, bindTg, setAll, cmpS, eq_ii, eq_ss, lt_ii, lt_ss, mem_s, p_add_i, p_sub_i, b_len_t, b_len_l, b_abs, b_int, b_tuple_l, b_list_t, b_list_l, m_count, i_tup, i_lv, atI_0, atI_1, atI_2, atI_3, atI_4, decide_eq_true_eq, Bool.not_true, Bool.not_false, Bool.false_eq_true, if_true, if_false, ite_true, ite_false, reduceIte, isNon, walkOf, walkS, isi_non_int, isi_non_str, isi_non_tuple, isi_non_list, isi_non_dict, isi_non_bool, isi_bl_int, isi_bl_str, isi_bl_tuple, isi_bl_list, isi_bl_dict, isi_bl_bool, isi_int_int, isi_int_str, isi_int_tuple, isi_int_list, isi_int_dict, isi_int_bool, isi_str_int, isi_str_str, isi_str_tuple, isi_str_list, isi_str_dict, isi_str_bool, isi_tup_int, isi_tup_str, isi_tup_tuple, isi_tup_list, isi_tup_dict, isi_tup_bool, isi_lv_int, isi_lv_str, isi_lv_tuple, isi_lv_list, isi_lv_dict, isi_lv_bool, isi_dv_int, isi_dv_str, isi_dv_tuple, isi_dv_list, isi_dv_dict, isi_dv_bool, isi_scr_int, isi_scr_str, isi_scr_tuple, isi_scr_list, isi_scr_dict, isi_scr_bool]
theorem fact_ok {m : Nat} {a b : List Nat} (ha : a.length ≤ 12) (hb : b.length ≤ 12) (x1 x3 x4 x5 x6 x7 x8 x9 x12 x13 x14 x15 x16 x17 : Option D) : ∃ x9' x13',
    run 1000 (callN 1000 progL m) d_law_is_right_s17 (eR a b x1 (some (.tup ((rowsL a b).map .str))) x3 x4 x5 x6 x7 x8 x9 x12 x13 x14 x15 x16 x17) S =
      some (.nx (eR a b x1 (some (.tup ((rowsL a b).map .str))) x3 x4 x5 x6 x7 x8 x9' x12 x13' x14 x15 x16 x17), S) := by
  have hrow : ∀ r ∈ rowsL a b, ∃ x, r = dotRow b x := fun r hr => by
    obtain ⟨x, _, rfl⟩ := List.mem_map.mp hr
    exact ⟨x, rfl⟩
  have hlen : (rowsL a b).length < 1000 := by rw [rowsL_len]; omega
  obtain ⟨ρ', h, x9', x13', hρ⟩ := loop_any (fu := 1000) (Φ := callN 1000 progL m) (g := .nm 9) (e := .var 2) (b := d_law_is_right_b4) (φ := fun r : List Nat => D.str r) (L := rowsL a b) (S := S) (ρ := eR a b x1 (some (.tup ((rowsL a b).map .str))) x3 x4 x5 x6 x7 x8 x9 x12 x13 x14 x15 x16 x17)
    (d := .tup ((rowsL a b).map .str)) rfl (.inl rfl) hlen
    (fun _ ρ => ∃ x9 x13, ρ = eR a b x1 (some (.tup ((rowsL a b).map .str))) x3 x4 x5 x6 x7 x8 x9 x12 x13 x14 x15 x16 x17) ⟨x9, x13, rfl⟩ (fun j r ρ hj ⟨x9, x13, e⟩ => by
      subst e
      obtain ⟨x, rfl⟩ := hrow r (List.mem_of_getElem? hj)
      obtain ⟨ρ2, h2, x13', hρ2⟩ := loop_any (fu := 1000) (Φ := callN 1000 progL m) (g := .nm 13) (e := .var 2) (b := d_law_is_right_b3) (φ := fun r : List Nat => D.str r) (L := rowsL a b) (S := S) (ρ := eR a b x1 (some (.tup ((rowsL a b).map .str))) x3 x4 x5 x6 x7 x8 (some (.str (dotRow b x))) x12 x13 x14 x15 x16 x17)
        (d := .tup ((rowsL a b).map .str)) rfl (.inl rfl) hlen
        (fun _ ρ => ∃ x13, ρ = eR a b x1 (some (.tup ((rowsL a b).map .str))) x3 x4 x5 x6 x7 x8 (some (.str (dotRow b x))) x12 x13 x14 x15 x16 x17) ⟨x13, rfl⟩ (fun j r ρ hj ⟨x13, e⟩ => by
          subst e
          obtain ⟨y, rfl⟩ := hrow r (List.mem_of_getElem? hj)
          exact ⟨_, _, rfl, fact_in ha hb _ _ _ _ _ _ _ _ _ _ _ _ _, _, rfl⟩)
      subst hρ2
      refine ⟨_, eR a b x1 (some (.tup ((rowsL a b).map .str))) x3 x4 x5 x6 x7 x8 (some (.str (dotRow b x))) x12 x13' x14 x15 x16 x17, rfl, ?_, _, _, rfl⟩
      exact (run_seq h2).trans rfl)
  subst hρ
  exact ⟨x9', x13', h⟩
end
end Pd

namespace Pd
open PySem PySem.Spec PyProof.Rows L2
section
variable {n : Nat} {S : Store}
theorem ty_cnt (c : List Nat) : (tyOf S (.str c) = some (mthTy .count)) = True := ty_count c
theorem max_slants {L : List Tri} {t : Tri} : bltS .max [.lv ((t :: L).map fun t : Tri => .int (t.2.2 : Nat))] S = some (.val (.int (topM (t :: L) : Nat))) := by
  have ha : alikeL ((t :: L).map fun t : Tri => D.int (t.2.2 : Nat)) = true := alikeL_of (fun _ => rfl) (fun _ => rfl) fun _ _ => by simp only [py, PySem.W.alike]
  have hm := maxL_nat (L.map (·.2.2)) t.2.2
  rw [show natsV (L.map (·.2.2)) = L.map fun t : Tri => D.int (t.2.2 : Nat) from by unfold natsV; rw [List.map_map]; rfl] at hm
  show (if alikeL (D.int (t.2.2 : Nat) :: L.map fun t : Tri => D.int (t.2.2 : Nat)) = true then some (PR.val (maxL (D.int (t.2.2 : Nat)) (L.map fun t : Tri => D.int (t.2.2 : Nat)))) else none) = _
  rw [if_pos (show alikeL (D.int (t.2.2 : Nat) :: L.map fun t : Tri => D.int (t.2.2 : Nat)) = true from ha), hm]
  rfl
theorem cnt_isD {L : List (Int × Nat)} (hl : L.length ≤ 144) (hs : ∀ p ∈ L, p.1.natAbs ≤ 12 ∧ p.2 ≤ 100000) : ∀ d, sitS (cntV L) S = some d → isD 3 d := by
  intro d h
  unfold sitS at h
  split at h <;> try (cases h; done)
  rename_i ks vs e
  cases e
  split at h <;> try (cases h; done)
  cases h
  have hi : ∀ L : List (Int × Nat), itemsL (cntK L) (cntW L) = L.map fun p => .tup [.int p.1, .int (p.2 : Nat)] := fun L => by
    induction L with
    | nil => rfl
    | cons p L ih => show _ :: itemsL (cntK L) (cntW L) = _; rw [ih]; rfl
  rw [hi L]
  refine isD_lv (by rw [List.length_mergeSort, List.length_map]; omega) fun x hx => ?_
  rw [(List.mergeSort_perm _ _).mem_iff] at hx
  obtain ⟨p, hp, rfl⟩ := List.mem_map.mp hx
  obtain ⟨h1, h2⟩ := hs p hp
  refine isD_tup (by simp) fun x hx => ?_
  simp only [List.mem_cons, List.not_mem_nil, or_false] at hx
  rcases hx with rfl | rfl
  · exact isD_int (by omega)
  · exact isD_nat (by omega)
theorem cnt_sit (L : List (Int × Nat)) (hl : L.length ≤ 144) : ∃ d, sitS (cntV L) S = some d := by
  have hi : ∀ L : List (Int × Nat), itemsL (cntK L) (cntW L) = L.map fun p => .tup [.int p.1, .int (p.2 : Nat)] := fun L => by
    induction L with
    | nil => rfl
    | cons p L ih => show _ :: itemsL (cntK L) (cntW L) = _; rw [ih]; rfl
  have h1 : alikeL (itemsL (cntK L) (cntW L)) = true := by
    rw [hi L]
    exact alikeL_of (fun _ => rfl) (fun _ => rfl) fun _ _ => by simp only [py, pys, PySem.W.alike, PySem.W.alikeAll, Bool.and_self]
  have h2 : sortableL (itemsL (cntK L) (cntW L)) = true := by
    rw [hi L]
    exact sort_tup fun x hx => by
      obtain ⟨p, _, rfl⟩ := List.mem_map.mp hx
      rfl
  have h3 : (cntK L).length ≤ line := by rw [List.length_map]; exact ll (by omega)
  unfold sitS
  simp only [asDk, h1, h2, h3, decide_true, Bool.and_self, if_true]
  exact ⟨_, rfl⟩
theorem sit_ref {l : Nat} {L : List (Int × Nat)} (h : S[l]? = some (cntV L)) : sitS (.ref l) S = sitS (cntV L) S := by
  unfold sitS
  simp only [asDk, h]
theorem sumsOf_cnt : ∀ (P : List (Nat × Nat)) {l : List (Int × Nat)} {k : Nat}, (∀ p ∈ l, p.2 ≤ k) → ∀ p ∈ sumsOf l P, p.2 ≤ k + P.length
  | [], _, _, h => h
  | p :: P, l, k, h => by
    have hb : ∀ q ∈ bumpL l ((p.2 : Int) - (p.1 : Int)), q.2 ≤ k + 1 := fun q hq => by
      have hg : (lookN ((p.2 : Int) - (p.1 : Int)) l).getD 0 ≤ k := by
        have key : ∀ (l : List (Int × Nat)), (∀ p ∈ l, p.2 ≤ k) → ∀ i, (lookN i l).getD 0 ≤ k := fun l => by
          induction l with
          | nil => intro _ i; exact Nat.zero_le _
          | cons q l ih =>
            intro h i
            rw [lookN]
            split
            · exact h q List.mem_cons_self
            · exact ih (fun p hp => h p (List.mem_cons_of_mem _ hp)) i
        exact key l h _
      unfold bumpL at hq
      split at hq
      · obtain ⟨r, hr, rfl⟩ := List.mem_map.mp hq
        split
        · show (lookN ((p.2 : Int) - (p.1 : Int)) l).getD 0 + 1 ≤ k + 1; omega
        · have := h r hr; omega
      · rcases List.mem_append.mp hq with hq | hq
        · have := h q hq; omega
        · rw [List.mem_singleton.mp hq]; show (lookN ((p.2 : Int) - (p.1 : Int)) l).getD 0 + 1 ≤ k + 1; omega
    intro q hq
    have := sumsOf_cnt P hb q hq
    rw [List.length_cons]
    omega
theorem is_right_ok (hn : 10 ≤ n) {h : Hand} (hh : HandOk h) (T : Store) : ∃ h', HandOk h' ∧ callN 1000 progL n "_law_is_right" [.ref 0] (handD h :: T) = some (.bl true, handD h' :: T) := by
  obtain ⟨m, rfl, hm⟩ := pos_n hn
  obtain ⟨a, b, h1, ha, hb, hh1, e1⟩ := two_ok (n := m) (by omega) hh T
  have e1' : callN 1000 progL m "_law_two" [.ref 0, .int 12] (handD h :: T) = some (.tup [.str a, .str b], handD h1 :: T) := e1
  have hal := ha.le
  have hbl := hb.le
  let S1 : Store := handD h1 :: T
  let L := slantsL a b 1
  let C := sumsL a b
  have h144 := allD_144 ha hb
  have hL144 : L.length ≤ 144 := by
    have := slantsL_len ha hb 1 (allD a b).length
    rwa [List.take_length] at this
  have hB144 : (slantsL a b (-1)).length ≤ 144 := by
    have := slantsL_len ha hb (-1) (allD a b).length
    rwa [List.take_length] at this
  have hC144 : C.length ≤ 144 := by
    have := sumsOf_144 ha hb (allD a b).length
    rwa [List.take_length] at this
  have smallL : ∀ t ∈ L, SmallT t := fun t ht => slants_small ha hb ht
  have l2 : (2 ≤ line) = True := le_line (by omega)
  have l1 : (1 ≤ line) = True := le_line (by omega)
  have l3 : (3 ≤ line) = True := le_line (by omega)
  have l0 : (0 ≤ line) = True := le_line (by omega)
  have hrl := rowsL_len a b
  -- 1
  have p1 : run 1000 (callN 1000 progL m) d_law_is_right_s1 [some (.ref 0), none, none, none, none, none, none, none, none, none, none, none, none, none, none, none, none, none] (handD h :: T) = some (.nx (eR a b none none none none none none none none none none none none none none none), S1) := by
    simp only [d_law_is_right_s1, e1', S1, eq_self, Bool.and_self, Bool.and_true, pb_non, pb_bl, pb_int, pb_str, pb_tup, pb_lv, pb_dv, pl_nil, pl_cons, pu_ints, pu_strs, pu_sgn, pu_nat, end_rt, end_nx, end_own, run, ev, evs, evT, evI, fin, Option.bind_some, Option.map_some, startE, List.map_cons, List.map_nil, List.length_cons, List.length_nil, List.cons_append, List.nil_append, List.replicate_succ, List.replicate_zero, Nat.reduceAdd, Nat.reduceSub, Nat.zero_add, List.getElem?_cons_zero, List.getElem?_cons_succ, List.set_cons_zero, List.set_cons_succ, wipeE, bindTg, setAll, cmpS, eq_ii, eq_ss, lt_ii, lt_ss, mem_s, p_add_i, p_sub_i, b_len_t, b_len_l, b_abs, b_int, b_tuple_l, b_list_t, b_list_l, m_count, i_tup, i_lv, atI_0, atI_1, atI_2, atI_3, atI_4, decide_eq_true_eq, Bool.not_true, Bool.not_false, Bool.false_eq_true, if_true, if_false, ite_true, ite_false, reduceIte, isNon, walkOf, walkS, isi_non_int, isi_non_str, isi_non_tuple, isi_non_list, isi_non_dict, isi_non_bool, isi_bl_int, isi_bl_str, isi_bl_tuple, isi_bl_list, isi_bl_dict, isi_bl_bool, isi_int_int, isi_int_str, isi_int_tuple, isi_int_list, isi_int_dict, isi_int_bool, isi_str_int, isi_str_str, isi_str_tuple, isi_str_list, isi_str_dict, isi_str_bool, isi_tup_int, isi_tup_str, isi_tup_tuple, isi_tup_list, isi_tup_dict, isi_tup_bool, isi_lv_int, isi_lv_str, isi_lv_tuple, isi_lv_list, isi_lv_dict, isi_lv_bool, isi_dv_int, isi_dv_str, isi_dv_tuple, isi_dv_list, isi_dv_dict, isi_dv_bool, isi_scr_int, isi_scr_str, isi_scr_tuple, isi_scr_list, isi_scr_dict, isi_scr_bool]
  -- 2, 3
  have f2 := law_dots_ok (S := S1) (n := m) (by omega) (a := a) (b := b) (by omega) (by omega)
  have p2 : run 1000 (callN 1000 progL m) d_law_is_right_s2 (eR a b none none none none none none none none none none none none none none none) S1 = some (.nx (eR a b (some (rowsV a b)) none none none none none none none none none none none none none none), S1) := by
    simp only [d_law_is_right_s2, f2, eq_self, Bool.and_self, Bool.and_true, pb_non, pb_bl, pb_int, pb_str, pb_tup, pb_lv, pb_dv, pl_nil, pl_cons, pu_ints, pu_strs, pu_sgn, pu_nat, end_rt, end_nx, end_own, run, ev, evs, evT, evI, fin, Option.bind_some, Option.map_some, startE, List.map_cons, List.map_nil, List.length_cons, List.length_nil, List.cons_append, List.nil_append, List.replicate_succ, List.replicate_zero, Nat.reduceAdd, Nat.reduceSub, Nat.zero_add, List.getElem?_cons_zero, List.getElem?_cons_succ, List.set_cons_zero, List.set_cons_succ, wipeE, bindTg, setAll, cmpS, eq_ii, eq_ss, lt_ii, lt_ss, mem_s, p_add_i, p_sub_i, b_len_t, b_len_l, b_abs, b_int, b_tuple_l, b_list_t, b_list_l, m_count, i_tup, i_lv, atI_0, atI_1, atI_2, atI_3, atI_4, decide_eq_true_eq, Bool.not_true, Bool.not_false, Bool.false_eq_true, if_true, if_false, ite_true, ite_false, reduceIte, isNon, walkOf, walkS, isi_non_int, isi_non_str, isi_non_tuple, isi_non_list, isi_non_dict, isi_non_bool, isi_bl_int, isi_bl_str, isi_bl_tuple, isi_bl_list, isi_bl_dict, isi_bl_bool, isi_int_int, isi_int_str, isi_int_tuple, isi_int_list, isi_int_dict, isi_int_bool, isi_str_int, isi_str_str, isi_str_tuple, isi_str_list, isi_str_dict, isi_str_bool, isi_tup_int, isi_tup_str, isi_tup_tuple, isi_tup_list, isi_tup_dict, isi_tup_bool, isi_lv_int, isi_lv_str, isi_lv_tuple, isi_lv_list, isi_lv_dict, isi_lv_bool, isi_dv_int, isi_dv_str, isi_dv_tuple, isi_dv_list, isi_dv_dict, isi_dv_bool, isi_scr_int, isi_scr_str, isi_scr_tuple, isi_scr_list, isi_scr_dict, isi_scr_bool]
  have f3 := dots_ok (S := S1) (n := m) (by omega) ha hb
  let told : Option D := some (.tup ((rowsL a b).map .str))
  have p3 : run 1000 (callN 1000 progL m) d_law_is_right_s3 (eR a b (some (rowsV a b)) none none none none none none none none none none none none none none) S1 = some (.nx (eR a b (some (rowsV a b)) told none none none none none none none none none none none none none), S1) := by
    simp only [d_law_is_right_s3, f3, told, eq_self, Bool.and_self, Bool.and_true, pb_non, pb_bl, pb_int, pb_str, pb_tup, pb_lv, pb_dv, pl_nil, pl_cons, pu_ints, pu_strs, pu_sgn, pu_nat, end_rt, end_nx, end_own, run, ev, evs, evT, evI, fin, Option.bind_some, Option.map_some, startE, List.map_cons, List.map_nil, List.length_cons, List.length_nil, List.cons_append, List.nil_append, List.replicate_succ, List.replicate_zero, Nat.reduceAdd, Nat.reduceSub, Nat.zero_add, List.getElem?_cons_zero, List.getElem?_cons_succ, List.set_cons_zero, List.set_cons_succ, wipeE, bindTg, setAll, cmpS, eq_ii, eq_ss, lt_ii, lt_ss, mem_s, p_add_i, p_sub_i, b_len_t, b_len_l, b_abs, b_int, b_tuple_l, b_list_t, b_list_l, m_count, i_tup, i_lv, atI_0, atI_1, atI_2, atI_3, atI_4, decide_eq_true_eq, Bool.not_true, Bool.not_false, Bool.false_eq_true, if_true, if_false, ite_true, ite_false, reduceIte, isNon, walkOf, walkS, isi_non_int, isi_non_str, isi_non_tuple, isi_non_list, isi_non_dict, isi_non_bool, isi_bl_int, isi_bl_str, isi_bl_tuple, isi_bl_list, isi_bl_dict, isi_bl_bool, isi_int_int, isi_int_str, isi_int_tuple, isi_int_list, isi_int_dict, isi_int_bool, isi_str_int, isi_str_str, isi_str_tuple, isi_str_list, isi_str_dict, isi_str_bool, isi_tup_int, isi_tup_str, isi_tup_tuple, isi_tup_list, isi_tup_dict, isi_tup_bool, isi_lv_int, isi_lv_str, isi_lv_tuple, isi_lv_list, isi_lv_dict, isi_lv_bool, isi_dv_int, isi_dv_str, isi_dv_tuple, isi_dv_list, isi_dv_dict, isi_dv_bool, isi_scr_int, isi_scr_str, isi_scr_tuple, isi_scr_list, isi_scr_dict, isi_scr_bool]
  -- 4
  have f4 := dots_many_ok (S := S1) (n := m) (by omega) ha hb
  have c1 : ev 1000 (callN 1000 progL m) d_law_is_right_c1 (eR a b (some (rowsV a b)) told none none none none none none none none none none none none none) S1 = some (.lv (((rowsL a b).map fun r => ((r.count 35 : Nat) : Int)).map .int), S1) := by
    rw [List.map_map]
    refine lc_map (L := rowsL a b) (φ := fun r : List Nat => .str r) _ (by simp only [eq_self, Bool.and_self, Bool.and_true, pb_non, pb_bl, pb_int, pb_str, pb_tup, pb_lv, pb_dv, pl_nil, pl_cons, pu_ints, pu_strs, pu_sgn, pu_nat, end_rt, end_nx, end_own, run, ev, evs, evT, evI, fin, Option.bind_some, Option.map_some, startE, List.map_cons, List.map_nil, List.length_cons, List.length_nil, List.cons_append, List.nil_append, List.replicate_succ, List.replicate_zero, Nat.reduceAdd, Nat.reduceSub, Nat.zero_add, List.getElem?_cons_zero, List.getElem?_cons_succ, List.set_cons_zero, List.set_cons_succ, wipeE, bindTg, setAll, cmpS, eq_ii, eq_ss, lt_ii, lt_ss, mem_s, p_add_i, p_sub_i, b_len_t, b_len_l, b_abs, b_int, b_tuple_l, b_list_t, b_list_l, m_count, i_tup, i_lv, atI_0, atI_1, atI_2, atI_3, atI_4, decide_eq_true_eq, Bool.not_true, Bool.not_false, Bool.false_eq_true, if_true, if_false, ite_true, ite_false, reduceIte, isNon, walkOf, walkS, isi_non_int, isi_non_str, isi_non_tuple, isi_non_list, isi_non_dict, isi_non_bool, isi_bl_int, isi_bl_str, isi_bl_tuple, isi_bl_list, isi_bl_dict, isi_bl_bool, isi_int_int, isi_int_str, isi_int_tuple, isi_int_list, isi_int_dict, isi_int_bool, isi_str_int, isi_str_str, isi_str_tuple, isi_str_list, isi_str_dict, isi_str_bool, isi_tup_int, isi_tup_str, isi_tup_tuple, isi_tup_list, isi_tup_dict, isi_tup_bool, isi_lv_int, isi_lv_str, isi_lv_tuple, isi_lv_list, isi_lv_dict, isi_lv_bool, isi_dv_int, isi_dv_str, isi_dv_tuple, isi_dv_list, isi_dv_dict, isi_dv_bool, isi_scr_int, isi_scr_str, isi_scr_tuple, isi_scr_list, isi_scr_dict, isi_scr_bool]) (fun r hr => ?_) (by rw [hrl]; exact ll (by omega))
    simp only [turnF, ty_cnt, eq_self, Bool.and_self, Bool.and_true, pb_non, pb_bl, pb_int, pb_str, pb_tup, pb_lv, pb_dv, pl_nil, pl_cons, pu_ints, pu_strs, pu_sgn, pu_nat, end_rt, end_nx, end_own, run, ev, evs, evT, evI, fin, Option.bind_some, Option.map_some, startE, List.map_cons, List.map_nil, List.length_cons, List.length_nil, List.cons_append, List.nil_append, List.replicate_succ, List.replicate_zero, Nat.reduceAdd, Nat.reduceSub, Nat.zero_add, List.getElem?_cons_zero, List.getElem?_cons_succ, List.set_cons_zero, List.set_cons_succ, wipeE, bindTg, setAll, cmpS, eq_ii, eq_ss, lt_ii, lt_ss, mem_s, p_add_i, p_sub_i, b_len_t, b_len_l, b_abs, b_int, b_tuple_l, b_list_t, b_list_l, m_count, i_tup, i_lv, atI_0, atI_1, atI_2, atI_3, atI_4, decide_eq_true_eq, Bool.not_true, Bool.not_false, Bool.false_eq_true, if_true, if_false, ite_true, ite_false, reduceIte, isNon, walkOf, walkS, isi_non_int, isi_non_str, isi_non_tuple, isi_non_list, isi_non_dict, isi_non_bool, isi_bl_int, isi_bl_str, isi_bl_tuple, isi_bl_list, isi_bl_dict, isi_bl_bool, isi_int_int, isi_int_str, isi_int_tuple, isi_int_list, isi_int_dict, isi_int_bool, isi_str_int, isi_str_str, isi_str_tuple, isi_str_list, isi_str_dict, isi_str_bool, isi_tup_int, isi_tup_str, isi_tup_tuple, isi_tup_list, isi_tup_dict, isi_tup_bool, isi_lv_int, isi_lv_str, isi_lv_tuple, isi_lv_list, isi_lv_dict, isi_lv_bool, isi_dv_int, isi_dv_str, isi_dv_tuple, isi_dv_list, isi_dv_dict, isi_dv_bool, isi_scr_int, isi_scr_str, isi_scr_tuple, isi_scr_list, isi_scr_dict, isi_scr_bool]
    rfl
  have f4b := b_sum (S := S1) ((rowsL a b).map fun r => ((r.count 35 : Nat) : Int))
  rw [dots_count] at f4b
  have isRows : isD 3 (.tup ((rowsL a b).map .str)) := isD_tup (by rw [List.length_map, hrl]; omega) fun x hx => by
    obtain ⟨r, hr, rfl⟩ := List.mem_map.mp hx
    obtain ⟨x, _, rfl⟩ := List.mem_map.mp hr
    exact isD_str (by rw [dotRow_len]; omega)
  have f4c := is_ok (S := S1) 4 m (by omega) (.lv [.tup ((rowsL a b).map .str), .int ((allD a b).length : Nat)]) (isD_two' isRows (isD_nat (by omega)))
  have p4 : run 1000 (callN 1000 progL m) d_law_is_right_s4 (eR a b (some (rowsV a b)) told none none none none none none none none none none none none none) S1 = some (.nx (eR a b (some (rowsV a b)) told none none none none none none none none none none none none none), S1) := by
    simp only [told] at c1 ⊢
    simp only [d_law_is_right_s4, f4, c1, f4b, f4c, l2, eq_self, Bool.and_self, Bool.and_true, pb_non, pb_bl, pb_int, pb_str, pb_tup, pb_lv, pb_dv, pl_nil, pl_cons, pu_ints, pu_strs, pu_sgn, pu_nat, end_rt, end_nx, end_own, run, ev, evs, evT, evI, fin, Option.bind_some, Option.map_some, startE, List.map_cons, List.map_nil, List.length_cons, List.length_nil, List.cons_append, List.nil_append, List.replicate_succ, List.replicate_zero, Nat.reduceAdd, Nat.reduceSub, Nat.zero_add, List.getElem?_cons_zero, List.getElem?_cons_succ, List.set_cons_zero, List.set_cons_succ, wipeE, bindTg, setAll, cmpS, eq_ii, eq_ss, lt_ii, lt_ss, mem_s, p_add_i, p_sub_i, b_len_t, b_len_l, b_abs, b_int, b_tuple_l, b_list_t, b_list_l, m_count, i_tup, i_lv, atI_0, atI_1, atI_2, atI_3, atI_4, decide_eq_true_eq, Bool.not_true, Bool.not_false, Bool.false_eq_true, if_true, if_false, ite_true, ite_false, reduceIte, isNon, walkOf, walkS, isi_non_int, isi_non_str, isi_non_tuple, isi_non_list, isi_non_dict, isi_non_bool, isi_bl_int, isi_bl_str, isi_bl_tuple, isi_bl_list, isi_bl_dict, isi_bl_bool, isi_int_int, isi_int_str, isi_int_tuple, isi_int_list, isi_int_dict, isi_int_bool, isi_str_int, isi_str_str, isi_str_tuple, isi_str_list, isi_str_dict, isi_str_bool, isi_tup_int, isi_tup_str, isi_tup_tuple, isi_tup_list, isi_tup_dict, isi_tup_bool, isi_lv_int, isi_lv_str, isi_lv_tuple, isi_lv_list, isi_lv_dict, isi_lv_bool, isi_dv_int, isi_dv_str, isi_dv_tuple, isi_dv_list, isi_dv_dict, isi_dv_bool, isi_scr_int, isi_scr_str, isi_scr_tuple, isi_scr_list, isi_scr_dict, isi_scr_bool]
  -- 5
  have f5 := law_slants_ok (S := S1) (n := m) (by omega) ha hb (w := 1) (by decide)
  let right : Option D := some (.lv (L.map triV))
  have p5 : run 1000 (callN 1000 progL m) d_law_is_right_s5 (eR a b (some (rowsV a b)) told none none none none none none none none none none none none none) S1 = some (.nx (eR a b (some (rowsV a b)) told right none none none none none none none none none none none none), S1) := by
    simp only [d_law_is_right_s5, f5, eq_self, Bool.and_self, Bool.and_true, pb_non, pb_bl, pb_int, pb_str, pb_tup, pb_lv, pb_dv, pl_nil, pl_cons, pu_ints, pu_strs, pu_sgn, pu_nat, end_rt, end_nx, end_own, run, ev, evs, evT, evI, fin, Option.bind_some, Option.map_some, startE, List.map_cons, List.map_nil, List.length_cons, List.length_nil, List.cons_append, List.nil_append, List.replicate_succ, List.replicate_zero, Nat.reduceAdd, Nat.reduceSub, Nat.zero_add, List.getElem?_cons_zero, List.getElem?_cons_succ, List.set_cons_zero, List.set_cons_succ, wipeE, bindTg, setAll, cmpS, eq_ii, eq_ss, lt_ii, lt_ss, mem_s, p_add_i, p_sub_i, b_len_t, b_len_l, b_abs, b_int, b_tuple_l, b_list_t, b_list_l, m_count, i_tup, i_lv, atI_0, atI_1, atI_2, atI_3, atI_4, decide_eq_true_eq, Bool.not_true, Bool.not_false, Bool.false_eq_true, if_true, if_false, ite_true, ite_false, reduceIte, isNon, walkOf, walkS, isi_non_int, isi_non_str, isi_non_tuple, isi_non_list, isi_non_dict, isi_non_bool, isi_bl_int, isi_bl_str, isi_bl_tuple, isi_bl_list, isi_bl_dict, isi_bl_bool, isi_int_int, isi_int_str, isi_int_tuple, isi_int_list, isi_int_dict, isi_int_bool, isi_str_int, isi_str_str, isi_str_tuple, isi_str_list, isi_str_dict, isi_str_bool, isi_tup_int, isi_tup_str, isi_tup_tuple, isi_tup_list, isi_tup_dict, isi_tup_bool, isi_lv_int, isi_lv_str, isi_lv_tuple, isi_lv_list, isi_lv_dict, isi_lv_bool, isi_dv_int, isi_dv_str, isi_dv_tuple, isi_dv_list, isi_dv_dict, isi_dv_bool, isi_scr_int, isi_scr_str, isi_scr_tuple, isi_scr_list, isi_scr_dict, isi_scr_bool]
    rfl
  -- 6, 7
  have p6 : run 1000 (callN 1000 progL m) d_law_is_right_s6 (eR a b (some (rowsV a b)) told right none none none none none none none none none none none none) S1 = some (.nx (eR a b (some (rowsV a b)) told right (some (.int (topM L : Nat))) none none none none none none none none none none none), S1) := by
    have c2 : ev 1000 (callN 1000 progL m) d_law_is_right_c2 (eR a b (some (rowsV a b)) told right none none none none none none none none none none none none) S1 = some (.lv (L.map fun t : Tri => .int (t.2.2 : Nat)), S1) := by
      refine lc_map (L := L) (φ := triV) _ (by simp only [right, eq_self, Bool.and_self, Bool.and_true, pb_non, pb_bl, pb_int, pb_str, pb_tup, pb_lv, pb_dv, pl_nil, pl_cons, pu_ints, pu_strs, pu_sgn, pu_nat, end_rt, end_nx, end_own, run, ev, evs, evT, evI, fin, Option.bind_some, Option.map_some, startE, List.map_cons, List.map_nil, List.length_cons, List.length_nil, List.cons_append, List.nil_append, List.replicate_succ, List.replicate_zero, Nat.reduceAdd, Nat.reduceSub, Nat.zero_add, List.getElem?_cons_zero, List.getElem?_cons_succ, List.set_cons_zero, List.set_cons_succ, wipeE, bindTg, setAll, cmpS, eq_ii, eq_ss, lt_ii, lt_ss, mem_s, p_add_i, p_sub_i, b_len_t, b_len_l, b_abs, b_int, b_tuple_l, b_list_t, b_list_l, m_count, i_tup, i_lv, atI_0, atI_1, atI_2, atI_3, atI_4, decide_eq_true_eq, Bool.not_true, Bool.not_false, Bool.false_eq_true, if_true, if_false, ite_true, ite_false, reduceIte, isNon, walkOf, walkS, isi_non_int, isi_non_str, isi_non_tuple, isi_non_list, isi_non_dict, isi_non_bool, isi_bl_int, isi_bl_str, isi_bl_tuple, isi_bl_list, isi_bl_dict, isi_bl_bool, isi_int_int, isi_int_str, isi_int_tuple, isi_int_list, isi_int_dict, isi_int_bool, isi_str_int, isi_str_str, isi_str_tuple, isi_str_list, isi_str_dict, isi_str_bool, isi_tup_int, isi_tup_str, isi_tup_tuple, isi_tup_list, isi_tup_dict, isi_tup_bool, isi_lv_int, isi_lv_str, isi_lv_tuple, isi_lv_list, isi_lv_dict, isi_lv_bool, isi_dv_int, isi_dv_str, isi_dv_tuple, isi_dv_list, isi_dv_dict, isi_dv_bool, isi_scr_int, isi_scr_str, isi_scr_tuple, isi_scr_list, isi_scr_dict, isi_scr_bool]) (fun t ht => ?_) (ll (by omega))
      simp only [turnF, eq_self, Bool.and_self, Bool.and_true, pb_non, pb_bl, pb_int, pb_str, pb_tup, pb_lv, pb_dv, pl_nil, pl_cons, pu_ints, pu_strs, pu_sgn, pu_nat, end_rt, end_nx, end_own, run, ev, evs, evT, evI, fin, Option.bind_some, Option.map_some, startE, List.map_cons, List.map_nil, List.length_cons, List.length_nil, List.cons_append, List.nil_append, List.replicate_succ, List.replicate_zero, Nat.reduceAdd, Nat.reduceSub, Nat.zero_add, List.getElem?_cons_zero, List.getElem?_cons_succ, List.set_cons_zero, List.set_cons_succ, wipeE, bindTg, setAll, cmpS, eq_ii, eq_ss, lt_ii, lt_ss, mem_s, p_add_i, p_sub_i, b_len_t, b_len_l, b_abs, b_int, b_tuple_l, b_list_t, b_list_l, m_count, i_tup, i_lv, atI_0, atI_1, atI_2, atI_3, atI_4, decide_eq_true_eq, Bool.not_true, Bool.not_false, Bool.false_eq_true, if_true, if_false, ite_true, ite_false, reduceIte, isNon, walkOf, walkS, isi_non_int, isi_non_str, isi_non_tuple, isi_non_list, isi_non_dict, isi_non_bool, isi_bl_int, isi_bl_str, isi_bl_tuple, isi_bl_list, isi_bl_dict, isi_bl_bool, isi_int_int, isi_int_str, isi_int_tuple, isi_int_list, isi_int_dict, isi_int_bool, isi_str_int, isi_str_str, isi_str_tuple, isi_str_list, isi_str_dict, isi_str_bool, isi_tup_int, isi_tup_str, isi_tup_tuple, isi_tup_list, isi_tup_dict, isi_tup_bool, isi_lv_int, isi_lv_str, isi_lv_tuple, isi_lv_list, isi_lv_dict, isi_lv_bool, isi_dv_int, isi_dv_str, isi_dv_tuple, isi_dv_list, isi_dv_dict, isi_dv_bool, isi_scr_int, isi_scr_str, isi_scr_tuple, isi_scr_list, isi_scr_dict, isi_scr_bool]
    have hnil := eq_nilT (S := S1) L
    cases e : L with
    | nil =>
      simp only [right, e, List.map_nil] at hnil ⊢
      simp only [d_law_is_right_s6, hnil, l0, decide_true, topM, eq_self, Bool.and_self, Bool.and_true, pb_non, pb_bl, pb_int, pb_str, pb_tup, pb_lv, pb_dv, pl_nil, pl_cons, pu_ints, pu_strs, pu_sgn, pu_nat, end_rt, end_nx, end_own, run, ev, evs, evT, evI, fin, Option.bind_some, Option.map_some, startE, List.map_cons, List.map_nil, List.length_cons, List.length_nil, List.cons_append, List.nil_append, List.replicate_succ, List.replicate_zero, Nat.reduceAdd, Nat.reduceSub, Nat.zero_add, List.getElem?_cons_zero, List.getElem?_cons_succ, List.set_cons_zero, List.set_cons_succ, wipeE, bindTg, setAll, cmpS, eq_ii, eq_ss, lt_ii, lt_ss, mem_s, p_add_i, p_sub_i, b_len_t, b_len_l, b_abs, b_int, b_tuple_l, b_list_t, b_list_l, m_count, i_tup, i_lv, atI_0, atI_1, atI_2, atI_3, atI_4, decide_eq_true_eq, Bool.not_true, Bool.not_false, Bool.false_eq_true, if_true, if_false, ite_true, ite_false, reduceIte, isNon, walkOf, walkS, isi_non_int, isi_non_str, isi_non_tuple, isi_non_list, isi_non_dict, isi_non_bool, isi_bl_int, isi_bl_str, isi_bl_tuple, isi_bl_list, isi_bl_dict, isi_bl_bool, isi_int_int, isi_int_str, isi_int_tuple, isi_int_list, isi_int_dict, isi_int_bool, isi_str_int, isi_str_str, isi_str_tuple, isi_str_list, isi_str_dict, isi_str_bool, isi_tup_int, isi_tup_str, isi_tup_tuple, isi_tup_list, isi_tup_dict, isi_tup_bool, isi_lv_int, isi_lv_str, isi_lv_tuple, isi_lv_list, isi_lv_dict, isi_lv_bool, isi_dv_int, isi_dv_str, isi_dv_tuple, isi_dv_list, isi_dv_dict, isi_dv_bool, isi_scr_int, isi_scr_str, isi_scr_tuple, isi_scr_list, isi_scr_dict, isi_scr_bool]
      rfl
    | cons t L0 =>
      have hmax := max_slants (S := S1) (L := L0) (t := t)
      rw [List.map_cons] at hmax
      rw [e] at c2
      simp only [right, e, reduceCtorEq, decide_false] at hnil c2 ⊢
      generalize hv : D.lv ((t :: L0).map triV) = v at hnil c2 ⊢
      simp only [d_law_is_right_s6, hnil, c2, hmax, l0, eq_self, Bool.and_self, Bool.and_true, pb_non, pb_bl, pb_int, pb_str, pb_tup, pb_lv, pb_dv, pl_nil, pl_cons, pu_ints, pu_strs, pu_sgn, pu_nat, end_rt, end_nx, end_own, run, ev, evs, evT, evI, fin, Option.bind_some, Option.map_some, startE, List.map_cons, List.map_nil, List.length_cons, List.length_nil, List.cons_append, List.nil_append, List.replicate_succ, List.replicate_zero, Nat.reduceAdd, Nat.reduceSub, Nat.zero_add, List.getElem?_cons_zero, List.getElem?_cons_succ, List.set_cons_zero, List.set_cons_succ, wipeE, bindTg, setAll, cmpS, eq_ii, eq_ss, lt_ii, lt_ss, mem_s, p_add_i, p_sub_i, b_len_t, b_len_l, b_abs, b_int, b_tuple_l, b_list_t, b_list_l, m_count, i_tup, i_lv, atI_0, atI_1, atI_2, atI_3, atI_4, decide_eq_true_eq, Bool.not_true, Bool.not_false, Bool.false_eq_true, if_true, if_false, ite_true, ite_false, reduceIte, isNon, walkOf, walkS, isi_non_int, isi_non_str, isi_non_tuple, isi_non_list, isi_non_dict, isi_non_bool, isi_bl_int, isi_bl_str, isi_bl_tuple, isi_bl_list, isi_bl_dict, isi_bl_bool, isi_int_int, isi_int_str, isi_int_tuple, isi_int_list, isi_int_dict, isi_int_bool, isi_str_int, isi_str_str, isi_str_tuple, isi_str_list, isi_str_dict, isi_str_bool, isi_tup_int, isi_tup_str, isi_tup_tuple, isi_tup_list, isi_tup_dict, isi_tup_bool, isi_lv_int, isi_lv_str, isi_lv_tuple, isi_lv_list, isi_lv_dict, isi_lv_bool, isi_dv_int, isi_dv_str, isi_dv_tuple, isi_dv_list, isi_dv_dict, isi_dv_bool, isi_scr_int, isi_scr_str, isi_scr_tuple, isi_scr_list, isi_scr_dict, isi_scr_bool]
  have p7 : run 1000 (callN 1000 progL m) d_law_is_right_s7 (eR a b (some (rowsV a b)) told right (some (.int (topM L : Nat))) none none none none none none none none none none none) S1 = some (.nx (eR a b (some (rowsV a b)) told right (some (.int (topM L : Nat))) (some (longT L)) none none none none none none none none none none), S1) := by
    have c3 : ev 1000 (callN 1000 progL m) d_law_is_right_c3 (eR a b (some (rowsV a b)) told right (some (.int (topM L : Nat))) none none none none none none none none none none none) S1 = some (.lv ((L.filter fun t => decide (t.2.2 = topM L)).map triV), S1) := by
      refine lc_filter (L := L) (φ := triV) (fun t => decide (t.2.2 = topM L)) triV (by simp only [right, eq_self, Bool.and_self, Bool.and_true, pb_non, pb_bl, pb_int, pb_str, pb_tup, pb_lv, pb_dv, pl_nil, pl_cons, pu_ints, pu_strs, pu_sgn, pu_nat, end_rt, end_nx, end_own, run, ev, evs, evT, evI, fin, Option.bind_some, Option.map_some, startE, List.map_cons, List.map_nil, List.length_cons, List.length_nil, List.cons_append, List.nil_append, List.replicate_succ, List.replicate_zero, Nat.reduceAdd, Nat.reduceSub, Nat.zero_add, List.getElem?_cons_zero, List.getElem?_cons_succ, List.set_cons_zero, List.set_cons_succ, wipeE, bindTg, setAll, cmpS, eq_ii, eq_ss, lt_ii, lt_ss, mem_s, p_add_i, p_sub_i, b_len_t, b_len_l, b_abs, b_int, b_tuple_l, b_list_t, b_list_l, m_count, i_tup, i_lv, atI_0, atI_1, atI_2, atI_3, atI_4, decide_eq_true_eq, Bool.not_true, Bool.not_false, Bool.false_eq_true, if_true, if_false, ite_true, ite_false, reduceIte, isNon, walkOf, walkS, isi_non_int, isi_non_str, isi_non_tuple, isi_non_list, isi_non_dict, isi_non_bool, isi_bl_int, isi_bl_str, isi_bl_tuple, isi_bl_list, isi_bl_dict, isi_bl_bool, isi_int_int, isi_int_str, isi_int_tuple, isi_int_list, isi_int_dict, isi_int_bool, isi_str_int, isi_str_str, isi_str_tuple, isi_str_list, isi_str_dict, isi_str_bool, isi_tup_int, isi_tup_str, isi_tup_tuple, isi_tup_list, isi_tup_dict, isi_tup_bool, isi_lv_int, isi_lv_str, isi_lv_tuple, isi_lv_list, isi_lv_dict, isi_lv_bool, isi_dv_int, isi_dv_str, isi_dv_tuple, isi_dv_list, isi_dv_dict, isi_dv_bool, isi_scr_int, isi_scr_str, isi_scr_tuple, isi_scr_list, isi_scr_dict, isi_scr_bool]) (fun t ht => ?_) (ll (by omega))
      by_cases hq : t.2.2 = topM L
      · simp only [turnF, hq, decide_true, eq_self, Bool.and_self, Bool.and_true, pb_non, pb_bl, pb_int, pb_str, pb_tup, pb_lv, pb_dv, pl_nil, pl_cons, pu_ints, pu_strs, pu_sgn, pu_nat, end_rt, end_nx, end_own, run, ev, evs, evT, evI, fin, Option.bind_some, Option.map_some, startE, List.map_cons, List.map_nil, List.length_cons, List.length_nil, List.cons_append, List.nil_append, List.replicate_succ, List.replicate_zero, Nat.reduceAdd, Nat.reduceSub, Nat.zero_add, List.getElem?_cons_zero, List.getElem?_cons_succ, List.set_cons_zero, List.set_cons_succ, wipeE, bindTg, setAll, cmpS, eq_ii, eq_ss, lt_ii, lt_ss, mem_s, p_add_i, p_sub_i, b_len_t, b_len_l, b_abs, b_int, b_tuple_l, b_list_t, b_list_l, m_count, i_tup, i_lv, atI_0, atI_1, atI_2, atI_3, atI_4, decide_eq_true_eq, Bool.not_true, Bool.not_false, Bool.false_eq_true, if_true, if_false, ite_true, ite_false, reduceIte, isNon, walkOf, walkS, isi_non_int, isi_non_str, isi_non_tuple, isi_non_list, isi_non_dict, isi_non_bool, isi_bl_int, isi_bl_str, isi_bl_tuple, isi_bl_list, isi_bl_dict, isi_bl_bool, isi_int_int, isi_int_str, isi_int_tuple, isi_int_list, isi_int_dict, isi_int_bool, isi_str_int, isi_str_str, isi_str_tuple, isi_str_list, isi_str_dict, isi_str_bool, isi_tup_int, isi_tup_str, isi_tup_tuple, isi_tup_list, isi_tup_dict, isi_tup_bool, isi_lv_int, isi_lv_str, isi_lv_tuple, isi_lv_list, isi_lv_dict, isi_lv_bool, isi_dv_int, isi_dv_str, isi_dv_tuple, isi_dv_list, isi_dv_dict, isi_dv_bool, isi_scr_int, isi_scr_str, isi_scr_tuple, isi_scr_list, isi_scr_dict, isi_scr_bool]
      · have hq' : ¬ ((t.2.2 : Nat) : Int) = ((topM L : Nat) : Int) := by omega
        simp only [turnF, hq, hq', decide_false, eq_self, Bool.and_self, Bool.and_true, pb_non, pb_bl, pb_int, pb_str, pb_tup, pb_lv, pb_dv, pl_nil, pl_cons, pu_ints, pu_strs, pu_sgn, pu_nat, end_rt, end_nx, end_own, run, ev, evs, evT, evI, fin, Option.bind_some, Option.map_some, startE, List.map_cons, List.map_nil, List.length_cons, List.length_nil, List.cons_append, List.nil_append, List.replicate_succ, List.replicate_zero, Nat.reduceAdd, Nat.reduceSub, Nat.zero_add, List.getElem?_cons_zero, List.getElem?_cons_succ, List.set_cons_zero, List.set_cons_succ, wipeE, bindTg, setAll, cmpS, eq_ii, eq_ss, lt_ii, lt_ss, mem_s, p_add_i, p_sub_i, b_len_t, b_len_l, b_abs, b_int, b_tuple_l, b_list_t, b_list_l, m_count, i_tup, i_lv, atI_0, atI_1, atI_2, atI_3, atI_4, decide_eq_true_eq, Bool.not_true, Bool.not_false, Bool.false_eq_true, if_true, if_false, ite_true, ite_false, reduceIte, isNon, walkOf, walkS, isi_non_int, isi_non_str, isi_non_tuple, isi_non_list, isi_non_dict, isi_non_bool, isi_bl_int, isi_bl_str, isi_bl_tuple, isi_bl_list, isi_bl_dict, isi_bl_bool, isi_int_int, isi_int_str, isi_int_tuple, isi_int_list, isi_int_dict, isi_int_bool, isi_str_int, isi_str_str, isi_str_tuple, isi_str_list, isi_str_dict, isi_str_bool, isi_tup_int, isi_tup_str, isi_tup_tuple, isi_tup_list, isi_tup_dict, isi_tup_bool, isi_lv_int, isi_lv_str, isi_lv_tuple, isi_lv_list, isi_lv_dict, isi_lv_bool, isi_dv_int, isi_dv_str, isi_dv_tuple, isi_dv_list, isi_dv_dict, isi_dv_bool, isi_scr_int, isi_scr_str, isi_scr_tuple, isi_scr_list, isi_scr_dict, isi_scr_bool]
    have hnil := eq_nilT (S := S1) L
    cases e : L with
    | nil =>
      simp only [right, e, List.map_nil] at hnil ⊢
      simp only [d_law_is_right_s7, hnil, l0, decide_true, longT, eq_self, Bool.and_self, Bool.and_true, pb_non, pb_bl, pb_int, pb_str, pb_tup, pb_lv, pb_dv, pl_nil, pl_cons, pu_ints, pu_strs, pu_sgn, pu_nat, end_rt, end_nx, end_own, run, ev, evs, evT, evI, fin, Option.bind_some, Option.map_some, startE, List.map_cons, List.map_nil, List.length_cons, List.length_nil, List.cons_append, List.nil_append, List.replicate_succ, List.replicate_zero, Nat.reduceAdd, Nat.reduceSub, Nat.zero_add, List.getElem?_cons_zero, List.getElem?_cons_succ, List.set_cons_zero, List.set_cons_succ, wipeE, bindTg, setAll, cmpS, eq_ii, eq_ss, lt_ii, lt_ss, mem_s, p_add_i, p_sub_i, b_len_t, b_len_l, b_abs, b_int, b_tuple_l, b_list_t, b_list_l, m_count, i_tup, i_lv, atI_0, atI_1, atI_2, atI_3, atI_4, decide_eq_true_eq, Bool.not_true, Bool.not_false, Bool.false_eq_true, if_true, if_false, ite_true, ite_false, reduceIte, isNon, walkOf, walkS, isi_non_int, isi_non_str, isi_non_tuple, isi_non_list, isi_non_dict, isi_non_bool, isi_bl_int, isi_bl_str, isi_bl_tuple, isi_bl_list, isi_bl_dict, isi_bl_bool, isi_int_int, isi_int_str, isi_int_tuple, isi_int_list, isi_int_dict, isi_int_bool, isi_str_int, isi_str_str, isi_str_tuple, isi_str_list, isi_str_dict, isi_str_bool, isi_tup_int, isi_tup_str, isi_tup_tuple, isi_tup_list, isi_tup_dict, isi_tup_bool, isi_lv_int, isi_lv_str, isi_lv_tuple, isi_lv_list, isi_lv_dict, isi_lv_bool, isi_dv_int, isi_dv_str, isi_dv_tuple, isi_dv_list, isi_dv_dict, isi_dv_bool, isi_scr_int, isi_scr_str, isi_scr_tuple, isi_scr_list, isi_scr_dict, isi_scr_bool]
    | cons t L0 =>
      obtain ⟨r, hr⟩ := first_top (t := t) (L := L0) (by rw [← e]; exact slants_pw a b 1) (by rw [← e]; exact smallL)
      rw [e] at c3
      rw [hr, List.map_cons] at c3
      simp only [right, e, reduceCtorEq, decide_false] at hnil c3 ⊢
      generalize hv : D.lv ((t :: L0).map triV) = v at hnil c3 ⊢
      simp only [d_law_is_right_s7, hnil, c3, l0, longT, eq_self, Bool.and_self, Bool.and_true, pb_non, pb_bl, pb_int, pb_str, pb_tup, pb_lv, pb_dv, pl_nil, pl_cons, pu_ints, pu_strs, pu_sgn, pu_nat, end_rt, end_nx, end_own, run, ev, evs, evT, evI, fin, Option.bind_some, Option.map_some, startE, List.map_cons, List.map_nil, List.length_cons, List.length_nil, List.cons_append, List.nil_append, List.replicate_succ, List.replicate_zero, Nat.reduceAdd, Nat.reduceSub, Nat.zero_add, List.getElem?_cons_zero, List.getElem?_cons_succ, List.set_cons_zero, List.set_cons_succ, wipeE, bindTg, setAll, cmpS, eq_ii, eq_ss, lt_ii, lt_ss, mem_s, p_add_i, p_sub_i, b_len_t, b_len_l, b_abs, b_int, b_tuple_l, b_list_t, b_list_l, m_count, i_tup, i_lv, atI_0, atI_1, atI_2, atI_3, atI_4, decide_eq_true_eq, Bool.not_true, Bool.not_false, Bool.false_eq_true, if_true, if_false, ite_true, ite_false, reduceIte, isNon, walkOf, walkS, isi_non_int, isi_non_str, isi_non_tuple, isi_non_list, isi_non_dict, isi_non_bool, isi_bl_int, isi_bl_str, isi_bl_tuple, isi_bl_list, isi_bl_dict, isi_bl_bool, isi_int_int, isi_int_str, isi_int_tuple, isi_int_list, isi_int_dict, isi_int_bool, isi_str_int, isi_str_str, isi_str_tuple, isi_str_list, isi_str_dict, isi_str_bool, isi_tup_int, isi_tup_str, isi_tup_tuple, isi_tup_list, isi_tup_dict, isi_tup_bool, isi_lv_int, isi_lv_str, isi_lv_tuple, isi_lv_list, isi_lv_dict, isi_lv_bool, isi_dv_int, isi_dv_str, isi_dv_tuple, isi_dv_list, isi_dv_dict, isi_dv_bool, isi_scr_int, isi_scr_str, isi_scr_tuple, isi_scr_list, isi_scr_dict, isi_scr_bool]
  -- 8, 9
  have f8 := slants_ok (S := S1) (n := m) (by omega) ha hb
  have f8b := longest_slant_ok (S := S1) (n := m) (by omega) ha hb
  have isL : isD 4 (.tup (L.map triV)) := isD_tup (by rw [List.length_map]; omega) fun x hx => by
    obtain ⟨t, ht, rfl⟩ := List.mem_map.mp hx
    exact isD_tri (smallL t ht)
  have f8c := is_ok (S := S1) 5 m (by omega) (.lv [.tup (L.map triV), longT L]) (isD_two' isL (long_isD smallL))
  have p8 : run 1000 (callN 1000 progL m) d_law_is_right_s8 (eR a b (some (rowsV a b)) told right (some (.int (topM L : Nat))) (some (longT L)) none none none none none none none none none none) S1 = some (.nx (eR a b (some (rowsV a b)) told right (some (.int (topM L : Nat))) (some (longT L)) none none none none none none none none none none), S1) := by
    simp only [right]
    simp only [d_law_is_right_s8, f8, f8b, l2, eq_self, Bool.and_self, Bool.and_true, pb_non, pb_bl, pb_int, pb_str, pb_tup, pb_lv, pb_dv, pl_nil, pl_cons, pu_ints, pu_strs, pu_sgn, pu_nat, end_rt, end_nx, end_own, run, ev, evs, evT, evI, fin, Option.bind_some, Option.map_some, startE, List.map_cons, List.map_nil, List.length_cons, List.length_nil, List.cons_append, List.nil_append, List.replicate_succ, List.replicate_zero, Nat.reduceAdd, Nat.reduceSub, Nat.zero_add, List.getElem?_cons_zero, List.getElem?_cons_succ, List.set_cons_zero, List.set_cons_succ, wipeE, bindTg, setAll, cmpS, eq_ii, eq_ss, lt_ii, lt_ss, mem_s, p_add_i, p_sub_i, b_len_t, b_len_l, b_abs, b_int, b_tuple_l, b_list_t, b_list_l, m_count, i_tup, i_lv, atI_0, atI_1, atI_2, atI_3, atI_4, decide_eq_true_eq, Bool.not_true, Bool.not_false, Bool.false_eq_true, if_true, if_false, ite_true, ite_false, reduceIte, isNon, walkOf, walkS, isi_non_int, isi_non_str, isi_non_tuple, isi_non_list, isi_non_dict, isi_non_bool, isi_bl_int, isi_bl_str, isi_bl_tuple, isi_bl_list, isi_bl_dict, isi_bl_bool, isi_int_int, isi_int_str, isi_int_tuple, isi_int_list, isi_int_dict, isi_int_bool, isi_str_int, isi_str_str, isi_str_tuple, isi_str_list, isi_str_dict, isi_str_bool, isi_tup_int, isi_tup_str, isi_tup_tuple, isi_tup_list, isi_tup_dict, isi_tup_bool, isi_lv_int, isi_lv_str, isi_lv_tuple, isi_lv_list, isi_lv_dict, isi_lv_bool, isi_dv_int, isi_dv_str, isi_dv_tuple, isi_dv_list, isi_dv_dict, isi_dv_bool, isi_scr_int, isi_scr_str, isi_scr_tuple, isi_scr_list, isi_scr_dict, isi_scr_bool]
    rw [f8c]
    rfl
  have f9 := back_slants_ok (S := S1) (n := m) (by omega) ha hb
  have f9b := law_slants_ok (S := S1) (n := m) (by omega) ha hb (w := -1) (by decide)
  have f9c := is_ok (S := S1) 4 m (by omega) (.tup ((slantsL a b (-1)).map triV)) (isD_tup (by rw [List.length_map]; omega) fun x hx => by
    obtain ⟨t, ht, rfl⟩ := List.mem_map.mp hx
    exact isD_tri (slants_small ha hb ht))
  have p9 : run 1000 (callN 1000 progL m) d_law_is_right_s9 (eR a b (some (rowsV a b)) told right (some (.int (topM L : Nat))) (some (longT L)) none none none none none none none none none none) S1 = some (.nx (eR a b (some (rowsV a b)) told right (some (.int (topM L : Nat))) (some (longT L)) none none none none none none none none none none), S1) := by
    simp only [d_law_is_right_s9, f9, f9b, f9c, eq_self, Bool.and_self, Bool.and_true, pb_non, pb_bl, pb_int, pb_str, pb_tup, pb_lv, pb_dv, pl_nil, pl_cons, pu_ints, pu_strs, pu_sgn, pu_nat, end_rt, end_nx, end_own, run, ev, evs, evT, evI, fin, Option.bind_some, Option.map_some, startE, List.map_cons, List.map_nil, List.length_cons, List.length_nil, List.cons_append, List.nil_append, List.replicate_succ, List.replicate_zero, Nat.reduceAdd, Nat.reduceSub, Nat.zero_add, List.getElem?_cons_zero, List.getElem?_cons_succ, List.set_cons_zero, List.set_cons_succ, wipeE, bindTg, setAll, cmpS, eq_ii, eq_ss, lt_ii, lt_ss, mem_s, p_add_i, p_sub_i, b_len_t, b_len_l, b_abs, b_int, b_tuple_l, b_list_t, b_list_l, m_count, i_tup, i_lv, atI_0, atI_1, atI_2, atI_3, atI_4, decide_eq_true_eq, Bool.not_true, Bool.not_false, Bool.false_eq_true, if_true, if_false, ite_true, ite_false, reduceIte, isNon, walkOf, walkS, isi_non_int, isi_non_str, isi_non_tuple, isi_non_list, isi_non_dict, isi_non_bool, isi_bl_int, isi_bl_str, isi_bl_tuple, isi_bl_list, isi_bl_dict, isi_bl_bool, isi_int_int, isi_int_str, isi_int_tuple, isi_int_list, isi_int_dict, isi_int_bool, isi_str_int, isi_str_str, isi_str_tuple, isi_str_list, isi_str_dict, isi_str_bool, isi_tup_int, isi_tup_str, isi_tup_tuple, isi_tup_list, isi_tup_dict, isi_tup_bool, isi_lv_int, isi_lv_str, isi_lv_tuple, isi_lv_list, isi_lv_dict, isi_lv_bool, isi_dv_int, isi_dv_str, isi_dv_tuple, isi_dv_list, isi_dv_dict, isi_dv_bool, isi_scr_int, isi_scr_str, isi_scr_tuple, isi_scr_list, isi_scr_dict, isi_scr_bool]
  -- 10, 11
  let top : Option D := some (.int (topM L : Nat))
  let lon : Option D := some (longT L)
  let sr : Option D := some (.ref (T.length + 1))
  have p10 : run 1000 (callN 1000 progL m) d_law_is_right_s10 (eR a b (some (rowsV a b)) told right top lon none none none none none none none none none none) S1 = some (.nx (eR a b (some (rowsV a b)) told right top lon sr none none none none none none none none none), handD h1 :: (T ++ [cntV []])) := rfl
  obtain ⟨y9, y12, y14, y15, p11⟩ := ru_out (m := m) ha hb (x0 := handD h1) (T := T) told right top lon none none none none none none none none none
  let S2 : Store := handD h1 :: (T ++ [cntV C])
  have hg2 : S2[T.length + 1]? = some (cntV C) := at_ref
  -- 12, 13
  have f12 := slant_sums_ok (S := S2) (n := m) (by omega) ha hb
  have p12 : run 1000 (callN 1000 progL m) d_law_is_right_s12 (eR a b (some (rowsV a b)) told right top lon sr none none y9 y12 none y14 y15 none none) S2 = some (.nx (eR a b (some (rowsV a b)) told right top lon sr (some (cntV C)) none y9 y12 none y14 y15 none none), S2) := by
    simp only [d_law_is_right_s12, f12, eq_self, Bool.and_self, Bool.and_true, pb_non, pb_bl, pb_int, pb_str, pb_tup, pb_lv, pb_dv, pl_nil, pl_cons, pu_ints, pu_strs, pu_sgn, pu_nat, end_rt, end_nx, end_own, run, ev, evs, evT, evI, fin, Option.bind_some, Option.map_some, startE, List.map_cons, List.map_nil, List.length_cons, List.length_nil, List.cons_append, List.nil_append, List.replicate_succ, List.replicate_zero, Nat.reduceAdd, Nat.reduceSub, Nat.zero_add, List.getElem?_cons_zero, List.getElem?_cons_succ, List.set_cons_zero, List.set_cons_succ, wipeE, bindTg, setAll, cmpS, eq_ii, eq_ss, lt_ii, lt_ss, mem_s, p_add_i, p_sub_i, b_len_t, b_len_l, b_abs, b_int, b_tuple_l, b_list_t, b_list_l, m_count, i_tup, i_lv, atI_0, atI_1, atI_2, atI_3, atI_4, decide_eq_true_eq, Bool.not_true, Bool.not_false, Bool.false_eq_true, if_true, if_false, ite_true, ite_false, reduceIte, isNon, walkOf, walkS, isi_non_int, isi_non_str, isi_non_tuple, isi_non_list, isi_non_dict, isi_non_bool, isi_bl_int, isi_bl_str, isi_bl_tuple, isi_bl_list, isi_bl_dict, isi_bl_bool, isi_int_int, isi_int_str, isi_int_tuple, isi_int_list, isi_int_dict, isi_int_bool, isi_str_int, isi_str_str, isi_str_tuple, isi_str_list, isi_str_dict, isi_str_bool, isi_tup_int, isi_tup_str, isi_tup_tuple, isi_tup_list, isi_tup_dict, isi_tup_bool, isi_lv_int, isi_lv_str, isi_lv_tuple, isi_lv_list, isi_lv_dict, isi_lv_bool, isi_dv_int, isi_dv_str, isi_dv_tuple, isi_dv_list, isi_dv_dict, isi_dv_bool, isi_scr_int, isi_scr_str, isi_scr_tuple, isi_scr_list, isi_scr_dict, isi_scr_bool]
    rfl
  have smallC : ∀ p ∈ C, p.1.natAbs ≤ 12 := fun p hp => sumsL_small ha hb hp
  have cntC : ∀ p ∈ C, p.2 ≤ 144 := fun p hp => by
    have := sumsOf_cnt (allD a b) (l := []) (k := 0) (fun _ h => (List.not_mem_nil h).elim) p hp
    omega
  obtain ⟨sd, hsd⟩ := cnt_sit (S := S2) C hC144
  have hsr : sitS (.ref (T.length + 1)) S2 = some sd := by rw [sit_ref hg2]; exact hsd
  have f13 := is_ok (S := S2) 3 m (by omega) sd (cnt_isD hC144 (fun p hp => ⟨smallC p hp, by have := cntC p hp; omega⟩) sd hsd)
  have p13 : run 1000 (callN 1000 progL m) d_law_is_right_s13 (eR a b (some (rowsV a b)) told right top lon sr (some (cntV C)) none y9 y12 none y14 y15 none none) S2 = some (.nx (eR a b (some (rowsV a b)) told right top lon sr (some (cntV C)) none y9 y12 none y14 y15 none none), S2) := by
    have hs1 : ev 1000 (callN 1000 progL m) (.sit (.var 7)) (eR a b (some (rowsV a b)) told right top lon sr (some (cntV C)) none y9 y12 none y14 y15 none none) S2 = some (sd, S2) := by
      show (some (cntV C, S2)).bind _ = _
      rw [Option.bind_some, hsd]
      rfl
    have hs2 : ev 1000 (callN 1000 progL m) (.sit (.var 6)) (eR a b (some (rowsV a b)) told right top lon sr (some (cntV C)) none y9 y12 none y14 y15 none none) S2 = some (sd, S2) := by
      show (some (D.ref (T.length + 1), S2)).bind _ = _
      rw [Option.bind_some, hsr]
      rfl
    have hcall := (ev_call (fu := 1000) (Φ := callN 1000 progL m) (f := "_law_is") (evs_cons hs1 (evs_one hs2))).trans f13
    generalize hE : E.call "_law_is" (.cons (.sit (.var 7)) (.cons (.sit (.var 6)) .nil)) = ee at hcall
    have hd : d_law_is_right_s13 = .ite (.or (.not (.blt .isinst false (.cons (.var 7) (.cons (.ty "dict") .nil)))) (.not ee)) (.seq (.ret (.bl false)) .skip) (.skip) := by rw [← hE]; rfl
    have hcnt : bltS .isinst [cntV C, .ty "dict"] S2 = some (.val (.bl true)) := rfl
    rw [hd]
    simp only [hcall, hcnt, eq_self, Bool.and_self, Bool.and_true, pb_non, pb_bl, pb_int, pb_str, pb_tup, pb_lv, pb_dv, pl_nil, pl_cons, pu_ints, pu_strs, pu_sgn, pu_nat, end_rt, end_nx, end_own, run, ev, evs, evT, evI, fin, Option.bind_some, Option.map_some, startE, List.map_cons, List.map_nil, List.length_cons, List.length_nil, List.cons_append, List.nil_append, List.replicate_succ, List.replicate_zero, Nat.reduceAdd, Nat.reduceSub, Nat.zero_add, List.getElem?_cons_zero, List.getElem?_cons_succ, List.set_cons_zero, List.set_cons_succ, wipeE, bindTg, setAll, cmpS, eq_ii, eq_ss, lt_ii, lt_ss, mem_s, p_add_i, p_sub_i, b_len_t, b_len_l, b_abs, b_int, b_tuple_l, b_list_t, b_list_l, m_count, i_tup, i_lv, atI_0, atI_1, atI_2, atI_3, atI_4, decide_eq_true_eq, Bool.not_true, Bool.not_false, Bool.false_eq_true, if_true, if_false, ite_true, ite_false, reduceIte, isNon, walkOf, walkS, isi_non_int, isi_non_str, isi_non_tuple, isi_non_list, isi_non_dict, isi_non_bool, isi_bl_int, isi_bl_str, isi_bl_tuple, isi_bl_list, isi_bl_dict, isi_bl_bool, isi_int_int, isi_int_str, isi_int_tuple, isi_int_list, isi_int_dict, isi_int_bool, isi_str_int, isi_str_str, isi_str_tuple, isi_str_list, isi_str_dict, isi_str_bool, isi_tup_int, isi_tup_str, isi_tup_tuple, isi_tup_list, isi_tup_dict, isi_tup_bool, isi_lv_int, isi_lv_str, isi_lv_tuple, isi_lv_list, isi_lv_dict, isi_lv_bool, isi_dv_int, isi_dv_str, isi_dv_tuple, isi_dv_list, isi_dv_dict, isi_dv_bool, isi_scr_int, isi_scr_str, isi_scr_tuple, isi_scr_list, isi_scr_dict, isi_scr_bool]
  -- 14, 15
  let C1 := C.mergeSort fun x y => leD (.int x.1) (.int y.1)
  have hC1 : C1.Perm C := List.mergeSort_perm _ _
  let C2 := C1.mergeSort fun x y => leD (encS x) (encS y)
  have hsk : bltS .sorted [.ref (T.length + 1)] S2 = some (.new (.lv (C1.map fun p => .int p.1))) := by
    have hd : drawS S2 (.ref (T.length + 1)) = some (C.map fun p => .int p.1) := by
      simp only [drawS, asSq, asL, asDk, hg2, List.map_map]
      rfl
    rw [b_sorted hd (alike_key C) (sortable_key C) (by rw [List.length_map]; exact ll (by omega)), map_sort]
  have hl1 : C1.length ≤ 144 := by rw [hC1.length_eq]; exact hC144
  have c4 : ev 1000 (callN 1000 progL m) d_law_is_right_c4 (eR a b (some (rowsV a b)) told right top lon sr (some (cntV C)) none y9 y12 none y14 y15 none none) S2 = some (.lv (C1.map encS), S2) := by
    refine lc_map (L := C1) (φ := fun p => .int p.1) encS (by simp only [sr, hsk, eq_self, Bool.and_self, Bool.and_true, pb_non, pb_bl, pb_int, pb_str, pb_tup, pb_lv, pb_dv, pl_nil, pl_cons, pu_ints, pu_strs, pu_sgn, pu_nat, end_rt, end_nx, end_own, run, ev, evs, evT, evI, fin, Option.bind_some, Option.map_some, startE, List.map_cons, List.map_nil, List.length_cons, List.length_nil, List.cons_append, List.nil_append, List.replicate_succ, List.replicate_zero, Nat.reduceAdd, Nat.reduceSub, Nat.zero_add, List.getElem?_cons_zero, List.getElem?_cons_succ, List.set_cons_zero, List.set_cons_succ, wipeE, bindTg, setAll, cmpS, eq_ii, eq_ss, lt_ii, lt_ss, mem_s, p_add_i, p_sub_i, b_len_t, b_len_l, b_abs, b_int, b_tuple_l, b_list_t, b_list_l, m_count, i_tup, i_lv, atI_0, atI_1, atI_2, atI_3, atI_4, decide_eq_true_eq, Bool.not_true, Bool.not_false, Bool.false_eq_true, if_true, if_false, ite_true, ite_false, reduceIte, isNon, walkOf, walkS, isi_non_int, isi_non_str, isi_non_tuple, isi_non_list, isi_non_dict, isi_non_bool, isi_bl_int, isi_bl_str, isi_bl_tuple, isi_bl_list, isi_bl_dict, isi_bl_bool, isi_int_int, isi_int_str, isi_int_tuple, isi_int_list, isi_int_dict, isi_int_bool, isi_str_int, isi_str_str, isi_str_tuple, isi_str_list, isi_str_dict, isi_str_bool, isi_tup_int, isi_tup_str, isi_tup_tuple, isi_tup_list, isi_tup_dict, isi_tup_bool, isi_lv_int, isi_lv_str, isi_lv_tuple, isi_lv_list, isi_lv_dict, isi_lv_bool, isi_dv_int, isi_dv_str, isi_dv_tuple, isi_dv_list, isi_dv_dict, isi_dv_bool, isi_scr_int, isi_scr_str, isi_scr_tuple, isi_scr_list, isi_scr_dict, isi_scr_bool]) (fun p hp => ?_) (ll (by omega))
    have hi := item_cntR hg2 (sumsL_nodup a b) (hC1.mem_iff.mp hp)
    simp only [turnF, sr, hi, l3, abs_eq, Int.zero_sub, eq_self, Bool.and_self, Bool.and_true, pb_non, pb_bl, pb_int, pb_str, pb_tup, pb_lv, pb_dv, pl_nil, pl_cons, pu_ints, pu_strs, pu_sgn, pu_nat, end_rt, end_nx, end_own, run, ev, evs, evT, evI, fin, Option.bind_some, Option.map_some, startE, List.map_cons, List.map_nil, List.length_cons, List.length_nil, List.cons_append, List.nil_append, List.replicate_succ, List.replicate_zero, Nat.reduceAdd, Nat.reduceSub, Nat.zero_add, List.getElem?_cons_zero, List.getElem?_cons_succ, List.set_cons_zero, List.set_cons_succ, wipeE, bindTg, setAll, cmpS, eq_ii, eq_ss, lt_ii, lt_ss, mem_s, p_add_i, p_sub_i, b_len_t, b_len_l, b_abs, b_int, b_tuple_l, b_list_t, b_list_l, m_count, i_tup, i_lv, atI_0, atI_1, atI_2, atI_3, atI_4, decide_eq_true_eq, Bool.not_true, Bool.not_false, Bool.false_eq_true, if_true, if_false, ite_true, ite_false, reduceIte, isNon, walkOf, walkS, isi_non_int, isi_non_str, isi_non_tuple, isi_non_list, isi_non_dict, isi_non_bool, isi_bl_int, isi_bl_str, isi_bl_tuple, isi_bl_list, isi_bl_dict, isi_bl_bool, isi_int_int, isi_int_str, isi_int_tuple, isi_int_list, isi_int_dict, isi_int_bool, isi_str_int, isi_str_str, isi_str_tuple, isi_str_list, isi_str_dict, isi_str_bool, isi_tup_int, isi_tup_str, isi_tup_tuple, isi_tup_list, isi_tup_dict, isi_tup_bool, isi_lv_int, isi_lv_str, isi_lv_tuple, isi_lv_list, isi_lv_dict, isi_lv_bool, isi_dv_int, isi_dv_str, isi_dv_tuple, isi_dv_list, isi_dv_dict, isi_dv_bool, isi_scr_int, isi_scr_str, isi_scr_tuple, isi_scr_list, isi_scr_dict, isi_scr_bool]
  have hs2 : bltS .sorted [.lv (C1.map encS)] S2 = some (.new (.lv (C2.map encS))) := by
    rw [b_sorted rfl (alike_sh C1) (sortable_sh C1) (by rw [List.length_map]; exact ll (by omega)), map_sort]
  have p14 : run 1000 (callN 1000 progL m) d_law_is_right_s14 (eR a b (some (rowsV a b)) told right top lon sr (some (cntV C)) none y9 y12 none y14 y15 none none) S2 = some (.nx (eR a b (some (rowsV a b)) told right top lon sr (some (cntV C)) (some (.lv (C2.map encS))) y9 y12 none y14 y15 none none), S2) := by
    simp only [d_law_is_right_s14, c4, hs2, eq_self, Bool.and_self, Bool.and_true, pb_non, pb_bl, pb_int, pb_str, pb_tup, pb_lv, pb_dv, pl_nil, pl_cons, pu_ints, pu_strs, pu_sgn, pu_nat, end_rt, end_nx, end_own, run, ev, evs, evT, evI, fin, Option.bind_some, Option.map_some, startE, List.map_cons, List.map_nil, List.length_cons, List.length_nil, List.cons_append, List.nil_append, List.replicate_succ, List.replicate_zero, Nat.reduceAdd, Nat.reduceSub, Nat.zero_add, List.getElem?_cons_zero, List.getElem?_cons_succ, List.set_cons_zero, List.set_cons_succ, wipeE, bindTg, setAll, cmpS, eq_ii, eq_ss, lt_ii, lt_ss, mem_s, p_add_i, p_sub_i, b_len_t, b_len_l, b_abs, b_int, b_tuple_l, b_list_t, b_list_l, m_count, i_tup, i_lv, atI_0, atI_1, atI_2, atI_3, atI_4, decide_eq_true_eq, Bool.not_true, Bool.not_false, Bool.false_eq_true, if_true, if_false, ite_true, ite_false, reduceIte, isNon, walkOf, walkS, isi_non_int, isi_non_str, isi_non_tuple, isi_non_list, isi_non_dict, isi_non_bool, isi_bl_int, isi_bl_str, isi_bl_tuple, isi_bl_list, isi_bl_dict, isi_bl_bool, isi_int_int, isi_int_str, isi_int_tuple, isi_int_list, isi_int_dict, isi_int_bool, isi_str_int, isi_str_str, isi_str_tuple, isi_str_list, isi_str_dict, isi_str_bool, isi_tup_int, isi_tup_str, isi_tup_tuple, isi_tup_list, isi_tup_dict, isi_tup_bool, isi_lv_int, isi_lv_str, isi_lv_tuple, isi_lv_list, isi_lv_dict, isi_lv_bool, isi_dv_int, isi_dv_str, isi_dv_tuple, isi_dv_list, isi_dv_dict, isi_dv_bool, isi_scr_int, isi_scr_str, isi_scr_tuple, isi_scr_list, isi_scr_dict, isi_scr_bool]
  have f15 := best_shift_ok (S := S2) (n := m) (by omega) ha hb
  have isB : isD 3 (bestS C) := by
    cases e : C with
    | nil => exact isD_non
    | cons p C0 =>
      have := smallC (minBy kapS p C0) (by rw [e]; exact minBy_mem kapS C0 p)
      exact isD_int (by omega)
  have f15c := is_ok (S := S2) 4 m (by omega) (.lv [bestS C]) (isD_lv (by simp) fun x hx => by rw [List.mem_singleton.mp hx]; exact isB)
  have p15 : run 1000 (callN 1000 progL m) d_law_is_right_s15 (eR a b (some (rowsV a b)) told right top lon sr (some (cntV C)) (some (.lv (C2.map encS))) y9 y12 none y14 y15 none none) S2 = some (.nx (eR a b (some (rowsV a b)) told right top lon sr (some (cntV C)) (some (.lv (C2.map encS))) y9 y12 none y14 y15 none none), S2) := by
    have hnil := eq_nilS (S := S2) C2
    have f15' : callN 1000 progL m "best_shift" [.str a, .str b] S2 = some (bestS C, S2) := f15
    cases e : C2 with
    | nil =>
      have hC0 : C = [] := by
        have := hC1.symm.trans (List.mergeSort_perm C1 (fun x y => leD (encS x) (encS y))).symm
        rw [show C1.mergeSort (fun x y => leD (encS x) (encS y)) = [] from e] at this
        exact List.Perm.eq_nil this
      have hb0 : bestS C = .non := by rw [hC0]; rfl
      rw [hb0] at f15' f15c
      simp only [e, List.map_nil] at hnil ⊢
      simp only [d_law_is_right_s15, f15', f15c, hnil, l0, l1, decide_true, eq_self, Bool.and_self, Bool.and_true, pb_non, pb_bl, pb_int, pb_str, pb_tup, pb_lv, pb_dv, pl_nil, pl_cons, pu_ints, pu_strs, pu_sgn, pu_nat, end_rt, end_nx, end_own, run, ev, evs, evT, evI, fin, Option.bind_some, Option.map_some, startE, List.map_cons, List.map_nil, List.length_cons, List.length_nil, List.cons_append, List.nil_append, List.replicate_succ, List.replicate_zero, Nat.reduceAdd, Nat.reduceSub, Nat.zero_add, List.getElem?_cons_zero, List.getElem?_cons_succ, List.set_cons_zero, List.set_cons_succ, wipeE, bindTg, setAll, cmpS, eq_ii, eq_ss, lt_ii, lt_ss, mem_s, p_add_i, p_sub_i, b_len_t, b_len_l, b_abs, b_int, b_tuple_l, b_list_t, b_list_l, m_count, i_tup, i_lv, atI_0, atI_1, atI_2, atI_3, atI_4, decide_eq_true_eq, Bool.not_true, Bool.not_false, Bool.false_eq_true, if_true, if_false, ite_true, ite_false, reduceIte, isNon, walkOf, walkS, isi_non_int, isi_non_str, isi_non_tuple, isi_non_list, isi_non_dict, isi_non_bool, isi_bl_int, isi_bl_str, isi_bl_tuple, isi_bl_list, isi_bl_dict, isi_bl_bool, isi_int_int, isi_int_str, isi_int_tuple, isi_int_list, isi_int_dict, isi_int_bool, isi_str_int, isi_str_str, isi_str_tuple, isi_str_list, isi_str_dict, isi_str_bool, isi_tup_int, isi_tup_str, isi_tup_tuple, isi_tup_list, isi_tup_dict, isi_tup_bool, isi_lv_int, isi_lv_str, isi_lv_tuple, isi_lv_list, isi_lv_dict, isi_lv_bool, isi_dv_int, isi_dv_str, isi_dv_tuple, isi_dv_list, isi_dv_dict, isi_dv_bool, isi_scr_int, isi_scr_str, isi_scr_tuple, isi_scr_list, isi_scr_dict, isi_scr_bool]
    | cons p r =>
      have hb0 : bestS C = .int p.1 := best_head hC1 smallC e
      rw [hb0] at f15' f15c
      simp only [e, reduceCtorEq, decide_false, List.map_cons] at hnil ⊢
      simp only [d_law_is_right_s15, f15', f15c, hnil, l0, l1, eq_self, Bool.and_self, Bool.and_true, pb_non, pb_bl, pb_int, pb_str, pb_tup, pb_lv, pb_dv, pl_nil, pl_cons, pu_ints, pu_strs, pu_sgn, pu_nat, end_rt, end_nx, end_own, run, ev, evs, evT, evI, fin, Option.bind_some, Option.map_some, startE, List.map_cons, List.map_nil, List.length_cons, List.length_nil, List.cons_append, List.nil_append, List.replicate_succ, List.replicate_zero, Nat.reduceAdd, Nat.reduceSub, Nat.zero_add, List.getElem?_cons_zero, List.getElem?_cons_succ, List.set_cons_zero, List.set_cons_succ, wipeE, bindTg, setAll, cmpS, eq_ii, eq_ss, lt_ii, lt_ss, mem_s, p_add_i, p_sub_i, b_len_t, b_len_l, b_abs, b_int, b_tuple_l, b_list_t, b_list_l, m_count, i_tup, i_lv, atI_0, atI_1, atI_2, atI_3, atI_4, decide_eq_true_eq, Bool.not_true, Bool.not_false, Bool.false_eq_true, if_true, if_false, ite_true, ite_false, reduceIte, isNon, walkOf, walkS, isi_non_int, isi_non_str, isi_non_tuple, isi_non_list, isi_non_dict, isi_non_bool, isi_bl_int, isi_bl_str, isi_bl_tuple, isi_bl_list, isi_bl_dict, isi_bl_bool, isi_int_int, isi_int_str, isi_int_tuple, isi_int_list, isi_int_dict, isi_int_bool, isi_str_int, isi_str_str, isi_str_tuple, isi_str_list, isi_str_dict, isi_str_bool, isi_tup_int, isi_tup_str, isi_tup_tuple, isi_tup_list, isi_tup_dict, isi_tup_bool, isi_lv_int, isi_lv_str, isi_lv_tuple, isi_lv_list, isi_lv_dict, isi_lv_bool, isi_dv_int, isi_dv_str, isi_dv_tuple, isi_dv_list, isi_dv_dict, isi_dv_bool, isi_scr_int, isi_scr_str, isi_scr_tuple, isi_scr_list, isi_scr_dict, isi_scr_bool]
  -- 16
  have f16 := rows_without_ok (S := S2) (n := m) (by omega) ha hb
  have c5 : ev 1000 (callN 1000 progL m) d_law_is_right_c5 (eR a b (some (rowsV a b)) told right top lon sr (some (cntV C)) (some (.lv (C2.map encS))) y9 y12 none y14 y15 none none) S2 = some (.lv (natsV ((List.range a.length).filter fun i => !decide (a[i]?.getD 0 ∈ b))), S2) := by
    have e := enum_rng (fun c : List Nat => D.str c) [] (rowsL a b)
    rw [hrl] at e
    refine lc_filter (L := List.range a.length) (φ := fun i : Nat => .tup [.int (i : Nat), .str ((rowsL a b)[i]?.getD [])]) (fun i => !decide (a[i]?.getD 0 ∈ b)) (fun i : Nat => .int (i : Nat)) (by simp only [e, eq_self, Bool.and_self, Bool.and_true, pb_non, pb_bl, pb_int, pb_str, pb_tup, pb_lv, pb_dv, pl_nil, pl_cons, pu_ints, pu_strs, pu_sgn, pu_nat, end_rt, end_nx, end_own, run, ev, evs, evT, evI, fin, Option.bind_some, Option.map_some, startE, List.map_cons, List.map_nil, List.length_cons, List.length_nil, List.cons_append, List.nil_append, List.replicate_succ, List.replicate_zero, Nat.reduceAdd, Nat.reduceSub, Nat.zero_add, List.getElem?_cons_zero, List.getElem?_cons_succ, List.set_cons_zero, List.set_cons_succ, wipeE, bindTg, setAll, cmpS, eq_ii, eq_ss, lt_ii, lt_ss, mem_s, p_add_i, p_sub_i, b_len_t, b_len_l, b_abs, b_int, b_tuple_l, b_list_t, b_list_l, m_count, i_tup, i_lv, atI_0, atI_1, atI_2, atI_3, atI_4, decide_eq_true_eq, Bool.not_true, Bool.not_false, Bool.false_eq_true, if_true, if_false, ite_true, ite_false, reduceIte, isNon, walkOf, walkS, isi_non_int, isi_non_str, isi_non_tuple, isi_non_list, isi_non_dict, isi_non_bool, isi_bl_int, isi_bl_str, isi_bl_tuple, isi_bl_list, isi_bl_dict, isi_bl_bool, isi_int_int, isi_int_str, isi_int_tuple, isi_int_list, isi_int_dict, isi_int_bool, isi_str_int, isi_str_str, isi_str_tuple, isi_str_list, isi_str_dict, isi_str_bool, isi_tup_int, isi_tup_str, isi_tup_tuple, isi_tup_list, isi_tup_dict, isi_tup_bool, isi_lv_int, isi_lv_str, isi_lv_tuple, isi_lv_list, isi_lv_dict, isi_lv_bool, isi_dv_int, isi_dv_str, isi_dv_tuple, isi_dv_list, isi_dv_dict, isi_dv_bool, isi_scr_int, isi_scr_str, isi_scr_tuple, isi_scr_list, isi_scr_dict, isi_scr_bool]) (fun i hi => ?_) (by rw [List.length_range]; exact ll (by omega))
    rw [row_at (List.mem_range.mp hi)]
    have hq : decide (35 ∈ dotRow b (a[i]?.getD 0)) = decide (a[i]?.getD 0 ∈ b) := by
      rw [Bool.eq_iff_iff, decide_eq_true_eq, decide_eq_true_eq]
      exact dot_in
    cases hd : decide (a[i]?.getD 0 ∈ b) <;> rw [hd] at hq <;> simp only [turnF, hq, eq_self, Bool.and_self, Bool.and_true, pb_non, pb_bl, pb_int, pb_str, pb_tup, pb_lv, pb_dv, pl_nil, pl_cons, pu_ints, pu_strs, pu_sgn, pu_nat, end_rt, end_nx, end_own, run, ev, evs, evT, evI, fin, Option.bind_some, Option.map_some, startE, List.map_cons, List.map_nil, List.length_cons, List.length_nil, List.cons_append, List.nil_append, List.replicate_succ, List.replicate_zero, Nat.reduceAdd, Nat.reduceSub, Nat.zero_add, List.getElem?_cons_zero, List.getElem?_cons_succ, List.set_cons_zero, List.set_cons_succ, wipeE, bindTg, setAll, cmpS, eq_ii, eq_ss, lt_ii, lt_ss, mem_s, p_add_i, p_sub_i, b_len_t, b_len_l, b_abs, b_int, b_tuple_l, b_list_t, b_list_l, m_count, i_tup, i_lv, atI_0, atI_1, atI_2, atI_3, atI_4, decide_eq_true_eq, Bool.not_true, Bool.not_false, Bool.false_eq_true, if_true, if_false, ite_true, ite_false, reduceIte, isNon, walkOf, walkS, isi_non_int, isi_non_str, isi_non_tuple, isi_non_list, isi_non_dict, isi_non_bool, isi_bl_int, isi_bl_str, isi_bl_tuple, isi_bl_list, isi_bl_dict, isi_bl_bool, isi_int_int, isi_int_str, isi_int_tuple, isi_int_list, isi_int_dict, isi_int_bool, isi_str_int, isi_str_str, isi_str_tuple, isi_str_list, isi_str_dict, isi_str_bool, isi_tup_int, isi_tup_str, isi_tup_tuple, isi_tup_list, isi_tup_dict, isi_tup_bool, isi_lv_int, isi_lv_str, isi_lv_tuple, isi_lv_list, isi_lv_dict, isi_lv_bool, isi_dv_int, isi_dv_str, isi_dv_tuple, isi_dv_list, isi_dv_dict, isi_dv_bool, isi_scr_int, isi_scr_str, isi_scr_tuple, isi_scr_list, isi_scr_dict, isi_scr_bool]
  have f16c := is_ok (S := S2) 4 m (by omega) (.tup (natsV ((List.range a.length).filter fun i => !decide (a[i]?.getD 0 ∈ b)))) (isD_tup (by
    rw [List.length_map]
    have := List.length_filter_le (fun i => !decide (a[i]?.getD 0 ∈ b)) (List.range a.length)
    rw [List.length_range] at this
    omega) fun x hx => by
      obtain ⟨i, hi, rfl⟩ := List.mem_map.mp hx
      have := List.mem_range.mp (List.mem_filter.mp hi).1
      exact isD_nat (by omega))
  have p16 : run 1000 (callN 1000 progL m) d_law_is_right_s16 (eR a b (some (rowsV a b)) told right top lon sr (some (cntV C)) (some (.lv (C2.map encS))) y9 y12 none y14 y15 none none) S2 = some (.nx (eR a b (some (rowsV a b)) told right top lon sr (some (cntV C)) (some (.lv (C2.map encS))) y9 y12 none y14 y15 none none), S2) := by
    simp only [d_law_is_right_s16, f16, c5, f16c, eq_self, Bool.and_self, Bool.and_true, pb_non, pb_bl, pb_int, pb_str, pb_tup, pb_lv, pb_dv, pl_nil, pl_cons, pu_ints, pu_strs, pu_sgn, pu_nat, end_rt, end_nx, end_own, run, ev, evs, evT, evI, fin, Option.bind_some, Option.map_some, startE, List.map_cons, List.map_nil, List.length_cons, List.length_nil, List.cons_append, List.nil_append, List.replicate_succ, List.replicate_zero, Nat.reduceAdd, Nat.reduceSub, Nat.zero_add, List.getElem?_cons_zero, List.getElem?_cons_succ, List.set_cons_zero, List.set_cons_succ, wipeE, bindTg, setAll, cmpS, eq_ii, eq_ss, lt_ii, lt_ss, mem_s, p_add_i, p_sub_i, b_len_t, b_len_l, b_abs, b_int, b_tuple_l, b_list_t, b_list_l, m_count, i_tup, i_lv, atI_0, atI_1, atI_2, atI_3, atI_4, decide_eq_true_eq, Bool.not_true, Bool.not_false, Bool.false_eq_true, if_true, if_false, ite_true, ite_false, reduceIte, isNon, walkOf, walkS, isi_non_int, isi_non_str, isi_non_tuple, isi_non_list, isi_non_dict, isi_non_bool, isi_bl_int, isi_bl_str, isi_bl_tuple, isi_bl_list, isi_bl_dict, isi_bl_bool, isi_int_int, isi_int_str, isi_int_tuple, isi_int_list, isi_int_dict, isi_int_bool, isi_str_int, isi_str_str, isi_str_tuple, isi_str_list, isi_str_dict, isi_str_bool, isi_tup_int, isi_tup_str, isi_tup_tuple, isi_tup_list, isi_tup_dict, isi_tup_bool, isi_lv_int, isi_lv_str, isi_lv_tuple, isi_lv_list, isi_lv_dict, isi_lv_bool, isi_dv_int, isi_dv_str, isi_dv_tuple, isi_dv_list, isi_dv_dict, isi_dv_bool, isi_scr_int, isi_scr_str, isi_scr_tuple, isi_scr_list, isi_scr_dict, isi_scr_bool]
  obtain ⟨z9, z13, p17⟩ := fact_ok (S := S2) (m := m) hal hbl (some (rowsV a b)) right top lon sr (some (cntV C)) (some (.lv (C2.map encS))) y9 y12 none y14 y15 none none
  refine ⟨h1, hh1, ?_⟩
  rw [callN_at fi_law_is_right rfl]
  show (run 1000 (callN 1000 progL m) (.seq _ (.seq _ (.seq _ (.seq _ (.seq _ (.seq _ (.seq _ (.seq _ (.seq _ (.seq _ (.seq _ (.seq _ (.seq _ (.seq _ (.seq _ (.seq _ (.seq _ _))))))))))))))))) [some (.ref 0), none, none, none, none, none, none, none, none, none, none, none, none, none, none, none, none, none] (handD h :: T)).bind (endC false _) = _
  rw [run_seq p1, run_seq p2, run_seq p3, run_seq p4, run_seq p5, run_seq p6, run_seq p7, run_seq p8, run_seq p9, run_seq p10, run_seq p11, run_seq p12, run_seq p13, run_seq p14, run_seq p15, run_seq p16, run_seq p17]
  exact hendG (pb_bl _)
end
end Pd

namespace Pd
open PySem PySem.Spec PyProof.Rows L2
instance ltr_dec : DecidablePred ltr := fun c => inferInstanceAs (Decidable (97 ≤ c ∧ c ≤ 122))
abbrev kA : List Nat := [97, 98, 97]
abbrev kB : List Nat := [97, 98]
theorem kA_ok : Txt1 0 12 kA := ⟨by decide, by decide, by decide⟩
theorem kB_ok : Txt1 0 12 kB := ⟨by decide, by decide, by decide⟩
theorem v_rows : rowsL kA kB = [[35, 46], [46, 35], [35, 46]] := by decide +kernel
theorem v_sl : slantsL kA kB 1 = [(0, 0, 2)] := by decide +kernel
theorem v_bl : slantsL kA kB (-1) = [(1, 1, 2)] := by decide +kernel
theorem v_all : (allD kA kB).length = 3 := by decide +kernel
theorem v_sums : sumsL kA kB = [(0, 2), (-2, 1)] := by decide +kernel
section
variable {S : Store}
theorem eq_strs {xs : List (List Nat)} : eqS S (.tup (xs.map .str)) (.tup (xs.map .str)) = some true := eq_same (show (xs.map D.str).all (okd 11) = true from okd_map fun _ => rfl)
theorem eq_tris {xs : List Tri} : eqS S (.tup (xs.map triV)) (.tup (xs.map triV)) = some true := eq_same (show (xs.map triV).all (okd 11) = true from okd_map fun _ => rfl)
theorem eq_nats {xs : List Nat} : eqS S (.tup (natsV xs)) (.tup (natsV xs)) = some true := eq_same (show (natsV xs).all (okd 11) = true from okd_map fun _ => rfl)
theorem eq_sums : eqS S (cntV [(0, 2), (-2, 1)]) (.dv false [.i 0, .i (-2)] [.int 2, .int 1]) = some true := rfl
theorem lawT : LawT progL 1000 30 63 := by
  intro ns hl
  obtain ⟨h, hh, e1⟩ := hand_ok (n := 29) (by decide) ns hl
  let S1 : Store := [handD h]
  have p1 : run 1000 (callN 1000 progL 29) d_law_s1 [some (.scr ns), none, none] [] = some (.nx [some (.scr ns), some (.ref 0), none], S1) := by
    simp only [d_law_s1, e1, S1, eq_self, Bool.and_self, Bool.and_true, pb_non, pb_bl, pb_int, pb_str, pb_tup, pb_lv, pb_dv, pl_nil, pl_cons, pu_ints, pu_strs, pu_sgn, pu_nat, end_rt, end_nx, end_own, run, ev, evs, evT, evI, fin, Option.bind_some, Option.map_some, startE, List.map_cons, List.map_nil, List.length_cons, List.length_nil, List.cons_append, List.nil_append, List.replicate_succ, List.replicate_zero, Nat.reduceAdd, Nat.reduceSub, Nat.zero_add, List.getElem?_cons_zero, List.getElem?_cons_succ, List.set_cons_zero, List.set_cons_succ, wipeE, bindTg, setAll, cmpS, eq_ii, eq_ss, lt_ii, lt_ss, mem_s, p_add_i, p_sub_i, b_len_t, b_len_l, b_abs, b_int, b_tuple_l, b_list_t, b_list_l, m_count, i_tup, i_lv, atI_0, atI_1, atI_2, atI_3, atI_4, decide_eq_true_eq, Bool.not_true, Bool.not_false, Bool.false_eq_true, if_true, if_false, ite_true, ite_false, reduceIte, isNon, walkOf, walkS, isi_non_int, isi_non_str, isi_non_tuple, isi_non_list, isi_non_dict, isi_non_bool, isi_bl_int, isi_bl_str, isi_bl_tuple, isi_bl_list, isi_bl_dict, isi_bl_bool, isi_int_int, isi_int_str, isi_int_tuple, isi_int_list, isi_int_dict, isi_int_bool, isi_str_int, isi_str_str, isi_str_tuple, isi_str_list, isi_str_dict, isi_str_bool, isi_tup_int, isi_tup_str, isi_tup_tuple, isi_tup_list, isi_tup_dict, isi_tup_bool, isi_lv_int, isi_lv_str, isi_lv_tuple, isi_lv_list, isi_lv_dict, isi_lv_bool, isi_dv_int, isi_dv_str, isi_dv_tuple, isi_dv_list, isi_dv_dict, isi_dv_bool, isi_scr_int, isi_scr_str, isi_scr_tuple, isi_scr_list, isi_scr_dict, isi_scr_bool]
  have l3 : (3 ≤ line) = True := le_line (by omega)
  have l1 : (1 ≤ line) = True := le_line (by omega)
  have l0 : (0 ≤ line) = True := le_line (by omega)
  have k1 : callN 1000 progL 29 "dots" [.str kA, .str kB] S1 = some (.tup [.str [35, 46], .str [46, 35], .str [35, 46]], S1) := by
    have := dots_ok (S := S1) (n := 29) (by decide) kA_ok kB_ok
    rw [v_rows] at this
    exact this
  have k2 : callN 1000 progL 29 "slants" [.str kA, .str kB] S1 = some (.tup [.tup [.int 0, .int 0, .int 2]], S1) := by
    have := slants_ok (S := S1) (n := 29) (by decide) kA_ok kB_ok
    rw [v_sl] at this
    exact this
  have q1 : eqS S1 (.tup [.str [35, 46], .str [46, 35], .str [35, 46]]) (.tup [.str [35, 46], .str [46, 35], .str [35, 46]]) = some true := eq_strs (xs := [[35, 46], [46, 35], [35, 46]])
  have q2 : eqS S1 (.tup [.tup [.int 0, .int 0, .int 2]]) (.tup [.tup [.int 0, .int 0, .int 2]]) = some true := eq_tris (xs := [(0, 0, 2)])
  have l2 : (2 ≤ line) = True := le_line (by omega)
  have p2 : run 1000 (callN 1000 progL 29) d_law_s2 [some (.scr ns), some (.ref 0), none] S1 = some (.nx [some (.scr ns), some (.ref 0), none], S1) := by
    simp only [d_law_s2, k1, k2, q1, q2, l1, l2, l3, eq_self, Bool.and_self, Bool.and_true, pb_non, pb_bl, pb_int, pb_str, pb_tup, pb_lv, pb_dv, pl_nil, pl_cons, pu_ints, pu_strs, pu_sgn, pu_nat, end_rt, end_nx, end_own, run, ev, evs, evT, evI, fin, Option.bind_some, Option.map_some, startE, List.map_cons, List.map_nil, List.length_cons, List.length_nil, List.cons_append, List.nil_append, List.replicate_succ, List.replicate_zero, Nat.reduceAdd, Nat.reduceSub, Nat.zero_add, List.getElem?_cons_zero, List.getElem?_cons_succ, List.set_cons_zero, List.set_cons_succ, wipeE, bindTg, setAll, cmpS, eq_ii, eq_ss, lt_ii, lt_ss, mem_s, p_add_i, p_sub_i, b_len_t, b_len_l, b_abs, b_int, b_tuple_l, b_list_t, b_list_l, m_count, i_tup, i_lv, atI_0, atI_1, atI_2, atI_3, atI_4, decide_eq_true_eq, Bool.not_true, Bool.not_false, Bool.false_eq_true, if_true, if_false, ite_true, ite_false, reduceIte, isNon, walkOf, walkS, isi_non_int, isi_non_str, isi_non_tuple, isi_non_list, isi_non_dict, isi_non_bool, isi_bl_int, isi_bl_str, isi_bl_tuple, isi_bl_list, isi_bl_dict, isi_bl_bool, isi_int_int, isi_int_str, isi_int_tuple, isi_int_list, isi_int_dict, isi_int_bool, isi_str_int, isi_str_str, isi_str_tuple, isi_str_list, isi_str_dict, isi_str_bool, isi_tup_int, isi_tup_str, isi_tup_tuple, isi_tup_list, isi_tup_dict, isi_tup_bool, isi_lv_int, isi_lv_str, isi_lv_tuple, isi_lv_list, isi_lv_dict, isi_lv_bool, isi_dv_int, isi_dv_str, isi_dv_tuple, isi_dv_list, isi_dv_dict, isi_dv_bool, isi_scr_int, isi_scr_str, isi_scr_tuple, isi_scr_list, isi_scr_dict, isi_scr_bool]
  have k3 : callN 1000 progL 29 "dots_many" [.str kA, .str kB] S1 = some (.int 3, S1) := by
    have := dots_many_ok (S := S1) (n := 29) (by decide) kA_ok kB_ok
    rw [v_all] at this
    exact this
  have k4 : callN 1000 progL 29 "rows_without" [.str [97, 120, 97], .str kB] S1 = some (.tup [.int 1], S1) := 
    rows_without_ok (S := S1) (n := 29) (by decide) (a := [97, 120, 97]) ⟨by decide, by decide, by decide⟩ kB_ok
  have q4 : eqS S1 (.tup [.int 1]) (.tup [.int 1]) = some true := eq_nats (xs := [1])
  have p3 : run 1000 (callN 1000 progL 29) d_law_s3 [some (.scr ns), some (.ref 0), none] S1 = some (.nx [some (.scr ns), some (.ref 0), none], S1) := by
    simp only [d_law_s3, k3, k4, q4, l1, decide_true, eq_self, Bool.and_self, Bool.and_true, pb_non, pb_bl, pb_int, pb_str, pb_tup, pb_lv, pb_dv, pl_nil, pl_cons, pu_ints, pu_strs, pu_sgn, pu_nat, end_rt, end_nx, end_own, run, ev, evs, evT, evI, fin, Option.bind_some, Option.map_some, startE, List.map_cons, List.map_nil, List.length_cons, List.length_nil, List.cons_append, List.nil_append, List.replicate_succ, List.replicate_zero, Nat.reduceAdd, Nat.reduceSub, Nat.zero_add, List.getElem?_cons_zero, List.getElem?_cons_succ, List.set_cons_zero, List.set_cons_succ, wipeE, bindTg, setAll, cmpS, eq_ii, eq_ss, lt_ii, lt_ss, mem_s, p_add_i, p_sub_i, b_len_t, b_len_l, b_abs, b_int, b_tuple_l, b_list_t, b_list_l, m_count, i_tup, i_lv, atI_0, atI_1, atI_2, atI_3, atI_4, decide_eq_true_eq, Bool.not_true, Bool.not_false, Bool.false_eq_true, if_true, if_false, ite_true, ite_false, reduceIte, isNon, walkOf, walkS, isi_non_int, isi_non_str, isi_non_tuple, isi_non_list, isi_non_dict, isi_non_bool, isi_bl_int, isi_bl_str, isi_bl_tuple, isi_bl_list, isi_bl_dict, isi_bl_bool, isi_int_int, isi_int_str, isi_int_tuple, isi_int_list, isi_int_dict, isi_int_bool, isi_str_int, isi_str_str, isi_str_tuple, isi_str_list, isi_str_dict, isi_str_bool, isi_tup_int, isi_tup_str, isi_tup_tuple, isi_tup_list, isi_tup_dict, isi_tup_bool, isi_lv_int, isi_lv_str, isi_lv_tuple, isi_lv_list, isi_lv_dict, isi_lv_bool, isi_dv_int, isi_dv_str, isi_dv_tuple, isi_dv_list, isi_dv_dict, isi_dv_bool, isi_scr_int, isi_scr_str, isi_scr_tuple, isi_scr_list, isi_scr_dict, isi_scr_bool]
  have k5 : callN 1000 progL 29 "back_slants" [.str kA, .str kB] S1 = some (.tup [.tup [.int 1, .int 1, .int 2]], S1) := by
    have := back_slants_ok (S := S1) (n := 29) (by decide) kA_ok kB_ok
    rw [v_bl] at this
    exact this
  have k6 : callN 1000 progL 29 "best_shift" [.str kA, .str kB] S1 = some (.int 0, S1) := by
    have := best_shift_ok (S := S1) (n := 29) (by decide) kA_ok kB_ok
    rw [v_sums] at this
    exact this
  have q5 : eqS S1 (.tup [.tup [.int 1, .int 1, .int 2]]) (.tup [.tup [.int 1, .int 1, .int 2]]) = some true := eq_tris (xs := [(1, 1, 2)])
  have p4 : run 1000 (callN 1000 progL 29) d_law_s4 [some (.scr ns), some (.ref 0), none] S1 = some (.nx [some (.scr ns), some (.ref 0), none], S1) := by
    simp only [d_law_s4, k5, k6, q5, l1, l3, decide_true, eq_self, Bool.and_self, Bool.and_true, pb_non, pb_bl, pb_int, pb_str, pb_tup, pb_lv, pb_dv, pl_nil, pl_cons, pu_ints, pu_strs, pu_sgn, pu_nat, end_rt, end_nx, end_own, run, ev, evs, evT, evI, fin, Option.bind_some, Option.map_some, startE, List.map_cons, List.map_nil, List.length_cons, List.length_nil, List.cons_append, List.nil_append, List.replicate_succ, List.replicate_zero, Nat.reduceAdd, Nat.reduceSub, Nat.zero_add, List.getElem?_cons_zero, List.getElem?_cons_succ, List.set_cons_zero, List.set_cons_succ, wipeE, bindTg, setAll, cmpS, eq_ii, eq_ss, lt_ii, lt_ss, mem_s, p_add_i, p_sub_i, b_len_t, b_len_l, b_abs, b_int, b_tuple_l, b_list_t, b_list_l, m_count, i_tup, i_lv, atI_0, atI_1, atI_2, atI_3, atI_4, decide_eq_true_eq, Bool.not_true, Bool.not_false, Bool.false_eq_true, if_true, if_false, ite_true, ite_false, reduceIte, isNon, walkOf, walkS, isi_non_int, isi_non_str, isi_non_tuple, isi_non_list, isi_non_dict, isi_non_bool, isi_bl_int, isi_bl_str, isi_bl_tuple, isi_bl_list, isi_bl_dict, isi_bl_bool, isi_int_int, isi_int_str, isi_int_tuple, isi_int_list, isi_int_dict, isi_int_bool, isi_str_int, isi_str_str, isi_str_tuple, isi_str_list, isi_str_dict, isi_str_bool, isi_tup_int, isi_tup_str, isi_tup_tuple, isi_tup_list, isi_tup_dict, isi_tup_bool, isi_lv_int, isi_lv_str, isi_lv_tuple, isi_lv_list, isi_lv_dict, isi_lv_bool, isi_dv_int, isi_dv_str, isi_dv_tuple, isi_dv_list, isi_dv_dict, isi_dv_bool, isi_scr_int, isi_scr_str, isi_scr_tuple, isi_scr_list, isi_scr_dict, isi_scr_bool]
  have k7 : callN 1000 progL 29 "dots" [.str [], .str kB] S1 = some (.tup [], S1) := dots_ok (S := S1) (n := 29) (by decide) (a := []) ⟨by decide, by decide, by decide⟩ kB_ok
  have q7 : eqS S1 (.tup []) (.tup []) = some true := eq_strs (xs := [])
  have k8 : callN 1000 progL 29 "longest_slant" [.str [97], .str [98]] S1 = some (.non, S1) := longest_slant_ok (S := S1) (n := 29) (by decide) (a := [97]) (b := [98]) ⟨by decide, by decide, by decide⟩ ⟨by decide, by decide, by decide⟩
  have k9 : callN 1000 progL 29 "slant_sums" [.str kA, .str kB] S1 = some (cntV [(0, 2), (-2, 1)], S1) := by
    have := slant_sums_ok (S := S1) (n := 29) (by decide) kA_ok kB_ok
    rw [v_sums] at this
    exact this
  have p5 : run 1000 (callN 1000 progL 29) d_law_s5 [some (.scr ns), some (.ref 0), none] S1 = some (.nx [some (.scr ns), some (.ref 0), none], S1) := by
    have hd : ev 1000 (callN 1000 progL 29) (.dsp false (.cons (.int 0) (.cons (.int 2) (.cons (.neg (.int 2)) (.cons (.int 1) .nil))))) [some (.scr ns), some (.ref 0), none] S1 = some (.dv false [.i 0, .i (-2)] [.int 2, .int 1], S1) := rfl
    generalize hE : E.dsp false (.cons (.int 0) (.cons (.int 2) (.cons (.neg (.int 2)) (.cons (.int 1) .nil)))) = ee at hd
    have q9 : eqS S1 (cntV [(0, 2), (-2, 1)]) (.dv false [.i 0, .i (-2)] [.int 2, .int 1]) = some true := eq_sums
    generalize hC : cntV [(0, 2), (-2, 1)] = cc at k9 q9
    simp only [d_law_s5, hE, k7, k8, k9, hd, q7, q9, l0, eq_self, Bool.and_self, Bool.and_true, pb_non, pb_bl, pb_int, pb_str, pb_tup, pb_lv, pb_dv, pl_nil, pl_cons, pu_ints, pu_strs, pu_sgn, pu_nat, end_rt, end_nx, end_own, run, ev, evs, evT, evI, fin, Option.bind_some, Option.map_some, startE, List.map_cons, List.map_nil, List.length_cons, List.length_nil, List.cons_append, List.nil_append, List.replicate_succ, List.replicate_zero, Nat.reduceAdd, Nat.reduceSub, Nat.zero_add, List.getElem?_cons_zero, List.getElem?_cons_succ, List.set_cons_zero, List.set_cons_succ, wipeE, bindTg, setAll, cmpS, eq_ii, eq_ss, lt_ii, lt_ss, mem_s, p_add_i, p_sub_i, b_len_t, b_len_l, b_abs, b_int, b_tuple_l, b_list_t, b_list_l, m_count, i_tup, i_lv, atI_0, atI_1, atI_2, atI_3, atI_4, decide_eq_true_eq, Bool.not_true, Bool.not_false, Bool.false_eq_true, if_true, if_false, ite_true, ite_false, reduceIte, isNon, walkOf, walkS, isi_non_int, isi_non_str, isi_non_tuple, isi_non_list, isi_non_dict, isi_non_bool, isi_bl_int, isi_bl_str, isi_bl_tuple, isi_bl_list, isi_bl_dict, isi_bl_bool, isi_int_int, isi_int_str, isi_int_tuple, isi_int_list, isi_int_dict, isi_int_bool, isi_str_int, isi_str_str, isi_str_tuple, isi_str_list, isi_str_dict, isi_str_bool, isi_tup_int, isi_tup_str, isi_tup_tuple, isi_tup_list, isi_tup_dict, isi_tup_bool, isi_lv_int, isi_lv_str, isi_lv_tuple, isi_lv_list, isi_lv_dict, isi_lv_bool, isi_dv_int, isi_dv_str, isi_dv_tuple, isi_dv_list, isi_dv_dict, isi_dv_bool, isi_scr_int, isi_scr_str, isi_scr_tuple, isi_scr_list, isi_scr_dict, isi_scr_bool]
  obtain ⟨ys, S', e, l, q, h', hh', rfl⟩ := runFix_ex (f := turnF (.nm 2) [2] (evT 1000 (callN 1000 progL 29) .nil) (ev 1000 (callN 1000 progL 29) (.call "_law_is_right" (.cons (.var 1) .nil))) [some (.scr ns), some (.ref 0), none])
    (φ := fun i : Nat => D.int (0 + (i : Int))) (fun S => ∃ h', HandOk h' ∧ S = [handD h']) (fun y => y = D.bl true) (List.range 8) S1 ⟨h, hh, rfl⟩ (fun b hb S ⟨h1, hh1, e⟩ => by
      subst e
      obtain ⟨h2, hh2, e2⟩ := is_right_ok (n := 29) (by decide) hh1 []
      refine ⟨.bl true, [handD h2], ?_, rfl, h2, hh2, rfl⟩
      simp only [turnF, e2, eq_self, Bool.and_self, Bool.and_true, pb_non, pb_bl, pb_int, pb_str, pb_tup, pb_lv, pb_dv, pl_nil, pl_cons, pu_ints, pu_strs, pu_sgn, pu_nat, end_rt, end_nx, end_own, run, ev, evs, evT, evI, fin, Option.bind_some, Option.map_some, startE, List.map_cons, List.map_nil, List.length_cons, List.length_nil, List.cons_append, List.nil_append, List.replicate_succ, List.replicate_zero, Nat.reduceAdd, Nat.reduceSub, Nat.zero_add, List.getElem?_cons_zero, List.getElem?_cons_succ, List.set_cons_zero, List.set_cons_succ, wipeE, bindTg, setAll, cmpS, eq_ii, eq_ss, lt_ii, lt_ss, mem_s, p_add_i, p_sub_i, b_len_t, b_len_l, b_abs, b_int, b_tuple_l, b_list_t, b_list_l, m_count, i_tup, i_lv, atI_0, atI_1, atI_2, atI_3, atI_4, decide_eq_true_eq, Bool.not_true, Bool.not_false, Bool.false_eq_true, if_true, if_false, ite_true, ite_false, reduceIte, isNon, walkOf, walkS, isi_non_int, isi_non_str, isi_non_tuple, isi_non_list, isi_non_dict, isi_non_bool, isi_bl_int, isi_bl_str, isi_bl_tuple, isi_bl_list, isi_bl_dict, isi_bl_bool, isi_int_int, isi_int_str, isi_int_tuple, isi_int_list, isi_int_dict, isi_int_bool, isi_str_int, isi_str_str, isi_str_tuple, isi_str_list, isi_str_dict, isi_str_bool, isi_tup_int, isi_tup_str, isi_tup_tuple, isi_tup_list, isi_tup_dict, isi_tup_bool, isi_lv_int, isi_lv_str, isi_lv_tuple, isi_lv_list, isi_lv_dict, isi_lv_bool, isi_dv_int, isi_dv_str, isi_dv_tuple, isi_dv_list, isi_dv_dict, isi_dv_bool, isi_scr_int, isi_scr_str, isi_scr_tuple, isi_scr_list, isi_scr_dict, isi_scr_bool])
  have hys := all_one (k := 8) l q
  subst hys
  have hr : rangeS [.int 8] = some (intL 0 8) := range_1 (j := 8) (by decide)
  have c1 : ev 1000 (callN 1000 progL 29) d_law_c1 [some (.scr ns), some (.ref 0), none] S1 = some (.lv ((List.range 8).map fun _ => .bl true), [handD h']) := 
    lc_fix (k := false) (xs := intL 0 8) (by simp only [hr, eq_self, Bool.and_self, Bool.and_true, pb_non, pb_bl, pb_int, pb_str, pb_tup, pb_lv, pb_dv, pl_nil, pl_cons, pu_ints, pu_strs, pu_sgn, pu_nat, end_rt, end_nx, end_own, run, ev, evs, evT, evI, fin, Option.bind_some, Option.map_some, startE, List.map_cons, List.map_nil, List.length_cons, List.length_nil, List.cons_append, List.nil_append, List.replicate_succ, List.replicate_zero, Nat.reduceAdd, Nat.reduceSub, Nat.zero_add, List.getElem?_cons_zero, List.getElem?_cons_succ, List.set_cons_zero, List.set_cons_succ, wipeE, bindTg, setAll, cmpS, eq_ii, eq_ss, lt_ii, lt_ss, mem_s, p_add_i, p_sub_i, b_len_t, b_len_l, b_abs, b_int, b_tuple_l, b_list_t, b_list_l, m_count, i_tup, i_lv, atI_0, atI_1, atI_2, atI_3, atI_4, decide_eq_true_eq, Bool.not_true, Bool.not_false, Bool.false_eq_true, if_true, if_false, ite_true, ite_false, reduceIte, isNon, walkOf, walkS, isi_non_int, isi_non_str, isi_non_tuple, isi_non_list, isi_non_dict, isi_non_bool, isi_bl_int, isi_bl_str, isi_bl_tuple, isi_bl_list, isi_bl_dict, isi_bl_bool, isi_int_int, isi_int_str, isi_int_tuple, isi_int_list, isi_int_dict, isi_int_bool, isi_str_int, isi_str_str, isi_str_tuple, isi_str_list, isi_str_dict, isi_str_bool, isi_tup_int, isi_tup_str, isi_tup_tuple, isi_tup_list, isi_tup_dict, isi_tup_bool, isi_lv_int, isi_lv_str, isi_lv_tuple, isi_lv_list, isi_lv_dict, isi_lv_bool, isi_dv_int, isi_dv_str, isi_dv_tuple, isi_dv_list, isi_dv_dict, isi_dv_bool, isi_scr_int, isi_scr_str, isi_scr_tuple, isi_scr_list, isi_scr_dict, isi_scr_bool]) e (by rw [l]; decide)
  have p6 : run 1000 (callN 1000 progL 29) (.seq d_law_s6 .skip) [some (.scr ns), some (.ref 0), none] S1 = some (.rt (.bl true), [handD h']) := by
    simp only [d_law_s6, c1, all_true, eq_self, Bool.and_self, Bool.and_true, pb_non, pb_bl, pb_int, pb_str, pb_tup, pb_lv, pb_dv, pl_nil, pl_cons, pu_ints, pu_strs, pu_sgn, pu_nat, end_rt, end_nx, end_own, run, ev, evs, evT, evI, fin, Option.bind_some, Option.map_some, startE, List.map_cons, List.map_nil, List.length_cons, List.length_nil, List.cons_append, List.nil_append, List.replicate_succ, List.replicate_zero, Nat.reduceAdd, Nat.reduceSub, Nat.zero_add, List.getElem?_cons_zero, List.getElem?_cons_succ, List.set_cons_zero, List.set_cons_succ, wipeE, bindTg, setAll, cmpS, eq_ii, eq_ss, lt_ii, lt_ss, mem_s, p_add_i, p_sub_i, b_len_t, b_len_l, b_abs, b_int, b_tuple_l, b_list_t, b_list_l, m_count, i_tup, i_lv, atI_0, atI_1, atI_2, atI_3, atI_4, decide_eq_true_eq, Bool.not_true, Bool.not_false, Bool.false_eq_true, if_true, if_false, ite_true, ite_false, reduceIte, isNon, walkOf, walkS, isi_non_int, isi_non_str, isi_non_tuple, isi_non_list, isi_non_dict, isi_non_bool, isi_bl_int, isi_bl_str, isi_bl_tuple, isi_bl_list, isi_bl_dict, isi_bl_bool, isi_int_int, isi_int_str, isi_int_tuple, isi_int_list, isi_int_dict, isi_int_bool, isi_str_int, isi_str_str, isi_str_tuple, isi_str_list, isi_str_dict, isi_str_bool, isi_tup_int, isi_tup_str, isi_tup_tuple, isi_tup_list, isi_tup_dict, isi_tup_bool, isi_lv_int, isi_lv_str, isi_lv_tuple, isi_lv_list, isi_lv_dict, isi_lv_bool, isi_dv_int, isi_dv_str, isi_dv_tuple, isi_dv_list, isi_dv_dict, isi_dv_bool, isi_scr_int, isi_scr_str, isi_scr_tuple, isi_scr_list, isi_scr_dict, isi_scr_bool]
  refine ⟨[], ?_⟩
  rw [show (30 : Nat) = 29 + 1 from rfl, callN_at fi_law rfl]
  show (run 1000 (callN 1000 progL 29) (.seq _ (.seq _ (.seq _ (.seq _ (.seq _ _))))) [some (.scr ns), none, none] []).bind (endC false _) = _
  rw [run_seq p1, run_seq p2, run_seq p3, run_seq p4, run_seq p5, p6]
  exact end_appP (S := []) (pb_bl _)
end
end Pd

namespace Pd
open PySem PySem.Spec PyProof.Rows L2
set_option maxHeartbeats 0 in
theorem all_mk {P : Program} {w : World} {K : PySem.W.Frag} {h : Heap} {mg : Str → Option Value} {fa : Addr} {fu n : Nat} (X : K.In h) (Gn : h.Ns mainGlobals mg) (hfa : mg "law" = some (.ref fa))
    {f_is_letters : Addr} {oc_is_letters kV_is_letters dc_is_letters pm_is_letters cd_is_letters ct_is_letters : Value} {od_is_letters an_is_letters : Option Addr} {sl_is_letters : Array (Option Value)}
    {f_is_text : Addr} {oc_is_text kV_is_text dc_is_text pm_is_text cd_is_text ct_is_text : Value} {od_is_text an_is_text : Option Addr} {sl_is_text : Array (Option Value)}
    {f_check_text : Addr} {oc_check_text kV_check_text dc_check_text pm_check_text cd_check_text ct_check_text : Value} {od_check_text an_check_text : Option Addr} {sl_check_text : Array (Option Value)}
    {f_check_two : Addr} {oc_check_two kV_check_two dc_check_two pm_check_two cd_check_two ct_check_two : Value} {od_check_two an_check_two : Option Addr} {sl_check_two : Array (Option Value)}
    {f_raw_dots : Addr} {oc_raw_dots kV_raw_dots dc_raw_dots pm_raw_dots cd_raw_dots ct_raw_dots : Value} {od_raw_dots an_raw_dots : Option Addr} {sl_raw_dots : Array (Option Value)}
    {f_dots : Addr} {oc_dots kV_dots dc_dots pm_dots cd_dots ct_dots : Value} {od_dots an_dots : Option Addr} {sl_dots : Array (Option Value)}
    {f_is_dot : Addr} {oc_is_dot kV_is_dot dc_is_dot pm_is_dot cd_is_dot ct_is_dot : Value} {od_is_dot an_is_dot : Option Addr} {sl_is_dot : Array (Option Value)}
    {f_all_dots : Addr} {oc_all_dots kV_all_dots dc_all_dots pm_all_dots cd_all_dots ct_all_dots : Value} {od_all_dots an_all_dots : Option Addr} {sl_all_dots : Array (Option Value)}
    {f_dots_many : Addr} {oc_dots_many kV_dots_many dc_dots_many pm_dots_many cd_dots_many ct_dots_many : Value} {od_dots_many an_dots_many : Option Addr} {sl_dots_many : Array (Option Value)}
    {f_slant_length : Addr} {oc_slant_length kV_slant_length dc_slant_length pm_slant_length cd_slant_length ct_slant_length : Value} {od_slant_length an_slant_length : Option Addr} {sl_slant_length : Array (Option Value)}
    {f_raw_slants : Addr} {oc_raw_slants kV_raw_slants dc_raw_slants pm_raw_slants cd_raw_slants ct_raw_slants : Value} {od_raw_slants an_raw_slants : Option Addr} {sl_raw_slants : Array (Option Value)}
    {f_slants : Addr} {oc_slants kV_slants dc_slants pm_slants cd_slants ct_slants : Value} {od_slants an_slants : Option Addr} {sl_slants : Array (Option Value)}
    {f_longest_slant : Addr} {oc_longest_slant kV_longest_slant dc_longest_slant pm_longest_slant cd_longest_slant ct_longest_slant : Value} {od_longest_slant an_longest_slant : Option Addr} {sl_longest_slant : Array (Option Value)}
    {f_back_slants : Addr} {oc_back_slants kV_back_slants dc_back_slants pm_back_slants cd_back_slants ct_back_slants : Value} {od_back_slants an_back_slants : Option Addr} {sl_back_slants : Array (Option Value)}
    {f_raw_sums : Addr} {oc_raw_sums kV_raw_sums dc_raw_sums pm_raw_sums cd_raw_sums ct_raw_sums : Value} {od_raw_sums an_raw_sums : Option Addr} {sl_raw_sums : Array (Option Value)}
    {f_slant_sums : Addr} {oc_slant_sums kV_slant_sums dc_slant_sums pm_slant_sums cd_slant_sums ct_slant_sums : Value} {od_slant_sums an_slant_sums : Option Addr} {sl_slant_sums : Array (Option Value)}
    {f_best_shift : Addr} {oc_best_shift kV_best_shift dc_best_shift pm_best_shift cd_best_shift ct_best_shift : Value} {od_best_shift an_best_shift : Option Addr} {sl_best_shift : Array (Option Value)}
    {f_rows_without : Addr} {oc_rows_without kV_rows_without dc_rows_without pm_rows_without cd_rows_without ct_rows_without : Value} {od_rows_without an_rows_without : Option Addr} {sl_rows_without : Array (Option Value)}
    {f_law_hand : Addr} {oc_law_hand kV_law_hand dc_law_hand pm_law_hand cd_law_hand ct_law_hand : Value} {od_law_hand an_law_hand : Option Addr} {sl_law_hand : Array (Option Value)}
    {f_law_draw : Addr} {oc_law_draw kV_law_draw dc_law_draw pm_law_draw cd_law_draw ct_law_draw : Value} {od_law_draw an_law_draw : Option Addr} {sl_law_draw : Array (Option Value)}
    {f_law_any : Addr} {oc_law_any kV_law_any dc_law_any pm_law_any cd_law_any ct_law_any : Value} {od_law_any an_law_any : Option Addr} {sl_law_any : Array (Option Value)}
    {f_law_is : Addr} {oc_law_is kV_law_is dc_law_is pm_law_is cd_law_is ct_law_is : Value} {od_law_is an_law_is : Option Addr} {sl_law_is : Array (Option Value)}
    {f_law_letters : Addr} {oc_law_letters kV_law_letters dc_law_letters pm_law_letters cd_law_letters ct_law_letters : Value} {od_law_letters an_law_letters : Option Addr} {sl_law_letters : Array (Option Value)}
    {f_law_text : Addr} {oc_law_text kV_law_text dc_law_text pm_law_text cd_law_text ct_law_text : Value} {od_law_text an_law_text : Option Addr} {sl_law_text : Array (Option Value)}
    {f_law_led : Addr} {oc_law_led kV_law_led dc_law_led pm_law_led cd_law_led ct_law_led : Value} {od_law_led an_law_led : Option Addr} {sl_law_led : Array (Option Value)}
    {f_law_script : Addr} {oc_law_script kV_law_script dc_law_script pm_law_script cd_law_script ct_law_script : Value} {od_law_script an_law_script : Option Addr} {sl_law_script : Array (Option Value)}
    {f_law_two : Addr} {oc_law_two kV_law_two dc_law_two pm_law_two cd_law_two ct_law_two : Value} {od_law_two an_law_two : Option Addr} {sl_law_two : Array (Option Value)}
    {f_law_dots : Addr} {oc_law_dots kV_law_dots dc_law_dots pm_law_dots cd_law_dots ct_law_dots : Value} {od_law_dots an_law_dots : Option Addr} {sl_law_dots : Array (Option Value)}
    {f_law_slants : Addr} {oc_law_slants kV_law_slants dc_law_slants pm_law_slants cd_law_slants ct_law_slants : Value} {od_law_slants an_law_slants : Option Addr} {sl_law_slants : Array (Option Value)}
    {f_law_is_right : Addr} {oc_law_is_right kV_law_is_right dc_law_is_right pm_law_is_right cd_law_is_right ct_law_is_right : Value} {od_law_is_right an_law_is_right : Option Addr} {sl_law_is_right : Array (Option Value)}
    {f_law : Addr} {oc_law kV_law dc_law pm_law cd_law ct_law : Value} {od_law an_law : Option Addr} {sl_law : Array (Option Value)}
    {t_LEAST_SLANT : Tok}
    {t_MOST_TEXT : Tok}
    {t_LETTERS : Tok}
    {t_DOT : Tok}
    {t_BARE : Tok}
    (a_is_letters : PySem.W.nsIn K mainGlobals d_is_letters.nm = some (some (.ref f_is_letters))) (l_is_letters : K.lookup f_is_letters = some ⟨oc_is_letters, od_is_letters, .func (PySem.W.fnOf d_is_letters.nm d_is_letters.nm (defArgs (topS 6)) (defBody (topS 6)) (defScope (topS 6)) .none kV_is_letters dc_is_letters pm_is_letters an_is_letters cd_is_letters ct_is_letters), sl_is_letters⟩) (c_is_letters : PySem.W.codeIn K cd_is_letters d_is_letters.nm = true) (k_is_letters : PySem.W.keepIn K (.ref f_is_letters) = true)
    (a_is_text : PySem.W.nsIn K mainGlobals d_is_text.nm = some (some (.ref f_is_text))) (l_is_text : K.lookup f_is_text = some ⟨oc_is_text, od_is_text, .func (PySem.W.fnOf d_is_text.nm d_is_text.nm (defArgs (topS 7)) (defBody (topS 7)) (defScope (topS 7)) .none kV_is_text dc_is_text pm_is_text an_is_text cd_is_text ct_is_text), sl_is_text⟩) (c_is_text : PySem.W.codeIn K cd_is_text d_is_text.nm = true) (k_is_text : PySem.W.keepIn K (.ref f_is_text) = true)
    (a_check_text : PySem.W.nsIn K mainGlobals d_check_text.nm = some (some (.ref f_check_text))) (l_check_text : K.lookup f_check_text = some ⟨oc_check_text, od_check_text, .func (PySem.W.fnOf d_check_text.nm d_check_text.nm (defArgs (topS 8)) (defBody (topS 8)) (defScope (topS 8)) .none kV_check_text dc_check_text pm_check_text an_check_text cd_check_text ct_check_text), sl_check_text⟩) (c_check_text : PySem.W.codeIn K cd_check_text d_check_text.nm = true) (k_check_text : PySem.W.keepIn K (.ref f_check_text) = true)
    (a_check_two : PySem.W.nsIn K mainGlobals d_check_two.nm = some (some (.ref f_check_two))) (l_check_two : K.lookup f_check_two = some ⟨oc_check_two, od_check_two, .func (PySem.W.fnOf d_check_two.nm d_check_two.nm (defArgs (topS 9)) (defBody (topS 9)) (defScope (topS 9)) .none kV_check_two dc_check_two pm_check_two an_check_two cd_check_two ct_check_two), sl_check_two⟩) (c_check_two : PySem.W.codeIn K cd_check_two d_check_two.nm = true) (k_check_two : PySem.W.keepIn K (.ref f_check_two) = true)
    (a_raw_dots : PySem.W.nsIn K mainGlobals d_raw_dots.nm = some (some (.ref f_raw_dots))) (l_raw_dots : K.lookup f_raw_dots = some ⟨oc_raw_dots, od_raw_dots, .func (PySem.W.fnOf d_raw_dots.nm d_raw_dots.nm (defArgs (topS 14)) (defBody (topS 14)) (defScope (topS 14)) .none kV_raw_dots dc_raw_dots pm_raw_dots an_raw_dots cd_raw_dots ct_raw_dots), sl_raw_dots⟩) (c_raw_dots : PySem.W.codeIn K cd_raw_dots d_raw_dots.nm = true) (k_raw_dots : PySem.W.keepIn K (.ref f_raw_dots) = true)
    (a_dots : PySem.W.nsIn K mainGlobals d_dots.nm = some (some (.ref f_dots))) (l_dots : K.lookup f_dots = some ⟨oc_dots, od_dots, .func (PySem.W.fnOf d_dots.nm d_dots.nm (defArgs (topS 15)) (defBody (topS 15)) (defScope (topS 15)) .none kV_dots dc_dots pm_dots an_dots cd_dots ct_dots), sl_dots⟩) (c_dots : PySem.W.codeIn K cd_dots d_dots.nm = true) (k_dots : PySem.W.keepIn K (.ref f_dots) = true)
    (a_is_dot : PySem.W.nsIn K mainGlobals d_is_dot.nm = some (some (.ref f_is_dot))) (l_is_dot : K.lookup f_is_dot = some ⟨oc_is_dot, od_is_dot, .func (PySem.W.fnOf d_is_dot.nm d_is_dot.nm (defArgs (topS 16)) (defBody (topS 16)) (defScope (topS 16)) .none kV_is_dot dc_is_dot pm_is_dot an_is_dot cd_is_dot ct_is_dot), sl_is_dot⟩) (c_is_dot : PySem.W.codeIn K cd_is_dot d_is_dot.nm = true) (k_is_dot : PySem.W.keepIn K (.ref f_is_dot) = true)
    (a_all_dots : PySem.W.nsIn K mainGlobals d_all_dots.nm = some (some (.ref f_all_dots))) (l_all_dots : K.lookup f_all_dots = some ⟨oc_all_dots, od_all_dots, .func (PySem.W.fnOf d_all_dots.nm d_all_dots.nm (defArgs (topS 17)) (defBody (topS 17)) (defScope (topS 17)) .none kV_all_dots dc_all_dots pm_all_dots an_all_dots cd_all_dots ct_all_dots), sl_all_dots⟩) (c_all_dots : PySem.W.codeIn K cd_all_dots d_all_dots.nm = true) (k_all_dots : PySem.W.keepIn K (.ref f_all_dots) = true)
    (a_dots_many : PySem.W.nsIn K mainGlobals d_dots_many.nm = some (some (.ref f_dots_many))) (l_dots_many : K.lookup f_dots_many = some ⟨oc_dots_many, od_dots_many, .func (PySem.W.fnOf d_dots_many.nm d_dots_many.nm (defArgs (topS 18)) (defBody (topS 18)) (defScope (topS 18)) .none kV_dots_many dc_dots_many pm_dots_many an_dots_many cd_dots_many ct_dots_many), sl_dots_many⟩) (c_dots_many : PySem.W.codeIn K cd_dots_many d_dots_many.nm = true) (k_dots_many : PySem.W.keepIn K (.ref f_dots_many) = true)
    (a_slant_length : PySem.W.nsIn K mainGlobals d_slant_length.nm = some (some (.ref f_slant_length))) (l_slant_length : K.lookup f_slant_length = some ⟨oc_slant_length, od_slant_length, .func (PySem.W.fnOf d_slant_length.nm d_slant_length.nm (defArgs (topS 19)) (defBody (topS 19)) (defScope (topS 19)) .none kV_slant_length dc_slant_length pm_slant_length an_slant_length cd_slant_length ct_slant_length), sl_slant_length⟩) (c_slant_length : PySem.W.codeIn K cd_slant_length d_slant_length.nm = true) (k_slant_length : PySem.W.keepIn K (.ref f_slant_length) = true)
    (a_raw_slants : PySem.W.nsIn K mainGlobals d_raw_slants.nm = some (some (.ref f_raw_slants))) (l_raw_slants : K.lookup f_raw_slants = some ⟨oc_raw_slants, od_raw_slants, .func (PySem.W.fnOf d_raw_slants.nm d_raw_slants.nm (defArgs (topS 20)) (defBody (topS 20)) (defScope (topS 20)) .none kV_raw_slants dc_raw_slants pm_raw_slants an_raw_slants cd_raw_slants ct_raw_slants), sl_raw_slants⟩) (c_raw_slants : PySem.W.codeIn K cd_raw_slants d_raw_slants.nm = true) (k_raw_slants : PySem.W.keepIn K (.ref f_raw_slants) = true)
    (a_slants : PySem.W.nsIn K mainGlobals d_slants.nm = some (some (.ref f_slants))) (l_slants : K.lookup f_slants = some ⟨oc_slants, od_slants, .func (PySem.W.fnOf d_slants.nm d_slants.nm (defArgs (topS 21)) (defBody (topS 21)) (defScope (topS 21)) .none kV_slants dc_slants pm_slants an_slants cd_slants ct_slants), sl_slants⟩) (c_slants : PySem.W.codeIn K cd_slants d_slants.nm = true) (k_slants : PySem.W.keepIn K (.ref f_slants) = true)
    (a_longest_slant : PySem.W.nsIn K mainGlobals d_longest_slant.nm = some (some (.ref f_longest_slant))) (l_longest_slant : K.lookup f_longest_slant = some ⟨oc_longest_slant, od_longest_slant, .func (PySem.W.fnOf d_longest_slant.nm d_longest_slant.nm (defArgs (topS 22)) (defBody (topS 22)) (defScope (topS 22)) .none kV_longest_slant dc_longest_slant pm_longest_slant an_longest_slant cd_longest_slant ct_longest_slant), sl_longest_slant⟩) (c_longest_slant : PySem.W.codeIn K cd_longest_slant d_longest_slant.nm = true) (k_longest_slant : PySem.W.keepIn K (.ref f_longest_slant) = true)
    (a_back_slants : PySem.W.nsIn K mainGlobals d_back_slants.nm = some (some (.ref f_back_slants))) (l_back_slants : K.lookup f_back_slants = some ⟨oc_back_slants, od_back_slants, .func (PySem.W.fnOf d_back_slants.nm d_back_slants.nm (defArgs (topS 23)) (defBody (topS 23)) (defScope (topS 23)) .none kV_back_slants dc_back_slants pm_back_slants an_back_slants cd_back_slants ct_back_slants), sl_back_slants⟩) (c_back_slants : PySem.W.codeIn K cd_back_slants d_back_slants.nm = true) (k_back_slants : PySem.W.keepIn K (.ref f_back_slants) = true)
    (a_raw_sums : PySem.W.nsIn K mainGlobals d_raw_sums.nm = some (some (.ref f_raw_sums))) (l_raw_sums : K.lookup f_raw_sums = some ⟨oc_raw_sums, od_raw_sums, .func (PySem.W.fnOf d_raw_sums.nm d_raw_sums.nm (defArgs (topS 24)) (defBody (topS 24)) (defScope (topS 24)) .none kV_raw_sums dc_raw_sums pm_raw_sums an_raw_sums cd_raw_sums ct_raw_sums), sl_raw_sums⟩) (c_raw_sums : PySem.W.codeIn K cd_raw_sums d_raw_sums.nm = true) (k_raw_sums : PySem.W.keepIn K (.ref f_raw_sums) = true)
    (a_slant_sums : PySem.W.nsIn K mainGlobals d_slant_sums.nm = some (some (.ref f_slant_sums))) (l_slant_sums : K.lookup f_slant_sums = some ⟨oc_slant_sums, od_slant_sums, .func (PySem.W.fnOf d_slant_sums.nm d_slant_sums.nm (defArgs (topS 25)) (defBody (topS 25)) (defScope (topS 25)) .none kV_slant_sums dc_slant_sums pm_slant_sums an_slant_sums cd_slant_sums ct_slant_sums), sl_slant_sums⟩) (c_slant_sums : PySem.W.codeIn K cd_slant_sums d_slant_sums.nm = true) (k_slant_sums : PySem.W.keepIn K (.ref f_slant_sums) = true)
    (a_best_shift : PySem.W.nsIn K mainGlobals d_best_shift.nm = some (some (.ref f_best_shift))) (l_best_shift : K.lookup f_best_shift = some ⟨oc_best_shift, od_best_shift, .func (PySem.W.fnOf d_best_shift.nm d_best_shift.nm (defArgs (topS 26)) (defBody (topS 26)) (defScope (topS 26)) .none kV_best_shift dc_best_shift pm_best_shift an_best_shift cd_best_shift ct_best_shift), sl_best_shift⟩) (c_best_shift : PySem.W.codeIn K cd_best_shift d_best_shift.nm = true) (k_best_shift : PySem.W.keepIn K (.ref f_best_shift) = true)
    (a_rows_without : PySem.W.nsIn K mainGlobals d_rows_without.nm = some (some (.ref f_rows_without))) (l_rows_without : K.lookup f_rows_without = some ⟨oc_rows_without, od_rows_without, .func (PySem.W.fnOf d_rows_without.nm d_rows_without.nm (defArgs (topS 27)) (defBody (topS 27)) (defScope (topS 27)) .none kV_rows_without dc_rows_without pm_rows_without an_rows_without cd_rows_without ct_rows_without), sl_rows_without⟩) (c_rows_without : PySem.W.codeIn K cd_rows_without d_rows_without.nm = true) (k_rows_without : PySem.W.keepIn K (.ref f_rows_without) = true)
    (a_law_hand : PySem.W.nsIn K mainGlobals d_law_hand.nm = some (some (.ref f_law_hand))) (l_law_hand : K.lookup f_law_hand = some ⟨oc_law_hand, od_law_hand, .func (PySem.W.fnOf d_law_hand.nm d_law_hand.nm (defArgs (topS 29)) (defBody (topS 29)) (defScope (topS 29)) .none kV_law_hand dc_law_hand pm_law_hand an_law_hand cd_law_hand ct_law_hand), sl_law_hand⟩) (c_law_hand : PySem.W.codeIn K cd_law_hand d_law_hand.nm = true) (k_law_hand : PySem.W.keepIn K (.ref f_law_hand) = true)
    (a_law_draw : PySem.W.nsIn K mainGlobals d_law_draw.nm = some (some (.ref f_law_draw))) (l_law_draw : K.lookup f_law_draw = some ⟨oc_law_draw, od_law_draw, .func (PySem.W.fnOf d_law_draw.nm d_law_draw.nm (defArgs (topS 30)) (defBody (topS 30)) (defScope (topS 30)) .none kV_law_draw dc_law_draw pm_law_draw an_law_draw cd_law_draw ct_law_draw), sl_law_draw⟩) (c_law_draw : PySem.W.codeIn K cd_law_draw d_law_draw.nm = true) (k_law_draw : PySem.W.keepIn K (.ref f_law_draw) = true)
    (a_law_any : PySem.W.nsIn K mainGlobals d_law_any.nm = some (some (.ref f_law_any))) (l_law_any : K.lookup f_law_any = some ⟨oc_law_any, od_law_any, .func (PySem.W.fnOf d_law_any.nm d_law_any.nm (defArgs (topS 31)) (defBody (topS 31)) (defScope (topS 31)) .none kV_law_any dc_law_any pm_law_any an_law_any cd_law_any ct_law_any), sl_law_any⟩) (c_law_any : PySem.W.codeIn K cd_law_any d_law_any.nm = true) (k_law_any : PySem.W.keepIn K (.ref f_law_any) = true)
    (a_law_is : PySem.W.nsIn K mainGlobals d_law_is.nm = some (some (.ref f_law_is))) (l_law_is : K.lookup f_law_is = some ⟨oc_law_is, od_law_is, .func (PySem.W.fnOf d_law_is.nm d_law_is.nm (defArgs (topS 32)) (defBody (topS 32)) (defScope (topS 32)) .none kV_law_is dc_law_is pm_law_is an_law_is cd_law_is ct_law_is), sl_law_is⟩) (c_law_is : PySem.W.codeIn K cd_law_is d_law_is.nm = true) (k_law_is : PySem.W.keepIn K (.ref f_law_is) = true)
    (a_law_letters : PySem.W.nsIn K mainGlobals d_law_letters.nm = some (some (.ref f_law_letters))) (l_law_letters : K.lookup f_law_letters = some ⟨oc_law_letters, od_law_letters, .func (PySem.W.fnOf d_law_letters.nm d_law_letters.nm (defArgs (topS 33)) (defBody (topS 33)) (defScope (topS 33)) .none kV_law_letters dc_law_letters pm_law_letters an_law_letters cd_law_letters ct_law_letters), sl_law_letters⟩) (c_law_letters : PySem.W.codeIn K cd_law_letters d_law_letters.nm = true) (k_law_letters : PySem.W.keepIn K (.ref f_law_letters) = true)
    (a_law_text : PySem.W.nsIn K mainGlobals d_law_text.nm = some (some (.ref f_law_text))) (l_law_text : K.lookup f_law_text = some ⟨oc_law_text, od_law_text, .func (PySem.W.fnOf d_law_text.nm d_law_text.nm (defArgs (topS 34)) (defBody (topS 34)) (defScope (topS 34)) .none kV_law_text dc_law_text pm_law_text an_law_text cd_law_text ct_law_text), sl_law_text⟩) (c_law_text : PySem.W.codeIn K cd_law_text d_law_text.nm = true) (k_law_text : PySem.W.keepIn K (.ref f_law_text) = true)
    (a_law_led : PySem.W.nsIn K mainGlobals d_law_led.nm = some (some (.ref f_law_led))) (l_law_led : K.lookup f_law_led = some ⟨oc_law_led, od_law_led, .func (PySem.W.fnOf d_law_led.nm d_law_led.nm (defArgs (topS 35)) (defBody (topS 35)) (defScope (topS 35)) .none kV_law_led dc_law_led pm_law_led an_law_led cd_law_led ct_law_led), sl_law_led⟩) (c_law_led : PySem.W.codeIn K cd_law_led d_law_led.nm = true) (k_law_led : PySem.W.keepIn K (.ref f_law_led) = true)
    (a_law_script : PySem.W.nsIn K mainGlobals d_law_script.nm = some (some (.ref f_law_script))) (l_law_script : K.lookup f_law_script = some ⟨oc_law_script, od_law_script, .func (PySem.W.fnOf d_law_script.nm d_law_script.nm (defArgs (topS 36)) (defBody (topS 36)) (defScope (topS 36)) .none kV_law_script dc_law_script pm_law_script an_law_script cd_law_script ct_law_script), sl_law_script⟩) (c_law_script : PySem.W.codeIn K cd_law_script d_law_script.nm = true) (k_law_script : PySem.W.keepIn K (.ref f_law_script) = true)
    (a_law_two : PySem.W.nsIn K mainGlobals d_law_two.nm = some (some (.ref f_law_two))) (l_law_two : K.lookup f_law_two = some ⟨oc_law_two, od_law_two, .func (PySem.W.fnOf d_law_two.nm d_law_two.nm (defArgs (topS 37)) (defBody (topS 37)) (defScope (topS 37)) .none kV_law_two dc_law_two pm_law_two an_law_two cd_law_two ct_law_two), sl_law_two⟩) (c_law_two : PySem.W.codeIn K cd_law_two d_law_two.nm = true) (k_law_two : PySem.W.keepIn K (.ref f_law_two) = true)
    (a_law_dots : PySem.W.nsIn K mainGlobals d_law_dots.nm = some (some (.ref f_law_dots))) (l_law_dots : K.lookup f_law_dots = some ⟨oc_law_dots, od_law_dots, .func (PySem.W.fnOf d_law_dots.nm d_law_dots.nm (defArgs (topS 38)) (defBody (topS 38)) (defScope (topS 38)) .none kV_law_dots dc_law_dots pm_law_dots an_law_dots cd_law_dots ct_law_dots), sl_law_dots⟩) (c_law_dots : PySem.W.codeIn K cd_law_dots d_law_dots.nm = true) (k_law_dots : PySem.W.keepIn K (.ref f_law_dots) = true)
    (a_law_slants : PySem.W.nsIn K mainGlobals d_law_slants.nm = some (some (.ref f_law_slants))) (l_law_slants : K.lookup f_law_slants = some ⟨oc_law_slants, od_law_slants, .func (PySem.W.fnOf d_law_slants.nm d_law_slants.nm (defArgs (topS 39)) (defBody (topS 39)) (defScope (topS 39)) .none kV_law_slants dc_law_slants pm_law_slants an_law_slants cd_law_slants ct_law_slants), sl_law_slants⟩) (c_law_slants : PySem.W.codeIn K cd_law_slants d_law_slants.nm = true) (k_law_slants : PySem.W.keepIn K (.ref f_law_slants) = true)
    (a_law_is_right : PySem.W.nsIn K mainGlobals d_law_is_right.nm = some (some (.ref f_law_is_right))) (l_law_is_right : K.lookup f_law_is_right = some ⟨oc_law_is_right, od_law_is_right, .func (PySem.W.fnOf d_law_is_right.nm d_law_is_right.nm (defArgs (topS 40)) (defBody (topS 40)) (defScope (topS 40)) .none kV_law_is_right dc_law_is_right pm_law_is_right an_law_is_right cd_law_is_right ct_law_is_right), sl_law_is_right⟩) (c_law_is_right : PySem.W.codeIn K cd_law_is_right d_law_is_right.nm = true) (k_law_is_right : PySem.W.keepIn K (.ref f_law_is_right) = true)
    (a_law : PySem.W.nsIn K mainGlobals d_law.nm = some (some (.ref f_law))) (l_law : K.lookup f_law = some ⟨oc_law, od_law, .func (PySem.W.fnOf d_law.nm d_law.nm (defArgs (topS 41)) (defBody (topS 41)) (defScope (topS 41)) .none kV_law dc_law pm_law an_law cd_law ct_law), sl_law⟩) (c_law : PySem.W.codeIn K cd_law d_law.nm = true) (k_law : PySem.W.keepIn K (.ref f_law) = true)
    (z_len : PySem.W.nsIn K mainGlobals "len" = some none)
    (z_abs : PySem.W.nsIn K mainGlobals "abs" = some none)
    (z_int : PySem.W.nsIn K mainGlobals "int" = some none)
    (z_list : PySem.W.nsIn K mainGlobals "list" = some none)
    (z_tuple : PySem.W.nsIn K mainGlobals "tuple" = some none)
    (z_dict : PySem.W.nsIn K mainGlobals "dict" = some none)
    (z_sum : PySem.W.nsIn K mainGlobals "sum" = some none)
    (z_min : PySem.W.nsIn K mainGlobals "min" = some none)
    (z_max : PySem.W.nsIn K mainGlobals "max" = some none)
    (z_all : PySem.W.nsIn K mainGlobals "all" = some none)
    (z_any : PySem.W.nsIn K mainGlobals "any" = some none)
    (z_sorted : PySem.W.nsIn K mainGlobals "sorted" = some none)
    (z_range : PySem.W.nsIn K mainGlobals "range" = some none)
    (z_isinstance : PySem.W.nsIn K mainGlobals "isinstance" = some none)
    (z_repr : PySem.W.nsIn K mainGlobals "repr" = some none)
    (z_str : PySem.W.nsIn K mainGlobals "str" = some none)
    (z_enumerate : PySem.W.nsIn K mainGlobals "enumerate" = some none)
    (z_zip : PySem.W.nsIn K mainGlobals "zip" = some none)
    (z_bool : PySem.W.nsIn K mainGlobals "bool" = some none)
    (z_set : PySem.W.nsIn K mainGlobals "set" = some none)
    (v_LEAST_SLANT : PySem.W.nsIn K mainGlobals "LEAST_SLANT" = some (some (.int (2) t_LEAST_SLANT)))
    (v_MOST_TEXT : PySem.W.nsIn K mainGlobals "MOST_TEXT" = some (some (.int (12) t_MOST_TEXT)))
    (v_LETTERS : PySem.W.nsIn K mainGlobals "LETTERS" = some (some (.str (sOf [97, 98, 99, 100, 101, 102, 103, 104, 105, 106, 107, 108, 109, 110, 111, 112, 113, 114, 115, 116, 117, 118, 119, 120, 121, 122]) t_LETTERS)))
    (v_DOT : PySem.W.nsIn K mainGlobals "DOT" = some (some (.str (sOf [35]) t_DOT)))
    (v_BARE : PySem.W.nsIn K mainGlobals "BARE" = some (some (.str (sOf [46]) t_BARE)))
    : ∃ fd : FuncData, (∀ (s : Shared) (v : Value), BindsTo s fd ⟨[v], []⟩ [("script", v)]) ∧ ∀ base : Heap, K.In base → base.Ns mainGlobals mg → FnG P w K mg base CX0 n fa fd ["script"] (spC (callN fu progL n) "law" 1) := by
  have D_is_letters := mkAt (G := sig) (g := d_is_letters) (st := topS 6) X Gn ck_is_letters (fun _ _ _ _ _ _ us hl => match us, hl with | [_, _, _], _ => rfl) a_is_letters l_is_letters c_is_letters k_is_letters
  have D_is_text := mkAt (G := sig) (g := d_is_text) (st := topS 7) X Gn ck_is_text (fun _ _ _ _ _ _ us hl => match us, hl with | [_], _ => rfl) a_is_text l_is_text c_is_text k_is_text
  have D_check_text := mkAt (G := sig) (g := d_check_text) (st := topS 8) X Gn ck_check_text (fun _ _ _ _ _ _ us hl => match us, hl with | [_], _ => rfl) a_check_text l_check_text c_check_text k_check_text
  have D_check_two := mkAt (G := sig) (g := d_check_two) (st := topS 9) X Gn ck_check_two (fun _ _ _ _ _ _ us hl => match us, hl with | [_, _], _ => rfl) a_check_two l_check_two c_check_two k_check_two
  have D_raw_dots := mkAt (G := sig) (g := d_raw_dots) (st := topS 14) X Gn ck_raw_dots (fun _ _ _ _ _ _ us hl => match us, hl with | [_, _], _ => rfl) a_raw_dots l_raw_dots c_raw_dots k_raw_dots
  have D_dots := mkAt (G := sig) (g := d_dots) (st := topS 15) X Gn ck_dots (fun _ _ _ _ _ _ us hl => match us, hl with | [_, _], _ => rfl) a_dots l_dots c_dots k_dots
  have D_is_dot := mkAt (G := sig) (g := d_is_dot) (st := topS 16) X Gn ck_is_dot (fun _ _ _ _ _ _ us hl => match us, hl with | [_, _, _, _], _ => rfl) a_is_dot l_is_dot c_is_dot k_is_dot
  have D_all_dots := mkAt (G := sig) (g := d_all_dots) (st := topS 17) X Gn ck_all_dots (fun _ _ _ _ _ _ us hl => match us, hl with | [_, _], _ => rfl) a_all_dots l_all_dots c_all_dots k_all_dots
  have D_dots_many := mkAt (G := sig) (g := d_dots_many) (st := topS 18) X Gn ck_dots_many (fun _ _ _ _ _ _ us hl => match us, hl with | [_, _], _ => rfl) a_dots_many l_dots_many c_dots_many k_dots_many
  have D_slant_length := mkAt (G := sig) (g := d_slant_length) (st := topS 19) X Gn ck_slant_length (fun _ _ _ _ _ _ us hl => match us, hl with | [_, _, _, _], _ => rfl) a_slant_length l_slant_length c_slant_length k_slant_length
  have D_raw_slants := mkAt (G := sig) (g := d_raw_slants) (st := topS 20) X Gn ck_raw_slants (fun _ _ _ _ _ _ us hl => match us, hl with | [_, _, _], _ => rfl) a_raw_slants l_raw_slants c_raw_slants k_raw_slants
  have D_slants := mkAt (G := sig) (g := d_slants) (st := topS 21) X Gn ck_slants (fun _ _ _ _ _ _ us hl => match us, hl with | [_, _], _ => rfl) a_slants l_slants c_slants k_slants
  have D_longest_slant := mkAt (G := sig) (g := d_longest_slant) (st := topS 22) X Gn ck_longest_slant (fun _ _ _ _ _ _ us hl => match us, hl with | [_, _], _ => rfl) a_longest_slant l_longest_slant c_longest_slant k_longest_slant
  have D_back_slants := mkAt (G := sig) (g := d_back_slants) (st := topS 23) X Gn ck_back_slants (fun _ _ _ _ _ _ us hl => match us, hl with | [_, _], _ => rfl) a_back_slants l_back_slants c_back_slants k_back_slants
  have D_raw_sums := mkAt (G := sig) (g := d_raw_sums) (st := topS 24) X Gn ck_raw_sums (fun _ _ _ _ _ _ us hl => match us, hl with | [_, _], _ => rfl) a_raw_sums l_raw_sums c_raw_sums k_raw_sums
  have D_slant_sums := mkAt (G := sig) (g := d_slant_sums) (st := topS 25) X Gn ck_slant_sums (fun _ _ _ _ _ _ us hl => match us, hl with | [_, _], _ => rfl) a_slant_sums l_slant_sums c_slant_sums k_slant_sums
  have D_best_shift := mkAt (G := sig) (g := d_best_shift) (st := topS 26) X Gn ck_best_shift (fun _ _ _ _ _ _ us hl => match us, hl with | [_, _], _ => rfl) a_best_shift l_best_shift c_best_shift k_best_shift
  have D_rows_without := mkAt (G := sig) (g := d_rows_without) (st := topS 27) X Gn ck_rows_without (fun _ _ _ _ _ _ us hl => match us, hl with | [_, _], _ => rfl) a_rows_without l_rows_without c_rows_without k_rows_without
  have D_law_hand := mkAt (G := sig) (g := d_law_hand) (st := topS 29) X Gn ck_law_hand (fun _ _ _ _ _ _ us hl => match us, hl with | [_], _ => rfl) a_law_hand l_law_hand c_law_hand k_law_hand
  have D_law_draw := mkAt (G := sig) (g := d_law_draw) (st := topS 30) X Gn ck_law_draw (fun _ _ _ _ _ _ us hl => match us, hl with | [_, _], _ => rfl) a_law_draw l_law_draw c_law_draw k_law_draw
  have D_law_any := mkAt (G := sig) (g := d_law_any) (st := topS 31) X Gn ck_law_any (fun _ _ _ _ _ _ us hl => match us, hl with | [_, _], _ => rfl) a_law_any l_law_any c_law_any k_law_any
  have D_law_is := mkAt (G := sig) (g := d_law_is) (st := topS 32) X Gn ck_law_is (fun _ _ _ _ _ _ us hl => match us, hl with | [_, _], _ => rfl) a_law_is l_law_is c_law_is k_law_is
  have D_law_letters := mkAt (G := sig) (g := d_law_letters) (st := topS 33) X Gn ck_law_letters (fun _ _ _ _ _ _ us hl => match us, hl with | [_, _], _ => rfl) a_law_letters l_law_letters c_law_letters k_law_letters
  have D_law_text := mkAt (G := sig) (g := d_law_text) (st := topS 34) X Gn ck_law_text (fun _ _ _ _ _ _ us hl => match us, hl with | [_, _], _ => rfl) a_law_text l_law_text c_law_text k_law_text
  have D_law_led := mkAt (G := sig) (g := d_law_led) (st := topS 35) X Gn ck_law_led (fun _ _ _ _ _ _ us hl => match us, hl with | [_, _], _ => rfl) a_law_led l_law_led c_law_led k_law_led
  have D_law_script := mkAt (G := sig) (g := d_law_script) (st := topS 36) X Gn ck_law_script (fun _ _ _ _ _ _ us hl => match us, hl with | [_, _, _], _ => rfl) a_law_script l_law_script c_law_script k_law_script
  have D_law_two := mkAt (G := sig) (g := d_law_two) (st := topS 37) X Gn ck_law_two (fun _ _ _ _ _ _ us hl => match us, hl with | [_, _], _ => rfl) a_law_two l_law_two c_law_two k_law_two
  have D_law_dots := mkAt (G := sig) (g := d_law_dots) (st := topS 38) X Gn ck_law_dots (fun _ _ _ _ _ _ us hl => match us, hl with | [_, _], _ => rfl) a_law_dots l_law_dots c_law_dots k_law_dots
  have D_law_slants := mkAt (G := sig) (g := d_law_slants) (st := topS 39) X Gn ck_law_slants (fun _ _ _ _ _ _ us hl => match us, hl with | [_, _], _ => rfl) a_law_slants l_law_slants c_law_slants k_law_slants
  have D_law_is_right := mkAt (G := sig) (g := d_law_is_right) (st := topS 40) X Gn ck_law_is_right (fun _ _ _ _ _ _ us hl => match us, hl with | [_], _ => rfl) a_law_is_right l_law_is_right c_law_is_right k_law_is_right
  have D_law := mkAt (G := sig) (g := d_law) (st := topS 41) X Gn ck_law (fun _ _ _ _ _ _ us hl => match us, hl with | [_], _ => rfl) a_law l_law c_law k_law
  refine law_mk (gL := d_law) rfl (by kernel_rfl) rfl rfl hfa D_law (fun s v => .of_eq rfl) ?_ ?_ ?_
  · exact List.forall_mem_cons.mpr ⟨⟨_, _, _, D_is_letters⟩, List.forall_mem_cons.mpr ⟨⟨_, _, _, D_is_text⟩, List.forall_mem_cons.mpr ⟨⟨_, _, _, D_check_text⟩, List.forall_mem_cons.mpr ⟨⟨_, _, _, D_check_two⟩, List.forall_mem_cons.mpr ⟨⟨_, _, _, D_raw_dots⟩, List.forall_mem_cons.mpr ⟨⟨_, _, _, D_dots⟩, List.forall_mem_cons.mpr ⟨⟨_, _, _, D_is_dot⟩, List.forall_mem_cons.mpr ⟨⟨_, _, _, D_all_dots⟩, List.forall_mem_cons.mpr ⟨⟨_, _, _, D_dots_many⟩, List.forall_mem_cons.mpr ⟨⟨_, _, _, D_slant_length⟩, List.forall_mem_cons.mpr ⟨⟨_, _, _, D_raw_slants⟩, List.forall_mem_cons.mpr ⟨⟨_, _, _, D_slants⟩, List.forall_mem_cons.mpr ⟨⟨_, _, _, D_longest_slant⟩, List.forall_mem_cons.mpr ⟨⟨_, _, _, D_back_slants⟩, List.forall_mem_cons.mpr ⟨⟨_, _, _, D_raw_sums⟩, List.forall_mem_cons.mpr ⟨⟨_, _, _, D_slant_sums⟩, List.forall_mem_cons.mpr ⟨⟨_, _, _, D_best_shift⟩, List.forall_mem_cons.mpr ⟨⟨_, _, _, D_rows_without⟩, List.forall_mem_cons.mpr ⟨⟨_, _, _, D_law_hand⟩, List.forall_mem_cons.mpr ⟨⟨_, _, _, D_law_draw⟩, List.forall_mem_cons.mpr ⟨⟨_, _, _, D_law_any⟩, List.forall_mem_cons.mpr ⟨⟨_, _, _, D_law_is⟩, List.forall_mem_cons.mpr ⟨⟨_, _, _, D_law_letters⟩, List.forall_mem_cons.mpr ⟨⟨_, _, _, D_law_text⟩, List.forall_mem_cons.mpr ⟨⟨_, _, _, D_law_led⟩, List.forall_mem_cons.mpr ⟨⟨_, _, _, D_law_script⟩, List.forall_mem_cons.mpr ⟨⟨_, _, _, D_law_two⟩, List.forall_mem_cons.mpr ⟨⟨_, _, _, D_law_dots⟩, List.forall_mem_cons.mpr ⟨⟨_, _, _, D_law_slants⟩, List.forall_mem_cons.mpr ⟨⟨_, _, _, D_law_is_right⟩, List.forall_mem_cons.mpr ⟨⟨_, _, _, D_law⟩, fun _ h => (List.not_mem_nil h).elim⟩⟩⟩⟩⟩⟩⟩⟩⟩⟩⟩⟩⟩⟩⟩⟩⟩⟩⟩⟩⟩⟩⟩⟩⟩⟩⟩⟩⟩⟩⟩
  · exact List.forall_mem_cons.mpr ⟨PySem.W.mg_none_of X Gn z_len, List.forall_mem_cons.mpr ⟨PySem.W.mg_none_of X Gn z_abs, List.forall_mem_cons.mpr ⟨PySem.W.mg_none_of X Gn z_int, List.forall_mem_cons.mpr ⟨PySem.W.mg_none_of X Gn z_list, List.forall_mem_cons.mpr ⟨PySem.W.mg_none_of X Gn z_tuple, List.forall_mem_cons.mpr ⟨PySem.W.mg_none_of X Gn z_dict, List.forall_mem_cons.mpr ⟨PySem.W.mg_none_of X Gn z_sum, List.forall_mem_cons.mpr ⟨PySem.W.mg_none_of X Gn z_min, List.forall_mem_cons.mpr ⟨PySem.W.mg_none_of X Gn z_max, List.forall_mem_cons.mpr ⟨PySem.W.mg_none_of X Gn z_all, List.forall_mem_cons.mpr ⟨PySem.W.mg_none_of X Gn z_any, List.forall_mem_cons.mpr ⟨PySem.W.mg_none_of X Gn z_sorted, List.forall_mem_cons.mpr ⟨PySem.W.mg_none_of X Gn z_range, List.forall_mem_cons.mpr ⟨PySem.W.mg_none_of X Gn z_isinstance, List.forall_mem_cons.mpr ⟨PySem.W.mg_none_of X Gn z_repr, List.forall_mem_cons.mpr ⟨PySem.W.mg_none_of X Gn z_str, List.forall_mem_cons.mpr ⟨PySem.W.mg_none_of X Gn z_enumerate, List.forall_mem_cons.mpr ⟨PySem.W.mg_none_of X Gn z_zip, List.forall_mem_cons.mpr ⟨PySem.W.mg_none_of X Gn z_bool, List.forall_mem_cons.mpr ⟨PySem.W.mg_none_of X Gn z_set, fun _ h => (List.not_mem_nil h).elim⟩⟩⟩⟩⟩⟩⟩⟩⟩⟩⟩⟩⟩⟩⟩⟩⟩⟩⟩⟩
  · exact List.forall_mem_cons.mpr ⟨gv_int X Gn v_LEAST_SLANT, List.forall_mem_cons.mpr ⟨gv_int X Gn v_MOST_TEXT, List.forall_mem_cons.mpr ⟨gv_str X Gn (by decide +kernel) v_LETTERS, List.forall_mem_cons.mpr ⟨gv_str X Gn (by decide +kernel) v_DOT, List.forall_mem_cons.mpr ⟨gv_str X Gn (by decide +kernel) v_BARE, fun _ h => (List.not_mem_nil h).elim⟩⟩⟩⟩⟩

end Pd
open PySem PySem.W PyProof.Rows
set_option maxRecDepth 100000 in
set_option maxHeartbeats 0 in
theorem PySem.Challenge.cw_twotexts_k76_whole_dots_of_two_texts_holds : PySem.Challenge.rw_twotexts_k76_whole_dots_of_two_texts.Holds := by
  w_on; o_law; k_head; (case hw => w_witness2)
  k_fill
  refine Pd.walkG (l := PySem.Challenge.rw_twotexts_k76_whole_dots_of_two_texts) (n := 63) (k := 30) (x := "script") (C := fun _ => L2.CX0) (sp := fun w => Pd.spC (Pd.callN 1000 Pd.progL 30) "law" 1) rfl (by decide) rfl ⟨rfl, by decide, by decide⟩ (fun w h Y => PySem.W.kIn_of Y) ?F ?G (fun _ _ _ _ _ h => h)
  case G =>
    intro w H a ns hl hb hO hS
    refine Pd.law_sp (most := 63) ?nl Pd.lawT hl hO hS
    (case nl => kernel_rfl)
  case F =>
    intro w mg fa h KX G hmg
    refine' Pd.all_mk KX G hmg ?a_is_letters ?l_is_letters ?c_is_letters ?k_is_letters ?a_is_text ?l_is_text ?c_is_text ?k_is_text ?a_check_text ?l_check_text ?c_check_text ?k_check_text ?a_check_two ?l_check_two ?c_check_two ?k_check_two ?a_raw_dots ?l_raw_dots ?c_raw_dots ?k_raw_dots ?a_dots ?l_dots ?c_dots ?k_dots ?a_is_dot ?l_is_dot ?c_is_dot ?k_is_dot ?a_all_dots ?l_all_dots ?c_all_dots ?k_all_dots ?a_dots_many ?l_dots_many ?c_dots_many ?k_dots_many ?a_slant_length ?l_slant_length ?c_slant_length ?k_slant_length ?a_raw_slants ?l_raw_slants ?c_raw_slants ?k_raw_slants ?a_slants ?l_slants ?c_slants ?k_slants ?a_longest_slant ?l_longest_slant ?c_longest_slant ?k_longest_slant ?a_back_slants ?l_back_slants ?c_back_slants ?k_back_slants ?a_raw_sums ?l_raw_sums ?c_raw_sums ?k_raw_sums ?a_slant_sums ?l_slant_sums ?c_slant_sums ?k_slant_sums ?a_best_shift ?l_best_shift ?c_best_shift ?k_best_shift ?a_rows_without ?l_rows_without ?c_rows_without ?k_rows_without ?a_law_hand ?l_law_hand ?c_law_hand ?k_law_hand ?a_law_draw ?l_law_draw ?c_law_draw ?k_law_draw ?a_law_any ?l_law_any ?c_law_any ?k_law_any ?a_law_is ?l_law_is ?c_law_is ?k_law_is ?a_law_letters ?l_law_letters ?c_law_letters ?k_law_letters ?a_law_text ?l_law_text ?c_law_text ?k_law_text ?a_law_led ?l_law_led ?c_law_led ?k_law_led ?a_law_script ?l_law_script ?c_law_script ?k_law_script ?a_law_two ?l_law_two ?c_law_two ?k_law_two ?a_law_dots ?l_law_dots ?c_law_dots ?k_law_dots ?a_law_slants ?l_law_slants ?c_law_slants ?k_law_slants ?a_law_is_right ?l_law_is_right ?c_law_is_right ?k_law_is_right ?a_law ?l_law ?c_law ?k_law ?z_len ?z_abs ?z_int ?z_list ?z_tuple ?z_dict ?z_sum ?z_min ?z_max ?z_all ?z_any ?z_sorted ?z_range ?z_isinstance ?z_repr ?z_str ?z_enumerate ?z_zip ?z_bool ?z_set ?v_LEAST_SLANT ?v_MOST_TEXT ?v_LETTERS ?v_DOT ?v_BARE
    (case a_is_letters => k_is); (case l_is_letters => k_is); (case c_is_letters => k_is); (case k_is_letters => k_is); (case a_is_text => k_is); (case l_is_text => k_is); (case c_is_text => k_is); (case k_is_text => k_is); (case a_check_text => k_is); (case l_check_text => k_is); (case c_check_text => k_is); (case k_check_text => k_is); (case a_check_two => k_is); (case l_check_two => k_is); (case c_check_two => k_is); (case k_check_two => k_is); (case a_raw_dots => k_is); (case l_raw_dots => k_is); (case c_raw_dots => k_is); (case k_raw_dots => k_is); (case a_dots => k_is); (case l_dots => k_is); (case c_dots => k_is); (case k_dots => k_is); (case a_is_dot => k_is); (case l_is_dot => k_is); (case c_is_dot => k_is); (case k_is_dot => k_is); (case a_all_dots => k_is); (case l_all_dots => k_is); (case c_all_dots => k_is); (case k_all_dots => k_is); (case a_dots_many => k_is); (case l_dots_many => k_is); (case c_dots_many => k_is); (case k_dots_many => k_is); (case a_slant_length => k_is); (case l_slant_length => k_is); (case c_slant_length => k_is); (case k_slant_length => k_is); (case a_raw_slants => k_is); (case l_raw_slants => k_is); (case c_raw_slants => k_is); (case k_raw_slants => k_is); (case a_slants => k_is); (case l_slants => k_is); (case c_slants => k_is); (case k_slants => k_is); (case a_longest_slant => k_is); (case l_longest_slant => k_is); (case c_longest_slant => k_is); (case k_longest_slant => k_is); (case a_back_slants => k_is); (case l_back_slants => k_is); (case c_back_slants => k_is); (case k_back_slants => k_is); (case a_raw_sums => k_is); (case l_raw_sums => k_is); (case c_raw_sums => k_is); (case k_raw_sums => k_is); (case a_slant_sums => k_is); (case l_slant_sums => k_is); (case c_slant_sums => k_is); (case k_slant_sums => k_is); (case a_best_shift => k_is); (case l_best_shift => k_is); (case c_best_shift => k_is); (case k_best_shift => k_is); (case a_rows_without => k_is); (case l_rows_without => k_is); (case c_rows_without => k_is); (case k_rows_without => k_is); (case a_law_hand => k_is); (case l_law_hand => k_is); (case c_law_hand => k_is); (case k_law_hand => k_is); (case a_law_draw => k_is); (case l_law_draw => k_is); (case c_law_draw => k_is); (case k_law_draw => k_is); (case a_law_any => k_is); (case l_law_any => k_is); (case c_law_any => k_is); (case k_law_any => k_is); (case a_law_is => k_is); (case l_law_is => k_is); (case c_law_is => k_is); (case k_law_is => k_is); (case a_law_letters => k_is); (case l_law_letters => k_is); (case c_law_letters => k_is); (case k_law_letters => k_is); (case a_law_text => k_is); (case l_law_text => k_is); (case c_law_text => k_is); (case k_law_text => k_is); (case a_law_led => k_is); (case l_law_led => k_is); (case c_law_led => k_is); (case k_law_led => k_is); (case a_law_script => k_is); (case l_law_script => k_is); (case c_law_script => k_is); (case k_law_script => k_is); (case a_law_two => k_is); (case l_law_two => k_is); (case c_law_two => k_is); (case k_law_two => k_is); (case a_law_dots => k_is); (case l_law_dots => k_is); (case c_law_dots => k_is); (case k_law_dots => k_is); (case a_law_slants => k_is); (case l_law_slants => k_is); (case c_law_slants => k_is); (case k_law_slants => k_is); (case a_law_is_right => k_is); (case l_law_is_right => k_is); (case c_law_is_right => k_is); (case k_law_is_right => k_is); (case a_law => k_is); (case l_law => k_is); (case c_law => k_is); (case k_law => k_is); (case z_len => k_is); (case z_abs => k_is); (case z_int => k_is); (case z_list => k_is); (case z_tuple => k_is); (case z_dict => k_is); (case z_sum => k_is); (case z_min => k_is); (case z_max => k_is); (case z_all => k_is); (case z_any => k_is); (case z_sorted => k_is); (case z_range => k_is); (case z_isinstance => k_is); (case z_repr => k_is); (case z_str => k_is); (case z_enumerate => k_is); (case z_zip => k_is); (case z_bool => k_is); (case z_set => k_is); (case v_LEAST_SLANT => k_is); (case v_MOST_TEXT => k_is); (case v_LETTERS => k_is); (case v_DOT => k_is); (case v_BARE => k_is)
