import PyProof.Rows.All
import Wide.All
import OpenK.AllK
import Wide.FinOn
import HandS.ForMost
import HandS.Exc
import HandS.CallSlots
import HandS.Defaults
import HandS.TryOnly
import HandS.ExcOwn
import HandS.ExcValue
import HandS.ExcIs
import HandS.TupMul
import HandS.TupAny
import HandS.TupLe
import HandS.Deep
import HandS.Flow
import HandS.Text
import HandS.Wide
import KE.SortData
import KE.DataCmp
import KE.DataFind
import PyProof.NeKinds
import HandS.IsInst
import HandS.WordsDict
import HandS.Iter
import HandS.Zip
import HandS.Rev
import HandS.NoneIn
import PyProof.MaxThree
import KE.GoesNew
import PyProof.ReprRoads
import PyProof.ReprLen
import PyProof.CallFns
import PyProof.Rows.ReprOcc
import KE.GoesEnum
import HandS.Style
import HandS.HeadEnd
import HandS.HeadHook2
import HandS.HeadHook4
import HandS.Head2
import PyProof.P3Eq
import PySem.Challenge.RW_nigh_k04_whole_nearest_and_farthest
set_option Elab.async false
set_option linter.all false
set_option maxRecDepth 100000
set_option maxHeartbeats 0
/-! Ng0: a def's promise that is told only where no repr runs (so that repr may be called in it). -/
namespace Nd
open PySem PySem.Spec PyProof.Rows L2
/-- a def's promise, no repr running around the call -/
structure FnG (P : Program) (w : World) (K : PySem.W.Frag) (mg : Str → Option Value) (base : Heap) (ct : CXT) (k : Nat) (f : Addr) (fd : FuncData) (ps : List Str) (sp : Sp) : Prop where
  len : ∀ vs H Q E, sp vs H Q E → vs.length = ps.length
  go : ∀ A : Around, A.guards = some [] → Room k A → ∀ (outer : List Env) (s : Shared) (H : Hp) (args : Args) (us : List Value) (vs : List V) (Q : VK) (E : XK),
    Env0 P w K mg base A outer s H → BindsTo s fd args (ps.zip us) → Vals vs us → sp vs H Q E → codeAny (model P w) A (.call (.ref f) args) (CR ct outer P w H s Q E) s
section
variable {P : Program} {w : World} {K : PySem.W.Frag} {mg : Str → Option Value} {base : Heap} {ct : CXT} {k : Nat} {f : Addr} {fd : FuncData} {N ps : List Str} {sp : Sp}
theorem FnG.up {j : Nat} (F : FnG P w K mg base ct j f fd ps sp) (h : j ≤ k) : FnG P w K mg base ct k f fd ps sp := ⟨F.len, fun A g r => F.go A g (r.mono h)⟩
/-- of a def without defaults -/
theorem fnG_of {nm qual : Str} {params : Arguments} {body : List Stmt} {scope : Scope} {dv : List V} {kw : List (Str × V)} (D : FunD K nm qual params body scope dv kw f fd) (S : FnScope N ps scope) (len : ∀ vs H Q E, sp vs H Q E → vs.length = ps.length)
    (hb : ∀ (cd : Value) (A : Around), A.guards = some [] → ∀ (outer : List Env) (s : Shared) (H : Hp) (vs : List V) (Q : VK) (E : XK), Room k (A.deeper (envOfC qual scope s.heap.objs.size f cd)) → sp vs H Q E →
      ∃ t, PSs (cxOf ct P w K mg base N qual scope f cd A outer s H E) body t ∧ t { nx := fun _ h => Q .non h, rt := Q } (start N vs) H) : FnG P w K mg base ct (k + 1) f fd ps sp := by
  obtain ⟨oc, od, dV, kV, doc, pm, an, cd, c9, osl, rfl, lk, hcd, -, -⟩ := D.ex
  refine ⟨len, fun A hg hr outer s H args us vs Q E e0 bt rv hsp => ?_⟩
  have hl := len _ _ _ _ hsp
  have kIn : K.In s.heap := e0.mod.kin.keeps fun b o e => (e0.bs b o e).1
  have noL : s.heap.NoLimit := e0.mod.nolimit.keeps fun b o e => (e0.bs b o e).1
  have names : ∀ y ∈ ps.zip us, scope.names.lookup y.1 = some .local ∨ (scope.names.lookup y.1 = some .cell ∧ ((cellsFrom (s.heap.objs.size + 1) scope.names []).lookup y.1).isSome = true) := by
    rintro ⟨n, v⟩ hy
    rcases S.par n (List.of_mem_zip hy).1 with z | z
    · exact Or.inl z
    · exact Or.inr ⟨z, PySem.W.cellsFrom_some _ _ _ (Or.inl z)⟩
  obtain ⟨t, ht, hq⟩ := hb cd A hg outer s H vs Q E (hr.deeper _) hsp
  refine codeAny_call_function hr.depth (kIn _ _ lk) rfl S.co S.gen rfl (PySem.W.codeRec_of kIn hcd) (bt _ _ _ _ (wpAny_newFunctionEnv_cells S.kind names fun env he s1 x => ?_))
  subst he
  refine ⟨noL.keeps x.toInCall.keep, codeAny_func ?_⟩
  have I : Inv (cxOf ct P w K mg base N qual scope f cd A outer s H E) [] (L2.start N vs) H s1 := inv_start S hr.hd e0 hl rv x
  refine wpAny_mono (ht.run [] s1 (start N vs) H _ I hq) (fun fl s2 z => ?_) fun _ _ z => z
  match fl, z with
  | .ret u, ⟨v, σ2, H2, J, r2, q2⟩ => exact ⟨v, H2, J.os, J.bare, J.base, J.hok, r2, q2⟩
  | .next, ⟨σ2, H2, J, q2⟩ => exact ⟨.non, H2, J.os, J.bare, J.base, J.hok, rfl, q2⟩
  | .brk, ⟨_, _, _, q2⟩ => exact q2.elim
  | .cont, ⟨_, _, _, q2⟩ => exact q2.elim
end
section
variable {X : Cx} {ct : CXT} {k : Nat} {f : Addr} {fd : FuncData} {ps : List Str} {sp : Sp} {ex : L2.St → XK}
/-- such a call -/
theorem run_fnG {pins : List (Addr × Obj)} {σ : L2.St} {H : Hp} {s : Shared} {Q : VK} {us : List Value} {vs : List V} (F : FnG X.prog X.w X.K X.mg X.base ct k f fd ps sp) (hg : X.A.guards = some []) (hr : Room k X.A) (hb : Binds X.K fd ps []) (hx : PassesAt ct X σ (ex σ))
    (I : Inv X pins σ H s) (r : Vals vs us) (h : sp vs H Q (ex σ)) : wpAny (model X.prog X.w) X.A (call (.ref f) us) (EP X pins σ Q) X.xe s := by
  have hl : us.length = ps.length := r.length.symm.trans (F.len _ _ _ _ h)
  have bt := hb s us I.kIn (by simpa using hl)
  rw [List.append_nil] at bt
  refine wpAny_call (codeAny_mono (F.go X.A hg hr X.stack s H ⟨us, []⟩ us vs Q (ex σ) I.env0 bt r h) fun z s2 hz => ?_)
  match z, hz with
  | .error e, hz => exact hx pins H s e s2 I hz
  | .ok (.ret u), hz => exact I.after hz
  | .ok .next, hz => exact hz.elim
  | .ok .brk, hz => exact hz.elim
  | .ok .cont, hz => exact hz.elim
def tCallG (sp : Sp) (ex : L2.St → XK) (t : TA) : TE := fun σ H Q => t σ H fun vs H1 => sp vs H1 Q (ex σ)
/-- f(e, ..) by its name -/
theorem pe_callG {x : Str} {p pos : Pos} {e : Expr} {es : List Expr} {t : TA} (F : FnG X.prog X.w X.K X.mg X.base ct k f fd ps sp) (hgd : X.A.guards = some []) (hr : Room k X.A) (hg : Gl X x) (hm : X.mg x = some (.ref f)) (hk : PySem.W.keepIn X.K (.ref f) = true) (hb : Binds X.K fd ps [])
    (hx : ∀ σ, PassesAt ct X σ (ex σ)) (ha : PA X (e :: es) t) (hdb : (x == ("__debug__" : Str)) = false) (he : starEach (e :: es) X.env = (false, eval e X.env) :: starEach es X.env) (hpl : (backTo pos (starEach es X.env)).any (·.1) = false) :
    PE X (.Call (.Name x p) (e :: es) [] pos) (tCallG sp ex t) :=
  ⟨fun pins s σ H Q I h => wpAny_Call_Name_kw (ld_glob I hg hm (PySem.W.callWith_K (h₀ := X.base) I.ok.mod.kin hk
    (thn (ha.run pos pins s σ H _ I h) fun us s1 ⟨vs, H1, I1, r, q⟩ => ⟨I1.kIn, run_fnG F hgd hr hb (hx σ) I1 r q⟩) he hpl) hdb)⟩
end
/-- the law's call: the script is a list that stays as it is -/
theorem lawG {P : Program} {w : World} {K : PySem.W.Frag} {mg mb : Str → Option Value} {ct : CXT} {k : Nat} {fa a : Addr} {fd : FuncData} {x : Str} {sp : Sp} {t : Shared} {vs : List Value} {ns : List Int}
    (kin : K.In t.heap) (g1 : t.heap.Ns mainGlobals mg) (g2 : t.heap.Ns builtinsNs mb) (g3 : ∀ x : Str, x ≠ "__name__" → mb x = bootBuiltins x) (g4 : t.heap.NoLimit) (g5 : t.gens = #[])
    (at_ : t.heap.get? a = some { cls := .type "list", data := .seq vs.toArray }) (hi : IntsAre vs ns) (hl : ns.length ≤ sizeLine) (hr : Room k callerA)
    (F : ∀ base : Heap, K.In base → base.Ns mainGlobals mg → FnG P w K mg base ct k fa fd [x] sp) (hb : ∀ (s : Shared) (u : Value), BindsTo s fd ⟨[u], []⟩ [(x, u)])
    (hsp : ∀ H : Hp, Only H → SqL K H a (ns.map V.int) → sp [.ref a] H (fun v _ => v = .bl true) fun _ _ _ => False)
    (hct : ∀ H e s', ct [] H t (fun _ _ _ => False) e s' → False) :
    codeAny (model P w) callerA (.call (.ref fa) ⟨[.ref a], []⟩) (fun r s' => r = .ok (.ret (.bool true)) ∧ OldK t.heap s'.heap ∧ s'.os = t.os ∧ AllBare s'.gens) t := by
  have rv := vals_ints hi
  have key : ∀ H : Hp, Only H → SqL K H a (ns.map V.int) → HOk P w H t.heap → (∀ b, b ≠ a → H b = none) → (H a = none ∨ K.lookup a = none) →
      codeAny (model P w) callerA (.call (.ref fa) ⟨[.ref a], []⟩) (fun r s' => r = .ok (.ret (.bool true)) ∧ OldK t.heap s'.heap ∧ s'.os = t.os ∧ AllBare s'.gens) t := by
    intro H only hS hok off ka
    have dicts : ∀ {b : Addr} {o : Obj} {es : Array DictEntry} {n : Nat}, t.heap.get? b = some o → o.data = .dict es n → H b = none := by
      intro b o es n e d
      refine off b fun z => ?_
      rw [z, at_] at e
      have d2 := congrArg Obj.data (Option.some.inj e)
      rw [d] at d2
      exact nomatch d2
    have hid : ∀ {b : Addr} {o : Obj}, t.heap.get? b = some o → H b = none → (hidT t.heap H).get? b = some o := fun e n => hidT_get e n
    have spaces : ∀ {b : Addr} {m : Str → Option Value}, t.heap.Ns b m → (hidT t.heap H).Ns b m := by
      rintro b m ⟨o, es, ep, e, d, r⟩
      exact ⟨o, es, ep, hid e (dicts e d), d, r⟩
    have kin2 : K.In (hidT t.heap H) := by
      intro b o e
      refine hid (kin b o e) ?_
      by_cases ba : b = a
      · rcases ka with z | z
        · rw [ba]; exact z
        · rw [ba, z] at e; exact nomatch e
      · exact off b ba
    have md : Mod K mg (hidT t.heap H) := ⟨kin2, spaces g1, ⟨mb, spaces g2, g3⟩, let ⟨mc, z1, z2⟩ := g4; ⟨mc, spaces z1, z2⟩⟩
    have env : Env0 P w K mg (hidT t.heap H) callerA [] t H :=
      { frames := rfl, mod := md, bs := fun b o e => of_hidT e, bsz := Nat.le_of_eq (hidT_size _ _), funs := trivial, frf := fun b z => (nomatch z), hok := hok, bare := .of_eq g5 }
    refine codeAny_mono ((F _ kin2 (spaces g1)).go callerA rfl hr [] t H ⟨[.ref a], []⟩ [.ref a] [.ref a] _ _ env (hb t (.ref a)) (.cons rfl .nil) (hsp H only hS)) fun r s' z => ?_
    match r, z with
    | .error e, z => exact (hct H e s' z).elim
    | .ok (.ret u), ⟨v, H2, os, bare, un, hok2, r2, q2⟩ =>
      have q2 : v = .bl true := q2
      subst q2
      have r2 : u = Value.bool true := r2
      subst r2
      refine ⟨rfl, OldK.of_keep fun b o e => ?_, os, bare⟩
      cases hb2 : H b with
      | none => exact un.keep b o e hb2 (fun z => nomatch z) (fun z => nomatch z)
      | some u =>
        rcases only b with z | ⟨ob, xs, z⟩
        · rw [hb2] at z; exact nomatch z
        · obtain ⟨e1, _⟩ := hok b _ z
          obtain ⟨e2, _⟩ := hok2 b _ (un.frzs b ob _ z)
          rw [e] at e1
          rw [Option.some.inj e1]
          exact e2
    | .ok .next, z => exact z.elim
    | .ok .brk, z => exact z.elim
    | .ok .cont, z => exact z.elim
  cases hk : K.lookup a with
  | some o =>
    have e := kin a o hk
    rw [at_] at e
    cases e
    refine key (fun _ => none) (fun _ => .inl rfl) (.inr ⟨_, vs.toArray, _, hk, rfl, rfl, rfl, ?_, ?_⟩) ?_ (fun _ _ => rfl) (.inl rfl)
    · have := hi.length
      rw [List.size_toArray]
      omega
    · simpa using rv
    · intro b u z
      exact nomatch (show (none : Option HO) = some u from z)
  | none =>
    let o1 : Obj := { cls := .type "list", data := .seq vs.toArray }
    let H1 : Hp := fun b => if b = a then some (.frz o1 (.lst (ns.map V.int))) else none
    have h1 : H1 a = some (.frz o1 (.lst (ns.map V.int))) := if_pos rfl
    have h2 : ∀ b, b ≠ a → H1 b = none := fun b z => if_neg z
    refine key H1 (fun b => ?_) (.inl (.inr ⟨o1, h1⟩)) (fun b u z => ?_) h2 (.inr hk)
    · by_cases z : b = a
      · subst z; exact .inr ⟨_, _, h1⟩
      · exact .inl (h2 b z)
    · by_cases e : b = a
      · subst e
        rw [h1] at z
        cases z
        exact ⟨at_, by rw [List.length_map]; exact hl, vs, _, rv, at_⟩
      · rw [h2 b e] at z
        exact nomatch z
end Nd
/-! Nd1: data D with tuples as values, the heap of mutable things, how both lie over the hand layer's V and Hp, and the lifts. -/
namespace Nd
open PySem PySem.Spec PyProof.Rows L2
/-- a value: tuples are values, mutable things are addresses, the program's own functions and classes are numbers -/
inductive D where
  | non | bl (b : Bool) | int (i : Int) | str (s : Str) | tup (xs : List D) | ref (a : Addr) | ty (n : String) | glo (g : Nat) | exc (c : Nat) (a : Addr) | kls (xs : List D)
/-- a text that may stand in data -/
def StrG (s : Str) : Prop := s.length ≤ sizeLine ∧ PyData.strOk s = true
/-- what stands at an address -/
inductive MO where
  | lst (xs : List D) | dic (kvs : List (Key × D)) | ins (c : Nat) (fs : List (Str × D))
/-- a caught error, of the class cls, at a -/
def ExC (cls : Value) (a : Addr) : HO := .ext fun h => ∃ (oe : Obj) (vs : Array Value), h.get? a = some oe ∧ Zc cls none oe ∧ oe.data = .fields vs
abbrev HD := Addr → Option MO
def hup (H : HD) (a : Addr) (o : MO) : HD := fun b => if b = a then some o else H b
theorem hup_same {H : HD} {a : Addr} {o : MO} : hup H a o a = some o := by unfold hup; rw [if_pos rfl]
theorem hup_ne {H : HD} {a b : Addr} {o : MO} (h : b ≠ a) : hup H a o b = H b := by unfold hup; rw [if_neg h]
/-- all of the one stands in the other -/
def Sub (H H' : HD) : Prop := ∀ a o, H a = some o → H' a = some o
theorem Sub.refl {H : HD} : Sub H H := fun _ _ h => h
theorem Sub.trans {H H1 H2 : HD} (a : Sub H H1) (b : Sub H1 H2) : Sub H H2 := fun x o h => b x o (a x o h)
theorem Sub.hup {H : HD} {p : Addr} {o : MO} (h : H p = none) : Sub H (hup H p o) := fun a u e => by
  rw [hup_ne (fun z => by rw [z, h] at e; cases e)]; exact e
abbrev Sl := List (Option D)
abbrev VQ := D → HD → Prop
abbrev XQ := Nat → HD → Prop
section
variable (K : PySem.W.Frag) (G : Nat → Addr)
/-- a tuple that is read: tracked, or the module's own -/
def TupAt (H : Hp) (a : Addr) (xs : List V) : Prop :=
  H a = some (.tup xs) ∨ ∃ (o : Obj) (its : Array Value) (n : Nat), K.lookup a = some o ∧ o.cls = .type "tuple" ∧ o.data = .seq its n ∧ its.size ≤ sizeLine ∧ Vals xs its.toList
/-- a list that stays as it is: known to the object, or the module's own -/
def KlsAt (H : Hp) (a : Addr) (xs : List V) : Prop := (∃ o, H a = some (.frz o (.lst xs))) ∨
    ∃ (o : Obj) (its : Array Value) (n : Nat), K.lookup a = some o ∧ o.cls = .type "list" ∧ o.dict = none ∧ o.data = .seq its n ∧ its.size ≤ sizeLine ∧ Vals xs its.toList
mutual
inductive RD (H : Hp) : D → V → Prop
  | non : RD H .non .non
  | bl (b : Bool) : RD H (.bl b) (.bl b)
  | int (i : Int) : RD H (.int i) (.int i)
  | str (s : Str) : StrG s → RD H (.str s) (.str s)
  | tup {a : Addr} {xs : List V} {ds : List D} : TupAt K H a xs → ds.length ≤ sizeLine → RDs H ds xs → RD H (.tup ds) (.ref a)
  | ref (a : Addr) : RD H (.ref a) (.ref a)
  | ty (n : String) : RD H (.ty n) (.ty n)
  | glo (g : Nat) : RD H (.glo g) (.ref (G g))
  | exc {c : Nat} {a : Addr} : H a = some (ExC (.ref (G c)) a) → RD H (.exc c a) (.ref a)
  | kls {a : Addr} {xs : List V} {ds : List D} : KlsAt K H a xs → ds.length ≤ sizeLine → RDs H ds xs → RD H (.kls ds) (.ref a)
inductive RDs (H : Hp) : List D → List V → Prop
  | nil : RDs H [] []
  | cons {d : D} {v : V} {ds : List D} {vs : List V} : RD H d v → RDs H ds vs → RDs H (d :: ds) (v :: vs)
end
/-- things that never change -/
def Imm : HO → Prop
  | .tup _ => True
  | .ext _ => True
  | .frz _ (.lst _) => True
  | _ => False
def Ext (H H' : Hp) : Prop := ∀ a o, H a = some o → Imm o → H' a = some o
theorem Ext.refl {H : Hp} : Ext H H := fun _ _ h _ => h
theorem Ext.trans {H H1 H2 : Hp} (a : Ext H H1) (b : Ext H1 H2) : Ext H H2 := fun x o h i => b x o (a x o h i) i
theorem Ext.new {H : Hp} {p : Addr} {o : HO} (h : H p = none) : Ext H (upd H p o) := fun a u e _ => by
  rw [upd_ne (ne_of_none e h)]; exact e
theorem Ext.wr {H : Hp} {p : Addr} {o u : HO} (h : H p = some u) (n : ¬ Imm u) : Ext H (upd H p o) := fun a w e i => by
  by_cases q : a = p
  · subst q; rw [h] at e; cases e; exact absurd i n
  · rw [upd_ne q]; exact e
variable {K G} {H H' : Hp}
theorem TupAt.ext {a : Addr} {xs : List V} (h : TupAt K H a xs) (e : Ext H H') : TupAt K H' a xs := by
  rcases h with h | h
  · exact .inl (e a _ h trivial)
  · exact .inr h
theorem TupAt.sq {a : Addr} {xs : List V} (h : TupAt K H a xs) : SqT K H a xs := by
  rcases h with h | h
  · exact .inl (.inl h)
  · exact .inr h
theorem KlsAt.ext {a : Addr} {xs : List V} (h : KlsAt K H a xs) (e : Ext H H') : KlsAt K H' a xs := by
  rcases h with ⟨o, h⟩ | h
  · exact .inl ⟨o, e a _ h trivial⟩
  · exact .inr h
theorem KlsAt.sq {a : Addr} {xs : List V} (h : KlsAt K H a xs) : SqL K H a xs := by
  rcases h with ⟨o, h⟩ | h
  · exact .inl (.inr ⟨o, h⟩)
  · exact .inr h
mutual
theorem RD.ext (e : Ext H H') : ∀ {d : D} {v : V}, RD K G H d v → RD K G H' d v
  | _, _, .non => .non
  | _, _, .bl b => .bl b
  | _, _, .int i => .int i
  | _, _, .str s h => .str s h
  | _, _, .tup h l r => .tup (h.ext e) l (RDs.ext e r)
  | _, _, .ref a => .ref a
  | _, _, .ty n => .ty n
  | _, _, .glo g => .glo g
  | _, _, .exc h => .exc (e _ _ h trivial)
  | _, _, .kls h l r => .kls (h.ext e) l (RDs.ext e r)
theorem RDs.ext (e : Ext H H') : ∀ {ds : List D} {vs : List V}, RDs K G H ds vs → RDs K G H' ds vs
  | _, _, .nil => .nil
  | _, _, .cons h t => .cons (RD.ext e h) (RDs.ext e t)
end
theorem RDs.len : ∀ {ds : List D} {vs : List V}, RDs K G H ds vs → ds.length = vs.length
  | _, _, .nil => rfl
  | _, _, .cons _ t => by rw [List.length_cons, List.length_cons, RDs.len t]
theorem RDs.app : ∀ {ds es : List D} {vs ws : List V}, RDs K G H ds vs → RDs K G H es ws → RDs K G H (ds ++ es) (vs ++ ws)
  | _, _, _, _, .nil, q => q
  | _, _, _, _, .cons h t, q => .cons h (RDs.app t q)
theorem RDs.snoc {ds : List D} {vs : List V} {d : D} {v : V} (h : RDs K G H ds vs) (q : RD K G H d v) : RDs K G H (ds ++ [d]) (vs ++ [v]) := h.app (.cons q .nil)
theorem RDs.get : ∀ {ds : List D} {vs : List V} {i : Nat} {d : D}, RDs K G H ds vs → ds[i]? = some d → ∃ v, vs[i]? = some v ∧ RD K G H d v
  | _, _, i, d, .nil, e => by simp at e
  | _, _, 0, d, .cons h t, e => by simp at e; subst e; exact ⟨_, rfl, h⟩
  | _, _, i + 1, d, .cons h t, e => by
    obtain ⟨v, h1, h2⟩ := RDs.get (i := i) (d := d) t (by simpa using e)
    exact ⟨v, by simpa using h1, h2⟩
theorem RDs.get' : ∀ {ds : List D} {vs : List V} {i : Nat} {v : V}, RDs K G H ds vs → vs[i]? = some v → ∃ d, ds[i]? = some d ∧ RD K G H d v
  | _, _, i, d, .nil, e => by simp at e
  | _, _, 0, d, .cons h t, e => by simp at e; subst e; exact ⟨_, rfl, h⟩
  | _, _, i + 1, d, .cons h t, e => by
    obtain ⟨v, h1, h2⟩ := RDs.get' (i := i) (v := d) t (by simpa using e)
    exact ⟨v, by simpa using h1, h2⟩
theorem RDs.take : ∀ {ds : List D} {vs : List V} (n : Nat), RDs K G H ds vs → RDs K G H (ds.take n) (vs.take n)
  | _, _, 0, _ => .nil
  | _, _, _ + 1, .nil => .nil
  | _, _, n + 1, .cons h t => .cons h (RDs.take n t)
theorem RDs.drop : ∀ {ds : List D} {vs : List V} (n : Nat), RDs K G H ds vs → RDs K G H (ds.drop n) (vs.drop n)
  | _, _, 0, h => h
  | _, _, _ + 1, .nil => .nil
  | _, _, n + 1, .cons h t => RDs.drop n t
theorem RDs.set : ∀ {ds : List D} {vs : List V} {d : D} {v : V} (n : Nat), RDs K G H ds vs → RD K G H d v → RDs K G H (ds.set n d) (vs.set n v)
  | _, _, _, _, _, .nil, _ => .nil
  | _, _, _, _, 0, .cons _ t, q => .cons q t
  | _, _, _, _, n + 1, .cons h t, q => .cons h (RDs.set n t q)
theorem RDs.rev : ∀ {ds : List D} {vs : List V}, RDs K G H ds vs → RDs K G H ds.reverse vs.reverse
  | _, _, .nil => .nil
  | _, _, .cons h t => by rw [List.reverse_cons, List.reverse_cons]; exact (RDs.rev t).snoc h
theorem RDs.rep (n : Nat) {d : D} {v : V} (q : RD K G H d v) : RDs K G H (List.replicate n d) (List.replicate n v) := by
  induction n with
  | zero => exact .nil
  | succ n ih => rw [List.replicate_succ, List.replicate_succ]; exact .cons q ih
variable (K G)
def RK {κ : Type} (H : Hp) : List (κ × D) → List (κ × V) → Prop := Paired fun p q => p.1 = q.1 ∧ RD K G H p.2 q.2
variable {K G}
theorem RK.ext {κ : Type} (e : Ext H H') {ds : List (κ × D)} {vs : List (κ × V)} (h : RK K G H ds vs) : RK K G H' ds vs := Paired.mapP h fun _ _ z => ⟨z.1, z.2.ext e⟩
variable (K G)
def RM (H : Hp) (a : Addr) : MO → Prop
  | .lst ds => ∃ xs, H a = some (.lst xs) ∧ ds.length ≤ sizeLine ∧ RDs K G H ds xs
  | .dic kvs => ∃ vs, H a = some (.dK vs) ∧ kvs.length ≤ sizeLine ∧ RK K G H kvs vs
  | .ins c fs => ∃ dx gs, H a = some (.ins (G c) dx gs) ∧ RK K G H fs gs
def RH (H : Hp) (h : HD) : Prop := ∀ a m, h a = some m → RM K G H a m
variable {K G}
/-- the same, other things kept -/
theorem RM.ext (e : Ext H H') {a : Addr} {m : MO} (s : H' a = H a) (h : RM K G H a m) : RM K G H' a m := by
  cases m with
  | lst ds => obtain ⟨xs, h1, h2, h3⟩ := h; exact ⟨xs, s.trans h1, h2, h3.ext e⟩
  | dic kvs => obtain ⟨vs, h1, h2, h3⟩ := h; exact ⟨vs, s.trans h1, h2, h3.ext e⟩
  | ins c fs => obtain ⟨dx, gs, h1, h2⟩ := h; exact ⟨dx, gs, s.trans h1, h2.ext e⟩
theorem RM.there {a : Addr} {m : MO} (h : RM K G H a m) : ∃ o, H a = some o ∧ ¬ Imm o := by
  cases m with
  | lst ds => obtain ⟨xs, h1, _⟩ := h; exact ⟨_, h1, fun z => z⟩
  | dic kvs => obtain ⟨vs, h1, _⟩ := h; exact ⟨_, h1, fun z => z⟩
  | ins c fs => obtain ⟨dx, gs, h1, _⟩ := h; exact ⟨_, h1, fun z => z⟩
variable {h h' : HD}
theorem RH.none_of (r : RH K G H h) {p : Addr} (e : H p = none) : h p = none := by
  cases q : h p with
  | none => rfl
  | some m =>
    obtain ⟨o, z, _⟩ := (r p m q).there
    rw [z] at e; cases e
theorem RH.sub (r : RH K G H h) (s : Sub h' h) : RH K G H h' := fun a m e => r a m (s a m e)
/-- a new thing that isn't told -/
theorem RH.hid (r : RH K G H h) {p : Addr} {o : HO} (e : H p = none) : RH K G (upd H p o) h := fun a m z => by
  obtain ⟨u, hu, _⟩ := (r a m z).there
  exact (r a m z).ext (Ext.new e) (upd_ne (ne_of_none hu e))
/-- a store to a thing that isn't told -/
theorem RH.hidw (r : RH K G H h) {p : Addr} {o u : HO} (e : H p = some u) (n : ¬ Imm u) (q : h p = none) : RH K G (upd H p o) h := fun a m z => by
  have ne : a ≠ p := fun w => by subst w; rw [q] at z; cases z
  exact (r a m z).ext (Ext.wr e n) (upd_ne ne)
/-- a new thing -/
theorem RH.new (r : RH K G H h) {p : Addr} {o : HO} {m : MO} (e : H p = none) (q : RM K G (upd H p o) p m) : RH K G (upd H p o) (hup h p m) := fun a m' z => by
  by_cases ap : a = p
  · subst ap; rw [hup_same] at z; cases z; exact q
  · rw [hup_ne ap] at z; exact r.hid e a m' z
/-- a store -/
theorem RH.wr (r : RH K G H h) {p : Addr} {o u : HO} {m : MO} (e : H p = some u) (n : ¬ Imm u) (q : RM K G (upd H p o) p m) : RH K G (upd H p o) (hup h p m) := fun a m' z => by
  by_cases ap : a = p
  · subst ap; rw [hup_same] at z; cases z; exact q
  · rw [hup_ne ap] at z; exact (r a m' z).ext (Ext.wr e n) (upd_ne ap)
theorem RH.newL (r : RH K G H h) {p : Addr} {xs : List V} {ds : List D} (e : H p = none) (l : ds.length ≤ sizeLine) (q : RDs K G H ds xs) : RH K G (upd H p (.lst xs)) (hup h p (.lst ds)) :=
  r.new e ⟨xs, upd_same, l, q.ext (Ext.new e)⟩
theorem RH.wrL (r : RH K G H h) {p : Addr} {xs : List V} {ds : List D} {u : HO} (e : H p = some u) (n : ¬ Imm u) (l : ds.length ≤ sizeLine) (q : RDs K G H ds xs) : RH K G (upd H p (.lst xs)) (hup h p (.lst ds)) :=
  r.wr e n ⟨xs, upd_same, l, q.ext (Ext.wr e n)⟩
/-! ### slots -/
variable (K G)
def RS (H : Hp) : Sl → L2.St → Prop := Paired fun d v => ∀ x, d = some x → ∃ y, v = some y ∧ RD K G H x y
variable {K G}
theorem RS.ext (e : Ext H H') {a : Sl} {b : L2.St} (h : RS K G H a b) : RS K G H' a b := Paired.mapP h fun _ _ z x q => let ⟨y, e1, e2⟩ := z x q; ⟨y, e1, e2.ext e⟩
theorem RS.get : ∀ {a : Sl} {b : L2.St} {i : Nat} {d : D}, RS K G H a b → a[i]? = some (some d) → ∃ v, b[i]? = some (some v) ∧ RD K G H d v
  | _, _, i, d, .nil, e => by simp at e
  | _, _, 0, d, .cons h t, e => by
    simp at e
    obtain ⟨y, e1, e2⟩ := h d e
    exact ⟨y, by simp [e1], e2⟩
  | _, _, i + 1, d, .cons h t, e => by
    obtain ⟨v, h1, h2⟩ := RS.get (i := i) (d := d) t (by simpa using e)
    exact ⟨v, by simpa using h1, h2⟩
theorem RS.set : ∀ {a : Sl} {b : L2.St} {d : D} {v : V} (i : Nat), RS K G H a b → RD K G H d v → RS K G H (a.set i (some d)) (b.set i (some v))
  | _, _, _, _, _, .nil, _ => .nil
  | _, _, _, _, 0, .cons _ t, q => .cons (fun x e => by cases e; exact ⟨_, rfl, q⟩) t
  | _, _, _, _, n + 1, .cons h t, q => .cons h (RS.set n t q)
theorem RS.clr : ∀ {a : Sl} {b : L2.St} (i : Nat), RS K G H a b → RS K G H (a.set i none) (b.set i none)
  | _, _, _, .nil => .nil
  | _, _, 0, .cons _ t => .cons (fun x e => by cases e) t
  | _, _, n + 1, .cons h t => .cons h (RS.clr n t)
theorem RS.wipe {a : Sl} {b : L2.St} (h : RS K G H a b) : ∀ l : List Nat, ∃ c : Sl, RS K G H c (L2.wipe b l) ∧ c = l.foldr (fun i z => z.set i none) a
  | [] => ⟨a, h, rfl⟩
  | i :: l => by
    obtain ⟨c, h1, rfl⟩ := RS.wipe h l
    exact ⟨_, h1.clr i, rfl⟩
end
end Nd
/-! Ne3: a tuple once. -/
namespace Nd
open PySem PySem.Spec PyProof.Rows L2
theorem tuple_once (l : Addr) (items : Array Value) (n : Nat) (dd : Option Addr) (sl : Array (Option Value)) (u : Tok) :
    Meets (Builtin.«tuple.__mul__» ⟨[.ref l, .int 1 u], []⟩) (fun _ R s => s.heap.get? l = some { cls := .type "tuple", dict := dd, data := .seq items n, slots := sl } ∧ R (.ok (.ret (Value.ref l))) s) :=
  .of_wp fun prog w A R s h => by
    obtain ⟨hp, g, d, tk, os⟩ := s
    obtain ⟨hl, h⟩ := h
    have f1 := AutoSeq1.idx_int
    wp_walk using wpAny_loadPart' hl
    exact ⟨_, rfl, h⟩
section
variable {X : Cx}
theorem op_once : OpR X (binaryOp .Mult) (fun x y H Q => ∃ l xs, x = .ref l ∧ y = .int 1 ∧ SqT X.K H l xs ∧ Q (.ref l) H) := by
  intro pins s σ H x y v u Q I rx ry ⟨l, xs, e1, e2, hT, q⟩
  subst e1 e2
  cases rx
  obtain ⟨t, rfl⟩ := ry
  obtain ⟨its, r, ⟨⟨cls, dd, data, sl⟩, ho, hc, n, hd⟩, hs⟩ := I.tuple hT
  dsimp only at hc hd
  subst hc hd
  exact wpAny_binaryOp_repeat_ref (T := "tuple") (U := "int") (by decide) ⟨_, ho, rfl⟩ (fun s' => typeIs_int s' 1 t) noFill_tuple_mul F.fills_int_mul F.slot_int_rmul repeat_tuple F.slot_int_index.lookup
    (call_meets F.slot_int_rmul (typeIs_int s 1 t) F.entry_int_rmul (F.args_int_rmul_2 _ _) (int_rmul_tuple 1 t l its.toArray n dd sl)
      ⟨ho, rfl, ⟨_, ho, rfl⟩, call_meets F.slot_tuple_mul ⟨_, ho, rfl⟩ F.entry_tuple_mul (F.args_tuple_mul_2 _ _) (tuple_once l its.toArray n dd sl t) ⟨ho, ⟨.ref l, H, I, rfl, q⟩⟩⟩)
end
end Nd
/-! Nd2: the lifts, and operators on data. -/
namespace Nd
open PySem PySem.Spec PyProof.Rows L2
abbrev TED := Sl → HD → VQ → XQ → Prop
abbrev TTD := Sl → HD → (Bool → HD → Prop) → XQ → Prop
abbrev TAD := Sl → HD → (List D → HD → Prop) → XQ → Prop
abbrev OpD := D → D → HD → VQ → Prop
/-- what code may have changed: what never changes and what isn't told stands as it stood; what is told anew is new -/
structure Fx (H : Hp) (h : HD) (H' : Hp) (h' : HD) : Prop where
  st : ∀ a o, H a = some o → (h a = none ∨ Imm o) → H' a = some o
  nw : ∀ a, H a ≠ none → h a = none → h' a = none
  dm : ∀ a, H a ≠ none → H' a ≠ none
theorem Fx.refl {H : Hp} {h : HD} : Fx H h H h := ⟨fun _ _ e _ => e, fun _ _ e => e, fun _ e => e⟩
theorem Fx.trans {H H1 H2 : Hp} {h h1 h2 : HD} (a : Fx H h H1 h1) (b : Fx H1 h1 H2 h2) : Fx H h H2 h2 where
  st := fun x o e c => b.st x o (a.st x o e c) (c.elim (fun z => .inl (a.nw x (by rw [e]; exact fun q => nomatch q) z)) .inr)
  nw := fun x e z => b.nw x (a.dm x e) (a.nw x e z)
  dm := fun x e => b.dm x (a.dm x e)
theorem Fx.ext {H H' : Hp} {h h' : HD} (a : Fx H h H' h') : Ext H H' := fun x o e i => a.st x o e (.inr i)
theorem upd_dm {H : Hp} {p a : Addr} {o : HO} (e : H a ≠ none) : upd H p o a ≠ none := by
  by_cases q : a = p
  · subst q; rw [upd_same]; exact fun z => nomatch z
  · rw [upd_ne q]; exact e
theorem Fx.new {H : Hp} {h : HD} {p : Addr} {o : HO} (e : H p = none) : Fx H h (upd H p o) h := ⟨fun a u q _ => by rw [upd_ne (ne_of_none q e)]; exact q, fun _ _ z => z, fun _ z => upd_dm z⟩
theorem Fx.newM {H : Hp} {h : HD} {p : Addr} {o : HO} {m : MO} (e : H p = none) : Fx H h (upd H p o) (hup h p m) :=
  ⟨fun a u q _ => by rw [upd_ne (ne_of_none q e)]; exact q, fun a q z => by
    have ne : a ≠ p := fun w => by subst w; exact q e
    rw [hup_ne ne]; exact z, fun _ z => upd_dm z⟩
theorem Fx.wr {H : Hp} {h : HD} {p : Addr} {o u : HO} {m m' : MO} (e : h p = some m) (e2 : H p = some u) (n : ¬ Imm u) : Fx H h (upd H p o) (hup h p m') :=
  ⟨fun a w q c => by
    have ne : a ≠ p := fun z => by
      subst z
      rcases c with c | c
      · rw [e] at c; cases c
      · rw [e2] at q; cases q; exact n c
    rw [upd_ne ne]; exact q, fun a q z => by
    have ne : a ≠ p := fun w => by subst w; rw [e] at z; cases z
    rw [hup_ne ne]; exact z, fun _ z => upd_dm z⟩
theorem Fx.sub {H : Hp} {h h' : HD} (s : Sub h' h) : Fx H h H h' where
  st := fun _ _ e _ => e
  nw := fun a _ z => by
    cases q : h' a with
    | none => rfl
    | some m => rw [s a m q] at z; cases z
  dm := fun _ z => z
/-- a store to a thing that is new and isn't told -/
theorem Fx.hidw {H H' : Hp} {h h' : HD} {p : Addr} {o : HO} (f : Fx H h H' h') (e : H p = none) : Fx H h (upd H' p o) h' :=
  ⟨fun a u q c => by rw [upd_ne (ne_of_none q e)]; exact f.st a u q c, f.nw, fun a z => upd_dm (f.dm a z)⟩
section
variable (K : PySem.W.Frag) (G : Nat → Addr)
/-- what is wanted of data is what is wanted of values -/
def Cont (H : Hp) (h : HD) (q : VQ) (Q : VK) : Prop := ∀ d h' v H', Fx H h H' h' → RD K G H' d v → RH K G H' h' → q d h' → Q v H'
def ContB (H : Hp) (h : HD) (q : Bool → HD → Prop) (Q : Bool → Hp → Prop) : Prop := ∀ b h' H', Fx H h H' h' → RH K G H' h' → q b h' → Q b H'
def ContL (H : Hp) (h : HD) (q : List D → HD → Prop) (Q : List V → Hp → Prop) : Prop := ∀ ds h' vs H', Fx H h H' h' → RDs K G H' ds vs → RH K G H' h' → q ds h' → Q vs H'
def ContX (W : WX) (σ : L2.St) (H : Hp) (h : HD) (r : XQ) : Prop := ∀ c h' H', Fx H h H' h' → RH K G H' h' → r c h' → W (.ref (G c)) none σ H'
def lift (W : WX) (t : TED) : TE := fun σ H Q => ∃ a h q r, RS K G H a σ ∧ RH K G H h ∧ t a h q r ∧ Cont K G H h q Q ∧ ContX K G W σ H h r
def liftT (W : WX) (t : TTD) : TT := fun σ H Q => ∃ a h q r, RS K G H a σ ∧ RH K G H h ∧ t a h q r ∧ ContB K G H h q Q ∧ ContX K G W σ H h r
def liftA (W : WX) (t : TAD) : TA := fun σ H Q => ∃ a h q r, RS K G H a σ ∧ RH K G H h ∧ t a h q r ∧ ContL K G H h q Q ∧ ContX K G W σ H h r
/-- an operator on data, on values -/
def lop (r : OpD) : R2 := fun x y H Q => ∃ d e h q, RD K G H d x ∧ RD K G H e y ∧ RH K G H h ∧ r d e h q ∧ Cont K G H h q Q
def lun (r : D → HD → VQ → Prop) : V → Hp → VK → Prop := fun x H Q => ∃ d h q, RD K G H d x ∧ RH K G H h ∧ r d h q ∧ Cont K G H h q Q
def lcall (r : List D → HD → VQ → Prop) : List V → Hp → VK → Prop := fun xs H Q => ∃ ds h q, RDs K G H ds xs ∧ RH K G H h ∧ r ds h q ∧ Cont K G H h q Q
variable {K G}
theorem Cont.ext {H H' : Hp} {h h' : HD} {q : VQ} {Q : VK} (k : Cont K G H h q Q) (e : Fx H h H' h') : Cont K G H' h' q Q := fun d h2 v H2 e2 => k d h2 v H2 (e.trans e2)
theorem ContB.ext {H H' : Hp} {h h' : HD} {q : Bool → HD → Prop} {Q : Bool → Hp → Prop} (k : ContB K G H h q Q) (e : Fx H h H' h') : ContB K G H' h' q Q := fun d h2 H2 e2 => k d h2 H2 (e.trans e2)
theorem ContL.ext {H H' : Hp} {h h' : HD} {q : List D → HD → Prop} {Q : List V → Hp → Prop} (k : ContL K G H h q Q) (e : Fx H h H' h') : ContL K G H' h' q Q := fun d h2 v H2 e2 => k d h2 v H2 (e.trans e2)
theorem ContX.ext {W : WX} {σ : L2.St} {H H' : Hp} {h h' : HD} {r : XQ} (k : ContX K G W σ H h r) (e : Fx H h H' h') : ContX K G W σ H' h' r := fun c h2 H2 e2 => k c h2 H2 (e.trans e2)
end
theorem PE.imp {X : Cx} {e : Expr} {t t' : TE} (h : PE X e t) (i : ∀ σ H Q, t' σ H Q → t σ H Q) : PE X e t' := ⟨fun p s σ H Q I q => h.run p s σ H Q I (i σ H Q q)⟩
theorem PT.imp {X : Cx} {e : Expr} {t t' : TT} (h : PT X e t) (i : ∀ σ H Q, t' σ H Q → t σ H Q) : PT X e t' := ⟨fun p s σ H Q I q => h.run p s σ H Q I (i σ H Q q)⟩
theorem PA.imp {X : Cx} {e : List Expr} {t t' : TA} (h : PA X e t) (i : ∀ σ H Q, t' σ H Q → t σ H Q) : PA X e t' := ⟨fun o p s σ H Q I q => h.run o p s σ H Q I (i σ H Q q)⟩
theorem OpR.imp {X : Cx} {f : Value → Value → Sem Value} {t t' : R2} (h : OpR X f t) (i : ∀ x y H Q, t' x y H Q → t x y H Q) : OpR X f t' := fun p s σ H x y v u Q I r1 r2 q => h p s σ H x y v u Q I r1 r2 (i _ _ _ _ q)
/-! ### heaps read as data -/
mutual
inductive Py (h : HD) : D → PyData → Prop
  | non : Py h .non .none
  | bl (b : Bool) : Py h (.bl b) (.bool b)
  | int (i : Int) : Py h (.int i) (.int i)
  | str (s : Str) : Py h (.str s) (.str s)
  | tup {ds : List D} {xs : List PyData} : Pys h ds xs → Py h (.tup ds) (.tuple xs)
  | lst {a : Addr} {ds : List D} {xs : List PyData} : h a = some (.lst ds) → Pys h ds xs → Py h (.ref a) (.list xs)
  | kls {ds : List D} {xs : List PyData} : Pys h ds xs → Py h (.kls ds) (.list xs)
inductive Pys (h : HD) : List D → List PyData → Prop
  | nil : Pys h [] []
  | cons {d : D} {x : PyData} {ds : List D} {xs : List PyData} : Py h d x → Pys h ds xs → Pys h (d :: ds) (x :: xs)
end
section
variable {K : PySem.W.Frag} {G : Nat → Addr} {H : Hp} {h : HD}
mutual
theorem Py.dp (rh : RH K G H h) : ∀ {d : D} {x : PyData} {v : V}, Py h d x → RD K G H d v → Dp K H v x
  | _, _, _, .non, .non => .non
  | _, _, _, .bl b, .bl _ => .bl b
  | _, _, _, .int i, .int _ => .int i
  | _, _, _, .str s, .str _ _ => .str s
  | _, _, _, .tup p, .tup t _ r => .tup t.sq (Pys.dp rh p r)
  | _, _, _, .lst e p, r => by
    cases r
    obtain ⟨xs, h1, _, h3⟩ := rh _ _ e
    exact .lst (.inl (.inl h1)) (Pys.dp rh p h3)
  | _, _, _, .kls p, .kls t _ r => .lst t.sq (Pys.dp rh p r)
theorem Pys.dp (rh : RH K G H h) : ∀ {ds : List D} {xs : List PyData} {vs : List V}, Pys h ds xs → RDs K G H ds vs → DpAll K H vs xs
  | _, _, _, .nil, .nil => .nil
  | _, _, _, .cons p ps, .cons r rs => .cons (Py.dp rh p r) (Pys.dp rh ps rs)
end
mutual
theorem Py.lay (rh : RH K G H h) : ∀ {d : D} {x : PyData} {v : V}, Py h d x → RD K G H d v → x.canLay0 = true
  | _, _, _, .non, .non => rfl
  | _, _, _, .bl b, .bl _ => rfl
  | _, _, _, .int i, .int _ => rfl
  | _, _, _, .str s, .str _ g => g.2
  | _, _, _, .tup p, .tup t _ r => Pys.lay rh p r
  | _, _, _, .lst e p, r => by
    cases r
    obtain ⟨xs, h1, _, h3⟩ := rh _ _ e
    exact Pys.lay rh p h3
  | _, _, _, .kls p, .kls t _ r => Pys.lay rh p r
theorem Pys.lay (rh : RH K G H h) : ∀ {ds : List D} {xs : List PyData} {vs : List V}, Pys h ds xs → RDs K G H ds vs → PyData.canLayAll0 xs = true
  | _, _, _, .nil, .nil => rfl
  | _, _, _, .cons p ps, .cons r rs => by
    show (_ && _) = true
    rw [Py.lay rh p r, Pys.lay rh ps rs]; rfl
end
end
/-! ### operators -/
/-- a list's or a tuple's content -/
def seqOf (h : HD) : D → Option (List D)
  | .tup xs => some xs
  | .kls xs => some xs
  | .ref a => match h a with
    | some (.lst xs) => some xs
    | _ => none
  | _ => none
def addV : OpD := fun x y h Q => match x, y with
  | .int i, .int j => Q (.int (i + j)) h
  | .str s, .str t => s.length + t.length ≤ sizeLine ∧ Q (.str (s ++ t)) h
  | .tup a, .tup b => a.length + b.length ≤ sizeLine ∧ Q (.tup (a ++ b)) h
  | .ref a, .ref b => match h a, h b with
    | some (.lst xs), some (.lst ys) => xs.length + ys.length ≤ sizeLine ∧ ∀ p, h p = none → Q (.ref p) (hup h p (.lst (xs ++ ys)))
    | _, _ => False
  | _, _ => False
def subV : OpD := fun x y h Q => match x, y with
  | .int i, .int j => Q (.int (i - j)) h
  | _, _ => False
def mulV : OpD := fun x y h Q => match x, y with
  | .int i, .int j => CMul i j ∧ Q (.int (i * j)) h
  | .tup xs, .int k => (xs ≠ [] ∧ 1 ≤ k ∧ k ≤ 1000 ∧ xs.length ≤ 1000) ∧ Q (.tup (List.replicate k.toNat xs).flatten) h
  | .ref a, .int k => match h a with
    | some (.lst xs) => (-(2 ^ 63) ≤ k ∧ k < 2 ^ 63 ∧ xs.length * k.toNat ≤ sizeLine) ∧ ∀ p, h p = none → Q (.ref p) (hup h p (.lst (List.replicate k.toNat xs).flatten))
    | _ => False
  | _, _ => False
def divV : OpD := fun x y h Q => match x, y with
  | .int i, .int j => (0 < j ∧ j < 2 ^ 64) ∧ Q (.int (i / j)) h
  | _, _ => False
def modV : OpD := fun x y h Q => match x, y with
  | .int i, .int j => 0 < j ∧ Q (.int (i % j)) h
  | _, _ => False
def powV : OpD := fun x y h Q => match x, y with
  | .int i, .int j => CPow i j ∧ Q (.int (i ^ j.toNat)) h
  | _, _ => False
/-- lists of unlike lengths -/
def lenNe (x y : D) (h : HD) (Q : VQ) : Prop := ∃ a b xs ys, x = .ref a ∧ y = .ref b ∧ h a = some (.lst xs) ∧ h b = some (.lst ys) ∧ xs.length ≠ ys.length ∧ Q (.bl false) h
def eqV : OpD := fun x y h Q => match x, y with
  | .int i, .int j => Q (.bl (decide (i = j))) h
  | .str s, .str t => Q (.bl (decide (s = t))) h
  | .bl s, .bl t => Q (.bl (decide (s = t))) h
  | x, y => (∃ p q, Py h x p ∧ Py h y q ∧ p.depth ≤ 64 ∧ q.depth ≤ 64 ∧ Q (.bl (PyData.eqv p q)) h) ∨ lenNe x y h Q
def neV : OpD := fun x y h Q => eqV x y h fun z h' => ∃ b, z = .bl b ∧ Q (.bl (!b)) h'
def ordV (ci : Int → Int → Bool) (cs : Str → Str → Bool) (cd : PyData → PyData → Bool) : OpD := fun x y h Q => match x, y with
  | .int i, .int j => Q (.bl (ci i j)) h
  | .str s, .str t => Q (.bl (cs s t)) h
  | .tup xs, .tup ys => ∃ p q, Py h (.tup xs) p ∧ Py h (.tup ys) q ∧ PySem.W.alike p q = true ∧ p.depth ≤ 64 ∧ Q (.bl (cd p q)) h
  | _, _ => False
def strLt (s t : Str) : Bool := decide (s.cps.toList < t.cps.toList)
def ltV : OpD := ordV (fun i j => decide (i < j)) strLt PySem.W.dataLt
def gtV : OpD := ordV (fun i j => decide (j < i)) (fun s t => strLt t s) fun p q => PySem.W.dataLt q p
def leV : OpD := ordV (fun i j => decide (i ≤ j)) (fun s t => !strLt t s) fun p q => !PySem.W.dataLt q p
def geV : OpD := ordV (fun i j => decide (j ≤ i)) (fun s t => !strLt s t) fun p q => !PySem.W.dataLt p q
/-- is: None, and truths -/
def isNon : D → Bool
  | .non => true
  | _ => false
def isV : OpD := fun x y h Q => match y with
  | .non => Q (.bl (isNon x)) h
  | .bl b => match x with
    | .bl a => Q (.bl (decide (a = b))) h
    | _ => False
  | _ => False
def isnV : OpD := fun x y h Q => match y with
  | .non => Q (.bl (!isNon x)) h
  | .bl b => match x with
    | .bl a => Q (.bl (!decide (a = b))) h
    | _ => False
  | _ => False
/-- the length's twin of a comparison with a flat thing -/
def flatD : D → Bool
  | .non => true
  | .bl _ => true
  | .int _ => true
  | .str _ => true
  | _ => false
def eqF : D → D → Bool
  | .non, .non => true
  | .bl a, .bl b => a == b
  | .bl a, .int b => (if a then 1 else 0) == b
  | .int a, .bl b => a == (if b then 1 else 0)
  | .int a, .int b => a == b
  | .str a, .str b => a == b
  | _, _ => false
def inF (x : D) (xs : List D) : Bool := xs.any fun y => eqF y x
/-- x in y: a sequence, a dict, a text -/
def keyD : D → Option Key
  | .int i => some (.inl i)
  | .str s => some (.inr s)
  | _ => none
def lookK (kvs : List (Key × D)) (k : Key) : Option D := (kvs.find? fun kv => decide (kv.1 = k)).map (·.2)
def inV : OpD := fun x y h Q => match y with
  | .str t => match x with
    | .str s => Q (.bl (!(Builtin.Str.occurrences t s 0 t.length 1).isEmpty)) h
    | _ => False
  | y => match seqOf h y with
    | some xs => (flatD x = true ∧ xs.all flatD = true ∧ Q (.bl (inF x xs)) h) ∨
        (∃ p ps, Py h x p ∧ Pys h xs ps ∧ p.depth ≤ 64 ∧ PyData.depthAll ps < 64 ∧ (∃ a, y = .ref a) ∧ Q (.bl (ps.any fun z => PyData.eqv z p)) h)
    | none => match y with
      | .ref a => match h a with
        | some (.dic kvs) => match keyD x with
          | some k => Q (.bl (lookK kvs k).isSome) h
          | none => False
        | _ => False
      | _ => False
def ninV : OpD := fun x y h Q => inV x y h fun z h' => ∃ b, z = .bl b ∧ Q (.bl (!b)) h'
end Nd
/-! Nd3: operators on data are sound. -/
namespace Nd
open PySem PySem.Spec PyProof.Rows L2
section
variable {X : Cx} {G : Nat → Addr}
theorem strG_app {s t : Str} (a : StrG s) (b : StrG t) (l : s.length + t.length ≤ sizeLine) : StrG (s ++ t) := by
  refine ⟨?_, ?_⟩
  · have e : (s ++ t).length = s.length + t.length := by
      show (s.cps ++ t.cps).size = s.cps.size + t.cps.size
      exact Array.size_append
    rw [e]; exact l
  · have h1 : s.cps.all (· < 0x110000) = true := a.2
    have h2 : t.cps.all (· < 0x110000) = true := b.2
    show (s.cps ++ t.cps).all (· < 0x110000) = true
    rw [Array.all_append, h1, h2]; rfl
theorem s_add : OpR X (binaryOp .Add) (lop X.K G addV) := by
  intro pins s σ H x y v u Q I rx ry ⟨d, e, h, q, hd, he, hh, hr, k⟩
  cases hd with
  | int i => cases he with
    | int j => exact op_add pins s σ H _ _ v u Q I rx ry ⟨i, j, rfl, rfl, k _ _ _ _ Fx.refl (.int _) hh hr⟩
    | _ => exact False.elim hr
  | str z g => cases he with
    | str y g' => exact op_add_str pins s σ H _ _ v u Q I rx ry ⟨z, y, rfl, rfl, hr.1, k _ _ _ _ Fx.refl (.str _ (strG_app g g' hr.1)) hh hr.2⟩
    | _ => exact False.elim hr
  | @tup a xs ds t l r => cases he with
    | @tup b ys es t' l' r' =>
      have hr : ds.length + es.length ≤ sizeLine ∧ q (.tup (ds ++ es)) h := hr
      have e1 := r.len
      have e2 := r'.len
      refine op_catA pins s σ H _ _ v u Q I rx ry ⟨a, b, xs, ys, rfl, rfl, t.sq, t'.sq, by omega, fun z => ?_, fun _ z => ?_, fun _ _ p np => ?_⟩
      · subst z
        cases r
        exact k _ _ _ _ Fx.refl (.tup t' l' r') hh hr.2
      · subst z
        cases r'
        refine k (.tup (ds ++ [])) _ _ _ Fx.refl ?_ hh hr.2
        rw [List.append_nil]
        exact .tup t l r
      · refine k (.tup (ds ++ es)) _ _ _ (Fx.new np) (.tup (.inl upd_same) ?_ ((r.app r').ext (Ext.new np))) (hh.hid np) hr.2
        rw [List.length_append]; exact hr.1
    | _ => exact False.elim hr
  | ref a => cases he with
    | ref b =>
      unfold addV at hr
      dsimp only at hr
      split at hr
      · rename_i xs ys ea eb
        obtain ⟨vs, e1, l1, r1⟩ := hh a _ ea
        obtain ⟨ws, e2, l2, r2⟩ := hh b _ eb
        have z1 := r1.len
        have z2 := r2.len
        refine op_cat pins s σ H _ _ v u Q I rx ry ⟨a, b, vs, ws, rfl, rfl, e1, e2, by omega, fun p np => ?_⟩
        exact k _ _ _ _ (Fx.newM np) (.ref p) (hh.newL np (by rw [List.length_append]; exact hr.1) (r1.app r2)) (hr.2 p (hh.none_of np))
      · exact False.elim hr
    | _ => exact False.elim hr
  | _ => exact False.elim hr
theorem s_sub : OpR X (binaryOp .Sub) (lop X.K G subV) := by
  intro pins s σ H x y v u Q I rx ry ⟨d, e, h, q, hd, he, hh, hr, k⟩
  cases hd with
  | int i => cases he with
    | int j => exact op_sub pins s σ H _ _ v u Q I rx ry ⟨i, j, rfl, rfl, k _ _ _ _ Fx.refl (.int _) hh hr⟩
    | _ => exact False.elim hr
  | _ => exact False.elim hr
theorem RDs.flat {K : PySem.W.Frag} {H : Hp} {ds : List D} {xs : List V} (r : RDs K G H ds xs) : ∀ n : Nat, RDs K G H (List.replicate n ds).flatten (List.replicate n xs).flatten
  | 0 => .nil
  | n + 1 => by
    rw [List.replicate_succ, List.replicate_succ, List.flatten_cons, List.flatten_cons]
    exact r.app (RDs.flat r n)
theorem rep_len {α : Type} (xs : List α) : ∀ n : Nat, (List.replicate n xs).flatten.length = xs.length * n
  | 0 => by simp
  | n + 1 => by rw [List.replicate_succ, List.flatten_cons, List.length_append, rep_len xs n, Nat.mul_succ]; omega
theorem s_mul : OpR X (binaryOp .Mult) (lop X.K G mulV) := by
  intro pins s σ H x y v u Q I rx ry ⟨d, e, h, q, hd, he, hh, hr, k⟩
  cases hd with
  | int i => cases he with
    | int j => exact op_mul pins s σ H _ _ v u Q I rx ry ⟨i, j, rfl, rfl, hr.1, k _ _ _ _ Fx.refl (.int _) hh hr.2⟩
    | _ => exact False.elim hr
  | @tup a xs ds t l r => cases he with
    | int j =>
      obtain ⟨⟨h1, h2, h3, h4⟩, hr⟩ := (show (ds ≠ [] ∧ 1 ≤ j ∧ j ≤ 1000 ∧ ds.length ≤ 1000) ∧ q (.tup (List.replicate j.toNat ds).flatten) h from hr)
      have e1 := r.len
      by_cases hj : j = 1
      · subst hj
        have e : (List.replicate (1 : Int).toNat ds).flatten = ds := by simp
        rw [e] at hr
        exact op_once pins s σ H _ _ v u Q I rx ry ⟨a, xs, rfl, rfl, t.sq, k _ _ _ _ Fx.refl (.tup t l r) hh hr⟩
      refine op_repT pins s σ H _ _ v u Q I rx ry ⟨a, j, xs, rfl, rfl, t.sq, fun z => h1 (by subst z; cases r; rfl), by omega, h3, by omega, fun p np => ?_⟩
      refine k _ _ _ _ (Fx.new np) (.tup (.inl upd_same) ?_ ((r.flat _).ext (Ext.new np))) (hh.hid np) hr
      rw [rep_len]
      have a1 : ds.length * j.toNat ≤ 1000 * 1000 := Nat.mul_le_mul h4 (by omega)
      have : sizeLine = 16777216 := rfl
      omega
    | _ => exact False.elim hr
  | ref a => cases he with
    | int j =>
      unfold mulV at hr
      dsimp only at hr
      split at hr
      · rename_i xs ea
        obtain ⟨vs, e1, l1, r1⟩ := hh a _ ea
        obtain ⟨⟨h1, h2, h3⟩, hr⟩ := hr
        have z1 := r1.len
        refine op_rep pins s σ H _ _ v u Q I rx ry ⟨a, j, vs, rfl, rfl, e1, h1, h2, by rw [← z1]; exact h3, fun p np => ?_⟩
        exact k _ _ _ _ (Fx.newM np) (.ref p) (hh.newL np (by rw [rep_len]; exact h3) (r1.flat _)) (hr p (hh.none_of np))
      · exact False.elim hr
    | _ => exact False.elim hr
  | _ => exact False.elim hr
theorem s_div : OpR X (binaryOp .FloorDiv) (lop X.K G divV) := by
  intro pins s σ H x y v u Q I rx ry ⟨d, e, h, q, hd, he, hh, hr, k⟩
  cases hd with
  | int i => cases he with
    | int j => exact op_fdivW pins s σ H _ _ v u Q I rx ry ⟨i, j, rfl, rfl, wide_div (b := 64) hr.1.1 (by have := hr.1.2; have := hr.1.1; omega) (by decide) (by decide), k _ _ _ _ Fx.refl (.int _) hh hr.2⟩
    | _ => exact False.elim hr
  | _ => exact False.elim hr
theorem s_mod : OpR X (binaryOp .Mod) (lop X.K G modV) := by
  intro pins s σ H x y v u Q I rx ry ⟨d, e, h, q, hd, he, hh, hr, k⟩
  cases hd with
  | int i => cases he with
    | int j => exact op_mod pins s σ H _ _ v u Q I rx ry ⟨i, j, rfl, rfl, hr.1, k _ _ _ _ Fx.refl (.int _) hh hr.2⟩
    | _ => exact False.elim hr
  | _ => exact False.elim hr
theorem s_pow : OpR X (binaryOp .Pow) (lop X.K G powV) := by
  intro pins s σ H x y v u Q I rx ry ⟨d, e, h, q, hd, he, hh, hr, k⟩
  cases hd with
  | int i => cases he with
    | int j => exact op_pow pins s σ H _ _ v u Q I rx ry ⟨i, j, rfl, rfl, hr.1, k _ _ _ _ Fx.refl (.int _) hh hr.2⟩
    | _ => exact False.elim hr
  | _ => exact False.elim hr
/-! ### comparisons -/
theorem shp {h : HD} {K : PySem.W.Frag} {H : Hp} (rh : RH K G H h) {d : D} {p : PyData} {v : V} (a : Py h d p) (r : RD K G H d v) (z : p.depth ≤ 64) : SeqAt.shaped p = true := by
  unfold SeqAt.shaped
  rw [a.lay rh r, decide_eq_true z]; rfl
theorem eq_gen (hu : X.A.units + 64 < cLine) {pins s σ H x y v u Q} (I : Inv X pins σ H s) (rx : RelV x v) (ry : RelV y u) {d e : D} {h : HD} {q : VQ} (hd : RD X.K G H d x) (he : RD X.K G H e y) (hh : RH X.K G H h)
    (hr : (∃ p r, Py h d p ∧ Py h e r ∧ p.depth ≤ 64 ∧ r.depth ≤ 64 ∧ q (.bl (PyData.eqv p r)) h) ∨ lenNe d e h q) (k : Cont X.K G H h q Q) : wpAny (model X.prog X.w) X.A (compareOp .Eq v u) (EP X pins σ Q) X.xe s := by
  rcases hr with ⟨p, r, h1, h2, h3, h4, h5⟩ | ⟨a, b, xs, ys, rfl, rfl, e1, e2, ne, h5⟩
  · exact op_eqD hu pins s σ H _ _ v u Q I rx ry ⟨p, r, h1.dp hh hd, h2.dp hh he, shp hh h1 hd h3, shp hh h2 he h4, k _ _ _ _ Fx.refl (.bl _) hh h5⟩
  · cases hd
    cases he
    obtain rfl : v = Value.ref a := rx
    obtain rfl : u = Value.ref b := ry
    obtain ⟨vs, g1, _, g3⟩ := hh a _ e1
    obtain ⟨ws, w1, _, w3⟩ := hh b _ e2
    obtain ⟨is1, r1, p1, _⟩ := I.list (.inl (.inl g1))
    obtain ⟨is2, r2, p2, _⟩ := I.list (.inl (.inl w1))
    have l1 := g3.len
    have l2 := w3.len
    have l3 := r1.length
    have l4 := r2.length
    exact SeqAt.eq_list_lengthsAt p1.isList p2.isList (by simp; omega) (by omega) ⟨.bl false, H, I, rfl, k _ _ _ _ Fx.refl (.bl _) hh h5⟩
theorem s_eq (hu : X.A.units + 64 < cLine) : OpR X (compareOp .Eq) (lop X.K G eqV) := by
  intro pins s σ H x y v u Q I rx ry ⟨d, e, h, q, hd, he, hh, hr, k⟩
  cases hd with
  | int i => cases he with
    | int j => exact op_eq pins s σ H _ _ v u Q I rx ry ⟨rfl, by rw [show decide (V.int i = V.int j) = decide (i = j) by rw [dec_int, Bool.beq_eq_decide_eq]]; exact k _ _ _ _ Fx.refl (.bl _) hh hr⟩
    | _ => exact eq_gen hu I rx ry (.int i) (by constructor <;> assumption) hh hr k
  | str i g => cases he with
    | str j g' => exact op_eq pins s σ H _ _ v u Q I rx ry ⟨rfl, by rw [show decide (V.str i = V.str j) = decide (i = j) by rw [dec_str, Bool.beq_eq_decide_eq]]; exact k _ _ _ _ Fx.refl (.bl _) hh hr⟩
    | _ => exact eq_gen hu I rx ry (.str i g) (by constructor <;> assumption) hh hr k
  | bl i => cases he with
    | bl j => exact op_eq pins s σ H _ _ v u Q I rx ry ⟨rfl, by rw [show decide (V.bl i = V.bl j) = decide (i = j) by rw [dec_bl, Bool.beq_eq_decide_eq]]; exact k _ _ _ _ Fx.refl (.bl _) hh hr⟩
    | _ => exact eq_gen hu I rx ry (.bl i) (by constructor <;> assumption) hh hr k
  | non => exact eq_gen hu I rx ry .non he hh hr k
  | tup t l r => exact eq_gen hu I rx ry (.tup t l r) he hh hr k
  | ref a => exact eq_gen hu I rx ry (.ref a) he hh hr k
  | ty n => exact eq_gen hu I rx ry (.ty n) he hh hr k
  | glo g => exact eq_gen hu I rx ry (.glo g) he hh hr k
  | exc t => exact eq_gen hu I rx ry (.exc t) he hh hr k
  | kls t l r => exact eq_gen hu I rx ry (.kls t l r) he hh hr k
theorem ne_gen (hu : X.A.units + 64 < cLine) {pins s σ H x y v u Q} (I : Inv X pins σ H s) (rx : RelV x v) (ry : RelV y u) {d e : D} {h : HD} {q : VQ} (hd : RD X.K G H d x) (he : RD X.K G H e y) (hh : RH X.K G H h)
    (hr : (∃ p r, Py h d p ∧ Py h e r ∧ p.depth ≤ 64 ∧ r.depth ≤ 64 ∧ ∃ b, D.bl (PyData.eqv p r) = .bl b ∧ q (.bl (!b)) h) ∨ lenNe d e h fun z h' => ∃ b, z = .bl b ∧ q (.bl (!b)) h') (k : Cont X.K G H h q Q) : wpAny (model X.prog X.w) X.A (compareOp .NotEq v u) (EP X pins σ Q) X.xe s := by
  rcases hr with ⟨p, r, h1, h2, h3, h4, b, eb, h5⟩ | ⟨a, b, xs, ys, rfl, rfl, e1, e2, ne, c, ec, h5⟩
  · cases eb
    exact op_neD hu pins s σ H _ _ v u Q I rx ry ⟨p, r, h1.dp hh hd, h2.dp hh he, shp hh h1 hd h3, shp hh h2 he h4, k _ _ _ _ Fx.refl (.bl _) hh h5⟩
  · cases ec
    cases hd
    cases he
    obtain rfl : v = Value.ref a := rx
    obtain rfl : u = Value.ref b := ry
    obtain ⟨vs, g1, _, g3⟩ := hh a _ e1
    obtain ⟨ws, w1, _, w3⟩ := hh b _ e2
    obtain ⟨is1, r1, p1, _⟩ := I.list (.inl (.inl g1))
    obtain ⟨is2, r2, p2, _⟩ := I.list (.inl (.inl w1))
    have l1 := g3.len
    have l2 := w3.len
    have l3 := r1.length
    have l4 := r2.length
    exact SeqAt.RcNeAt.lists_lengths p1.isList p2.isList (by simp; omega) (by omega) X.prog X.w X.xe _ ⟨.bl true, H, I, rfl, k _ _ _ _ Fx.refl (.bl _) hh h5⟩
theorem s_ne (hu : X.A.units + 64 < cLine) : OpR X (compareOp .NotEq) (lop X.K G neV) := by
  intro pins s σ H x y v u Q I rx ry ⟨d, e, h, q, hd, he, hh, hr, k⟩
  cases hd with
  | int i => cases he with
    | int j =>
      obtain ⟨b, eb, hr⟩ := (show ∃ b, D.bl (decide (i = j)) = .bl b ∧ q (.bl (!b)) h from hr)
      cases eb
      exact op_ne pins s σ H _ _ v u Q I rx ry ⟨rfl, by rw [show decide (V.int i = V.int j) = decide (i = j) by rw [dec_int, Bool.beq_eq_decide_eq]]; exact k _ _ _ _ Fx.refl (.bl _) hh hr⟩
    | _ => exact ne_gen hu I rx ry (.int i) (by constructor <;> assumption) hh hr k
  | str i g => cases he with
    | str j g' =>
      obtain ⟨b, eb, hr⟩ := (show ∃ b, D.bl (decide (i = j)) = .bl b ∧ q (.bl (!b)) h from hr)
      cases eb
      exact op_ne pins s σ H _ _ v u Q I rx ry ⟨rfl, by rw [show decide (V.str i = V.str j) = decide (i = j) by rw [dec_str, Bool.beq_eq_decide_eq]]; exact k _ _ _ _ Fx.refl (.bl _) hh hr⟩
    | _ => exact ne_gen hu I rx ry (.str i g) (by constructor <;> assumption) hh hr k
  | bl i => cases he with
    | bl j =>
      obtain ⟨b, eb, hr⟩ := (show ∃ b, D.bl (decide (i = j)) = .bl b ∧ q (.bl (!b)) h from hr)
      cases eb
      exact op_ne pins s σ H _ _ v u Q I rx ry ⟨rfl, by rw [show decide (V.bl i = V.bl j) = decide (i = j) by rw [dec_bl, Bool.beq_eq_decide_eq]]; exact k _ _ _ _ Fx.refl (.bl _) hh hr⟩
    | _ => exact ne_gen hu I rx ry (.bl i) (by constructor <;> assumption) hh hr k
  | non => exact ne_gen hu I rx ry .non he hh hr k
  | tup t l r => exact ne_gen hu I rx ry (.tup t l r) he hh hr k
  | ref a => exact ne_gen hu I rx ry (.ref a) he hh hr k
  | ty n => exact ne_gen hu I rx ry (.ty n) he hh hr k
  | glo g => exact ne_gen hu I rx ry (.glo g) he hh hr k
  | exc t => exact ne_gen hu I rx ry (.exc t) he hh hr k
  | kls t l r => exact ne_gen hu I rx ry (.kls t l r) he hh hr k
/-- an order of numbers, texts, alike tuples -/
theorem s_ord {op : CmpOp} {ci : Int → Int → Bool} {cs : Str → Str → Bool} {cd : PyData → PyData → Bool}
    (hi : OpR X (compareOp op) (rI0 fun i j => .bl (ci i j))) (hs : OpR X (compareOp op) (fun x y H Q => ∃ i j, x = .str i ∧ y = .str j ∧ Q (.bl (cs i j)) H))
    (hd : ∀ (da db : PyData) (s : Shared) (a b : Value) (as bs : List Addr) (Q : Value → Shared → Prop), Reads s.heap a da as → Reads s.heap b db bs → PySem.W.alike da db = true → da ≠ .none → X.A.units + min da.depth db.depth < cLine →
      Q (.bool (cd da db)) s → wpAny (model X.prog X.w) X.A (compareOp op a b) Q X.xe s) (hu : X.A.units + 64 < cLine) : OpR X (compareOp op) (lop X.K G (ordV ci cs cd)) := by
  intro pins s σ H x y v u Q I rx ry ⟨d, e, h, q, hd1, he, hh, hr, k⟩
  cases hd1 with
  | int i => cases he with
    | int j => exact hi pins s σ H _ _ v u Q I rx ry ⟨i, j, rfl, rfl, k _ _ _ _ Fx.refl (.bl _) hh hr⟩
    | _ => exact False.elim hr
  | str i g => cases he with
    | str j g' => exact hs pins s σ H _ _ v u Q I rx ry ⟨i, j, rfl, rfl, k _ _ _ _ Fx.refl (.bl _) hh hr⟩
    | _ => exact False.elim hr
  | @tup a xs ds t l r => cases he with
    | @tup b ys es t' l' r' =>
      obtain ⟨p, z, h1, h2, h3, h4, h5⟩ := (show ∃ p z, Py h (.tup ds) p ∧ Py h (.tup es) z ∧ PySem.W.alike p z = true ∧ p.depth ≤ 64 ∧ q (.bl (cd p z)) h from hr)
      obtain ⟨as, r1⟩ := Dp.reads I p _ v (h1.dp hh (.tup t l r)) rx
      obtain ⟨bs, r2⟩ := Dp.reads I z _ u (h2.dp hh (.tup t' l' r')) ry
      refine hd p z s v u as bs _ r1 r2 h3 (fun e => ?_) ?_ ⟨.bl _, H, I, rfl, k _ _ _ _ Fx.refl (.bl _) hh h5⟩
      · cases h1; cases e
      · have : min p.depth z.depth ≤ p.depth := Nat.min_le_left _ _
        omega
    | _ => exact False.elim hr
  | _ => exact False.elim hr
theorem s_lt (hu : X.A.units + 64 < cLine) : OpR X (compareOp .Lt) (lop X.K G ltV) := s_ord op_lt op_lt_str (fun _ _ _ _ _ _ _ _ a b c d e f => PySem.W.lt_data a b c d e f) hu
theorem s_gt (hu : X.A.units + 64 < cLine) : OpR X (compareOp .Gt) (lop X.K G gtV) := s_ord op_gt op_gt_str (fun _ _ _ _ _ _ _ _ a b c d e f => PySem.W.gt_data a b c d e f) hu
theorem s_le (hu : X.A.units + 64 < cLine) : OpR X (compareOp .LtE) (lop X.K G leV) := s_ord op_le op_le_str (fun _ _ _ _ _ _ _ _ a b c d e f => PySem.W.le_data a b c d e f) hu
theorem s_ge (hu : X.A.units + 64 < cLine) : OpR X (compareOp .GtE) (lop X.K G geV) := s_ord op_ge op_ge_str (fun _ _ _ _ _ _ _ _ a b c d e f => PySem.W.ge_data a b c d e f) hu
theorem isNon_iff {K : PySem.W.Frag} {H : Hp} {d : D} {x : V} (r : RD K G H d x) : decide (x = .non) = isNon d := by
  cases r <;> rfl
theorem s_is : OpR X (compareOp .Is) (lop X.K G isV) := by
  intro pins s σ H x y v u Q I rx ry ⟨d, e, h, q, hd, he, hh, hr, k⟩
  cases he with
  | non => exact op_isN pins s σ H _ _ v u Q I rx ry ⟨rfl, by rw [isNon_iff hd]; exact k _ _ _ _ Fx.refl (.bl _) hh hr⟩
  | bl b => cases hd with
    | bl a => exact op_is_bl pins s σ H _ _ v u Q I rx ry ⟨a, b, rfl, rfl, k _ _ _ _ Fx.refl (.bl _) hh hr⟩
    | _ => exact False.elim hr
  | _ => exact False.elim hr
theorem s_isn : OpR X (compareOp .IsNot) (lop X.K G isnV) := by
  intro pins s σ H x y v u Q I rx ry ⟨d, e, h, q, hd, he, hh, hr, k⟩
  cases he with
  | non => exact op_notN pins s σ H _ _ v u Q I rx ry ⟨rfl, by rw [isNon_iff hd]; exact k _ _ _ _ Fx.refl (.bl _) hh hr⟩
  | bl b => cases hd with
    | bl a => exact op_isnot_bl pins s σ H _ _ v u Q I rx ry ⟨a, b, rfl, rfl, k _ _ _ _ Fx.refl (.bl _) hh hr⟩
    | _ => exact False.elim hr
  | _ => exact False.elim hr
theorem flat_of {K : PySem.W.Frag} {H : Hp} {d : D} {x : V} (r : RD K G H d x) (f : flatD d = true) : flatV x = true := by
  cases r <;> first | rfl | (cases (show false = true from f))
theorem eqF_of {K : PySem.W.Frag} {H : Hp} {d e : D} {x y : V} (r : RD K G H d x) (r' : RD K G H e y) (f : flatD d = true) (f' : flatD e = true) : L2.eqV x y = eqF d e := by
  cases r <;> cases r' <;> first | rfl | (cases (show false = true from f)) | (cases (show false = true from f'))
theorem inF_of {K : PySem.W.Frag} {H : Hp} {d : D} {x : V} (r : RD K G H d x) (f : flatD d = true) : ∀ {ds : List D} {xs : List V}, RDs K G H ds xs → ds.all flatD = true → xs.all flatV = true ∧ L2.inV x xs = inF d ds
  | _, _, .nil, _ => ⟨rfl, rfl⟩
  | _, _, .cons q t, f2 => by
    rw [List.all_cons, Bool.and_eq_true] at f2
    obtain ⟨h1, h2⟩ := inF_of r f t f2.2
    refine ⟨by rw [List.all_cons, flat_of q f2.1, h1]; rfl, ?_⟩
    show (L2.eqV _ x || L2.inV x _) = (eqF _ d || inF d _)
    rw [h2, eqF_of q r f2.1 f]
theorem seq_sq {K : PySem.W.Frag} {H : Hp} {h : HD} (hh : RH K G H h) {d : D} {x : V} {ds : List D} (r : RD K G H d x) (e : seqOf h d = some ds) : ∃ p xs, x = .ref p ∧ (SqL K H p xs ∨ SqT K H p xs) ∧ RDs K G H ds xs ∧ ds.length ≤ sizeLine := by
  cases r with
  | tup t l r => cases e; exact ⟨_, _, rfl, .inr t.sq, r, l⟩
  | kls t l r => cases e; exact ⟨_, _, rfl, .inl t.sq, r, l⟩
  | ref a =>
    unfold seqOf at e
    dsimp only at e
    split at e
    · rename_i xs ea; cases e
      obtain ⟨vs, h1, h2, h3⟩ := hh a _ ea
      exact ⟨a, vs, rfl, .inl (.inl (.inl h1)), h3, h2⟩
    · cases e
  | _ => cases e
theorem look_of {K : PySem.W.Frag} {H : Hp} {kvs : List (Key × D)} {vs : List (Key × V)} (r : RK K G H kvs vs) (k : Key) : (lookK kvs k = none ∧ valV vs k = none) ∨ ∃ d v, lookK kvs k = some d ∧ valV vs k = some v ∧ RD K G H d v := by
  induction r with
  | nil => exact .inl ⟨rfl, rfl⟩
  | @cons a b l1 l2 h t ih =>
    obtain ⟨e, q⟩ := h
    unfold lookK valV
    rw [List.find?_cons, List.find?_cons, e]
    cases hd : decide (b.1 = k) with
    | true => exact .inr ⟨_, _, rfl, rfl, q⟩
    | false => exact ih
theorem key_of {K : PySem.W.Frag} {H : Hp} {d : D} {v : V} {k : Key} (r : RD K G H d v) (e : keyD d = some k) : v = kV k := by
  cases r <;> first | (cases e; rfl) | cases e
theorem shL {h : HD} {K : PySem.W.Frag} {H : Hp} (rh : RH K G H h) {ds : List D} {ps : List PyData} {vs : List V} (a : Pys h ds ps) (r : RDs K G H ds vs) (z : PyData.depthAll ps < 64) : SeqAt.shaped (.list ps) = true := by
  unfold SeqAt.shaped
  have h1 : PyData.canLay0 (.list ps) = true := a.lay rh r
  have h2 : (PyData.list ps).depth ≤ 64 := by show PyData.depthAll ps + 1 ≤ 64; omega
  rw [h1, decide_eq_true h2]; rfl
theorem s_in (hu : X.A.units + 65 < cLine) : OpR X (compareOp .In) (lop X.K G inV) := by
  intro pins s σ H x y v u Q I rx ry ⟨d, e, h, q, hd, he, hh, hr, k⟩
  unfold inV at hr
  split at hr
  · cases he with
    | str t g =>
      split at hr
      · cases hd with
        | str i g' => exact op_in_str pins s σ H _ _ v u Q I rx ry ⟨_, _, rfl, rfl, k _ _ _ _ Fx.refl (.bl _) hh hr⟩
      · exact hr.elim
  · split at hr
    · rename_i xs es
      obtain ⟨p, vs, rfl, sq, rs, _⟩ := seq_sq hh he es
      rcases hr with ⟨f1, f2, hq⟩ | ⟨z, ps, h1, h2, h3, h4, ⟨a, ea⟩, hq⟩
      · obtain ⟨g1, g2⟩ := inF_of hd f1 rs f2
        refine op_in_seq pins s σ H _ _ v u Q I rx ry ⟨p, vs, rfl, sq, flat_of hd f1, g1, ?_⟩
        show Q (.bl (L2.inV x vs)) H
        rw [g2]
        exact k _ _ _ _ Fx.refl (.bl _) hh hq
      · subst ea
        have hz : Py h (.ref a) (.list ps) := by
          unfold seqOf at es
          dsimp only at es
          split at es
          · rename_i ea; cases es; exact .lst ea h2
          · cases es
        exact op_inD hu pins s σ H _ _ v u Q I rx ry ⟨z, ps, h1.dp hh hd, hz.dp hh he, shp hh h1 hd h3, shL hh h2 rs h4, k _ _ _ _ Fx.refl (.bl _) hh hq⟩
    · split at hr
      · rename_i a es _
        split at hr
        · rename_i kvs ea
          split at hr
          · rename_i kk ek
            cases he
            obtain ⟨vs, h1, _, h3⟩ := hh a _ ea
            obtain rfl : u = Value.ref a := ry
            have ev := key_of hd ek
            subst ev
            rcases look_of h3 kk with ⟨l1, l2⟩ | ⟨d', v', l1, l2, r'⟩
            · refine d_in (by omega) I (DGet.k (k := kk) h1) rx fun s3 I3 => ⟨.bl _, H, I3, rfl, ?_⟩
              rw [l2]; rw [l1] at hr
              exact k _ _ _ _ Fx.refl (.bl _) hh hr
            · refine d_in (by omega) I (DGet.k (k := kk) h1) rx fun s3 I3 => ⟨.bl _, H, I3, rfl, ?_⟩
              rw [l2]; rw [l1] at hr
              exact k _ _ _ _ Fx.refl (.bl _) hh hr
          · exact hr.elim
        · exact hr.elim
      · exact hr.elim
theorem s_nin (hu : X.A.units + 65 < cLine) : OpR X (compareOp .NotIn) (lop X.K G ninV) := by
  intro pins s σ H x y v u Q I rx ry ⟨d, e, h, q, hd, he, hh, hr, k⟩
  unfold ninV inV at hr
  split at hr
  · cases he with
    | str t g =>
      split at hr
      · obtain ⟨b, eb, hr⟩ := hr
        cases eb
        cases hd with
        | str i g' => exact op_notIn_str pins s σ H _ _ v u Q I rx ry ⟨_, _, rfl, rfl, k _ _ _ _ Fx.refl (.bl _) hh hr⟩
      · exact hr.elim
  · split at hr
    · rename_i xs es
      obtain ⟨p, vs, rfl, sq, rs, _⟩ := seq_sq hh he es
      rcases hr with ⟨f1, f2, b, eb, hq⟩ | ⟨z, ps, h1, h2, h3, h4, ⟨a, ea⟩, b, eb, hq⟩
      · cases eb
        obtain ⟨g1, g2⟩ := inF_of hd f1 rs f2
        refine op_notIn_seq pins s σ H _ _ v u Q I rx ry ⟨p, vs, rfl, sq, flat_of hd f1, g1, ?_⟩
        show Q (.bl (!L2.inV x vs)) H
        rw [g2]
        exact k _ _ _ _ Fx.refl (.bl _) hh hq
      · cases eb
        subst ea
        have hz : Py h (.ref a) (.list ps) := by
          unfold seqOf at es
          dsimp only at es
          split at es
          · rename_i ea; cases es; exact .lst ea h2
          · cases es
        exact op_notInD hu pins s σ H _ _ v u Q I rx ry ⟨z, ps, h1.dp hh hd, hz.dp hh he, shp hh h1 hd h3, shL hh h2 rs h4, k _ _ _ _ Fx.refl (.bl _) hh hq⟩
    · split at hr
      · rename_i a es _
        split at hr
        · rename_i kvs ea
          split at hr
          · rename_i kk ek
            obtain ⟨b, eb, hr⟩ := hr
            cases eb
            cases he
            obtain ⟨vs, h1, _, h3⟩ := hh a _ ea
            obtain rfl : u = Value.ref a := ry
            have ev := key_of hd ek
            subst ev
            rcases look_of h3 kk with ⟨l1, l2⟩ | ⟨d', v', l1, l2, r'⟩
            · refine d_notIn (by omega) I (DGet.k (k := kk) h1) rx fun s3 I3 => ⟨.bl _, H, I3, rfl, ?_⟩
              rw [l2]; rw [l1] at hr
              exact k _ _ _ _ Fx.refl (.bl _) hh hr
            · refine d_notIn (by omega) I (DGet.k (k := kk) h1) rx fun s3 I3 => ⟨.bl _, H, I3, rfl, ?_⟩
              rw [l2]; rw [l1] at hr
              exact k _ _ _ _ Fx.refl (.bl _) hh hr
          · exact hr.elim
        · exact hr.elim
      · exact hr.elim
end
end Nd
/-! Nd4: a small syntax, and what it denotes over data. -/
namespace Nd
open PySem PySem.Spec PyProof.Rows L2
mutual
/-- numbers of at most forty figures, no dict -/
def smP : PyData → Bool
  | .none => true
  | .bool _ => true
  | .str _ => true
  | .int i => decide (i.natAbs < 10 ^ 40)
  | .list xs => smPs xs
  | .tuple xs => smPs xs
  | .dict _ => false
def smPs : List PyData → Bool
  | [] => true
  | x :: xs => smP x && smPs xs
end
def rpP : PyData → Bool
  | .none => false
  | .bool _ => false
  | _ => true
/-- targets -/
inductive Tg where
  | nm (i : Nat) | tp (l : List Nat) | ul (l : List Nat)
/-- built-ins by values -/
inductive BI where
  | isi | len | abs | int1 | max2 | min2 | max3 | str1 | bool1 | repr1
/-- built-ins by the content of one thing -/
inductive BL where
  | tuple | list | sum | max | min | all | any | sorted | dict
/-- what is walked -/
inductive ItK where
  | seq | rng1 | rng2 | rng3 | zip2 | zip3 | zipS | enum | enumT | items | values | rev
/-- methods of lists, dicts, texts -/
inductive BM where
  | append | pop0 | pop1 | insert | get1 | get2 | index | count | extend | clear | remove | split | join | update | upper
mutual
inductive E where
  | var (i : Nat)
  | cst (d : D)
  | gl (x : Str) (d : D)
  | ty (n : String)
  | tup (es : Es)
  | lst (es : Es)
  | dic (ks : List Key) (vs : Es)
  | bin (o : Operator) (a b : E)
  | neg (a : E)
  | cmp (o : CmpOp) (a b : E)
  | chn (o o' : CmpOp) (a b c : E)
  | nt (a : E)
  | an (es : Es)
  | or (es : Es)
  | ife (c a b : E)
  | sub (a i : E)
  | sl0 (a : E)
  | slL (a lo : E)
  | slU (a hi : E)
  | slB (a lo hi : E)
  | rvs (a : E)
  | attr (a : E) (f : Str)
  | call (f : Nat) (es : Es)
  | callv (i : Nat) (es : Es)
  | mk (c : Nat) (es : Es)
  | meth (o : E) (m : Str) (es : Es)
  | bi (b : BI) (es : Es)
  | bl (b : BL) (e : E)
  | lset (s : Bool) (e : E)
  | bm (m : BM) (o : E) (es : Es)
  | comp (k : ItK) (es : Es) (tg : Tg) (own : List Nat) (ifs : Es) (e : E)
inductive Es where
  | nil | cons (e : E) (es : Es)
end
mutual
inductive S where
  | pass | doc | brk | cnt
  | ex (e : E)
  | ret (e : E)
  | retN
  | set (i : Nat) (e : E)
  | setT (tg : Tg) (e : E)
  | par (i j : Nat) (a b : E)
  | setS (o i e : E)
  | setA (o : E) (f : Str) (e : E)
  | aug (i : Nat) (op : Operator) (e : E)
  | ite (c : E) (a b : B)
  | whl (c : E) (b : B)
  | for_ (k : ItK) (es : Es) (tg : Tg) (b : B)
  | try_ (b : B) (x i j : Nat)
  | raise (c : Nat)
inductive B where
  | nil | cons (s : S) (b : B)
end
/-- what stands behind a statement -/
structure En where
  nx : Sl → HD → Prop
  rt : VQ
  bk : Sl → HD → Prop
  ct : Sl → HD → Prop
  ex : Nat → Sl → HD → Prop
abbrev TSD := En → Sl → HD → Prop
/-- what is walked: a tuple, a text, a list that isn't told, a thing that must stay -/
inductive Gd where
  | tp | st | hid | kl | ls (a : Addr) (m : MO)
def Gd.ok (h : HD) : Gd → Prop
  | .ls a m => h a = some m
  | _ => True
def Gd.isL : Gd → Bool
  | .hid => true
  | .kl => true
  | .ls _ (.lst _) => true
  | _ => false
abbrev TID := Sl → HD → (List D → List Gd → HD → Prop) → XQ → Prop
def truV (d : D) (h : HD) (k : Bool → Prop) : Prop := match d with
  | .non => k false
  | .bl b => k b
  | .int i => k (i != 0)
  | .str s => k ((s.length : Int) != 0)
  | .tup xs => k (!xs.isEmpty)
  | .kls xs => k (!xs.isEmpty)
  | .ref a => match h a with
    | some (.lst xs) => k (!xs.isEmpty)
    | some (.dic xs) => k (!xs.isEmpty)
    | _ => False
  | _ => False
def chars (s : Str) : List D := s.cps.toList.map fun c => .str ⟨#[c]⟩
def kD : Key → D
  | .inl i => .int i
  | .inr s => .str s
def itV (d : D) (h : HD) (k : List D → Gd → Prop) : Prop := match d with
  | .tup xs => k xs .tp
  | .kls xs => k xs .kl
  | .str s => k (chars s) .st
  | .ref a => match h a with
    | some (.lst xs) => k xs (.ls a (.lst xs))
    | some (.dic kvs) => k (kvs.map fun p => kD p.1) (.ls a (.dic kvs))
    | _ => False
  | _ => False
structure Dn where
  v : TED
  t : TTD
  i : Sl → HD → (List D → Gd → HD → Prop) → XQ → Prop
def Dn.of (v : TED) : Dn where
  v := v
  t := fun σ h q r => v σ h (fun d h' => truV d h' fun b => q b h') r
  i := fun σ h q r => v σ h (fun d h' => itV d h' fun xs g => q xs g h') r
/-- a value that is True or False, its test another way -/
def Dn.ofT (v : TED) (t : TTD) : Dn where
  v := v
  t := t
  i := fun _ _ _ _ => False
def Dn.bad : Dn := Dn.of fun _ _ _ _ => False
structure Dns where
  a : TAD
  an : Dn
  or : Dn
  i : TID
def opV : Operator → OpD
  | .Add => addV
  | .Sub => subV
  | .Mult => mulV
  | .FloorDiv => divV
  | .Mod => modV
  | .Pow => powV
  | _ => fun _ _ _ _ => False
def cmV : CmpOp → OpD
  | .Eq => eqV
  | .NotEq => neV
  | .Lt => ltV
  | .LtE => leV
  | .Gt => gtV
  | .GtE => geV
  | .Is => isV
  | .IsNot => isnV
  | .In => inV
  | .NotIn => ninV
def asB (d : D) (k : Bool → Prop) : Prop := match d with
  | .bl b => k b
  | _ => False
def negV (d : D) (h : HD) (q : VQ) : Prop := match d with
  | .int i => q (.int (-i)) h
  | _ => False
def atD (xs : List D) (i : Int) : Option D := L2.atI xs i
def optV (o : Option D) (h : HD) (q : VQ) : Prop := match o with
  | some d => q d h
  | none => False
def subV' : OpD := fun x y h q => match x, y with
  | .tup xs, .int i => optV (atD xs i) h q
  | .str s, .int i => optV (atD (chars s) i) h q
  | .ref a, y => match h a with
    | some (.lst xs) => match y with
      | .int i => optV (atD xs i) h q
      | _ => False
    | some (.dic kvs) => match keyD y with
      | some k => optV (lookK kvs k) h q
      | none => False
    | _ => False
  | _, _ => False
def cutD (xs : List D) (lo hi : Option Int) : List D := (xs.drop (HT.sIx xs.length 0 lo)).take (HT.sIx xs.length xs.length hi - HT.sIx xs.length 0 lo)
def slcV (x : D) (lo hi : Option Int) (h : HD) (q : VQ) : Prop := match x with
  | .tup xs => q (.tup (cutD xs lo hi)) h
  | .str s => q (.str (cutS s lo hi)) h
  | .ref a => match h a with
    | some (.lst xs) => ∀ p, h p = none → q (.ref p) (hup h p (.lst (cutD xs lo hi)))
    | _ => False
  | _ => False
def rvsV (x : D) (h : HD) (q : VQ) : Prop := match x with
  | .ref a => match h a with
    | some (.lst xs) => ∀ p, h p = none → q (.ref p) (hup h p (.lst xs.reverse))
    | _ => False
  | _ => False
def asI (d : D) (k : Option Int → Prop) : Prop := match d with
  | .int i => k (some i)
  | _ => False
/-! ### built-ins -/
/-- the built-in type of a thing -/
def tyN (h : HD) : D → Option String
  | .non => some "NoneType"
  | .bl _ => some "bool"
  | .int _ => some "int"
  | .str _ => some "str"
  | .tup _ => some "tuple"
  | .kls _ => some "list"
  | .ref a => match h a with
    | some (.lst _) => some "list"
    | some (.dic _) => some "dict"
    | _ => none
  | _ => none
def isiB (a n : String) : Bool := a == n || (a == "bool" && n == "int")
def isTyN (n : String) : Bool := n == "int" || n == "bool" || n == "str" || n == "tuple" || n == "list" || n == "dict"
/-- what an except clause says of an error -/
def exmK (o : Option Bool) (y n : Unit → Prop) : Prop := match o with
  | some true => y ()
  | some false => n ()
  | none => False
theorem exmK_cases {o : Option Bool} {y n : Unit → Prop} (z : exmK o y n) : (o = some true ∧ y ()) ∨ (o = some false ∧ n ()) := by
  unfold exmK at z
  split at z
  · exact .inl ⟨rfl, z⟩
  · exact .inr ⟨rfl, z⟩
  · exact z.elim
def isiV (exm : Nat → Nat → Option Bool) (ds : List D) (h : HD) (q : VQ) : Prop := match ds with
  | [.exc c _, .ty n] => n = "ValueError" ∧ exmK (exm c 1000000) (fun _ => q (.bl true) h) fun _ => q (.bl false) h
  | [d, .ty n] => isTyN n = true ∧ match tyN h d with
    | some a => q (.bl (isiB a n)) h
    | none => False
  | [d, .tup [.ty n, .ty m]] => (isTyN n = true ∧ isTyN m = true) ∧ match tyN h d with
    | some a => q (.bl (isiB a n || isiB a m)) h
    | none => False
  | [.exc c _, .glo g] => g ≠ 1000000 ∧ exmK (exm c g) (fun _ => q (.bl true) h) fun _ => q (.bl false) h
  | _ => False
def lenV (d : D) (h : HD) (q : VQ) : Prop := match d with
  | .str s => q (.int s.length) h
  | .tup xs => q (.int xs.length) h
  | .kls xs => q (.int xs.length) h
  | .ref a => match h a with
    | some (.lst xs) => q (.int xs.length) h
    | some (.dic xs) => q (.int xs.length) h
    | _ => False
  | _ => False
def biV (exm : Nat → Nat → Option Bool) (b : BI) (ds : List D) (h : HD) (q : VQ) : Prop := match b, ds with
  | .isi, ds => isiV exm ds h q
  | .len, [d] => lenV d h q
  | .abs, [.int i] => q (.int (if i < 0 then -i else i)) h
  | .int1, [.int i] => q (.int i) h
  | .int1, [.bl k] => q (.int (if k then 1 else 0)) h
  | .max2, [.int i, .int j] => q (.int (if j > i then j else i)) h
  | .min2, [.int i, .int j] => q (.int (if j < i then j else i)) h
  | .max3, [.int i, .int j, .int m] => q (.int (if j > i then (if m > j then m else j) else if m > i then m else i)) h
  | .repr1, [d] => ∃ p, Py h d p ∧ (rpP p = true ∧ smP p = true) ∧ p.weight ≤ 300000 ∧ p.depth ≤ 64 ∧ q (.str p.shown) h
  | .str1, [.int i] => i.natAbs.log2 < 1920 ∧ StrG (toString i : Str) ∧ q (.str (toString i)) h
  | _, _ => False
/-- things put in order, by what they are as data -/
def sortD (xs : List D) (ps : List PyData) : List D := ((xs.zip ps).mergeSort (PySem.W.dataLe false fun p => p.2)).map fun p => p.1
def blV (b : BL) (xs : List D) (g : Gd) (h : HD) (q : VQ) : Prop := match b with
  | .tuple => (g.isL || (match g with | .tp => true | _ => false)) = true ∧ q (.tup xs) h
  | .list => (g.isL || (match g with | .tp => true | _ => false)) = true ∧ ∀ p, h p = none → q (.ref p) (hup h p (.lst xs))
  | .sum => g.isL = true ∧ ∃ ns : List Int, xs = ns.map .int ∧ q (.int ns.sum) h
  | .max => g.isL = true ∧ ∃ (ns : List Int) (m : Int), xs = ns.map .int ∧ m ∈ ns ∧ (∀ y, y ∈ ns → y ≤ m) ∧ q (.int m) h
  | .min => g.isL = true ∧ ∃ (ns : List Int) (m : Int), xs = ns.map .int ∧ m ∈ ns ∧ (∀ y, y ∈ ns → m ≤ y) ∧ q (.int m) h
  | .all => g.isL = true ∧ ∃ bs : List Bool, xs = bs.map .bl ∧ q (.bl (bs.all id)) h
  | .any => g.isL = true ∧ ∃ bs : List Bool, xs = bs.map .bl ∧ q (.bl (bs.any id)) h
  | .sorted => g.isL = true ∧ ∃ ps, Pys h xs ps ∧ PySem.W.AllAlike ps ∧ PySem.W.Sortable ps ∧ PyData.depthAll ps ≤ 64 ∧ ∀ p, h p = none → q (.ref p) (hup h p (.lst (sortD xs ps)))
  | _ => False
def bmV (m : BM) (o : D) (ds : List D) (h : HD) (q : VQ) : Prop := match m, o, ds with
  | .append, .ref a, [d] => match h a with
    | some (.lst xs) => xs.length < sizeLine ∧ q .non (hup h a (.lst (xs ++ [d])))
    | _ => False
  | .count, .ref a, [y] => match h a with
    | some (.lst xs) => ∃ ps p, Pys h xs ps ∧ Py h y p ∧ PyData.plainAll ps = true ∧ p.plain = true ∧ PyData.depthAll ps ≤ 64 ∧ p.depth ≤ 64 ∧ q (.int (ps.countP fun z => PyData.eqv z p : Nat)) h
    | _ => False
  | .index, .ref a, [y] => match h a with
    | some (.lst xs) => ∃ ps p, ∃ (j : Nat) (z : PyData), Pys h xs ps ∧ Py h y p ∧ SeqAt.shaped (.list ps) = true ∧ SeqAt.shaped p = true ∧ ps[j]? = some z ∧ PyData.eqv z p = true ∧ (∀ (m : Nat) (z' : PyData), m < j → ps[m]? = some z' → PyData.eqv z' p = false) ∧ q (.int (j : Nat)) h
    | _ => False
  | .pop0, .ref a, [] => match h a with
    | some (.lst xs) => match xs[xs.length - 1]? with
      | some d => q d (hup h a (.lst xs.dropLast))
      | none => False
    | _ => False
  | _, _, _ => False
/-- what a method's name asks of the thing ahead of its arguments -/
def bmT (m : BM) (o : D) (h : HD) : Prop := match m, o with
  | .append, .ref a => match h a with
    | some (.lst _) => True
    | _ => False
  | .count, .ref a => match h a with
    | some (.lst _) => True
    | _ => False
  | .index, .ref a => match h a with
    | some (.lst _) => True
    | _ => False
  | .pop0, .ref a => match h a with
    | some (.lst _) => True
    | _ => False
  | _, _ => False
/-! ### iteration -/
def Gd.walk : Gd → Bool
  | .ls _ (.dic _) => false
  | .ls _ (.ins _ _) => false
  | _ => true
def rngL (lo : Int) (n : Nat) : List D := (List.range n).map fun i => .int (lo + (i : Nat))
/-- a list: its things, what must stay -/
def lsOf (h : HD) : D → Option (List D × Gd)
  | .kls xs => some (xs, .kl)
  | .ref a => match h a with
    | some (.lst xs) => some (xs, .ls a (.lst xs))
    | _ => none
  | _ => none
def zipL (xs ys : List D) : List D := (xs.zip ys).map fun p => .tup [p.1, p.2]
def zipL3 (xs ys zs : List D) : List D := (xs.zip (ys.zip zs)).map fun p => .tup [p.1, p.2.1, p.2.2]
def enumL (xs : List D) : List D := xs.zipIdx.map fun p => .tup [.int (p.2 : Nat), p.1]
def stepL (i c : Int) (n : Nat) : List D := (List.range n).map fun k => .int (i + (k : Nat) * c)
def lsK (x : D) (h : HD) (k : List D → List Gd → Prop) : Prop := match lsOf h x with
  | some (xs, g) => k xs [g]
  | none => False
def tlK (x : D) (h : HD) (k : List D → List Gd → Prop) : Prop := match x with
  | .tup xs => k xs []
  | x => lsK x h k
def zipK (x y : D) (h : HD) (q : List D → List Gd → HD → Prop) : Prop := match x with
  | .tup xs => match y with
    | .tup ys => q (zipL xs ys) [] h
    | _ => False
  | x => lsK x h fun xs g => lsK y h fun ys g' => q (zipL xs ys) (g ++ g') h
def itK (k : ItK) (xss : List D) (h : HD) (q : List D → List Gd → HD → Prop) : Prop := match k, xss with
  | .rng1, [.int n] => (-(2 ^ 62) ≤ n ∧ n < 2 ^ 62) ∧ q (rngL 0 n.toNat) [] h
  | .rng2, [.int i, .int j] => (-(2 ^ 62) ≤ i ∧ i < 2 ^ 62 ∧ -(2 ^ 62) ≤ j ∧ j < 2 ^ 62) ∧ q (rngL i (j - i).toNat) [] h
  | .rng3, [.int i, .int j, .int c] => ∃ n, L2.RgC i j c n ∧ q (stepL i c n) [] h
  | .zip2, [x, y] => zipK x y h q
  | .zip3, [.tup xs, .tup ys, .tup zs] => q (zipL3 xs ys zs) [] h
  | .zipS, [.str s, .tup ys] => q (zipL (chars s) ys) [] h
  | .enumT, [.tup xs] => q (enumL xs) [] h
  | .enum, [x] => lsK x h fun xs g => q (enumL xs) g h
  | .rev, [x] => tlK x h fun xs g => q xs.reverse g h
  | _, _ => False
/-- a list's items -/
def ulK (d : D) (h : HD) (k : List D → Prop) : Prop := match d with
  | .ref a => match h a with
    | some (.lst xs) => k xs
    | _ => False
  | _ => False
def tgS (tg : Tg) (d : D) (h : HD) (σ : Sl) (k : Sl → Prop) : Prop := match tg with
  | .nm i => k (σ.set i (some d))
  | .tp l => match d with
    | .tup xs => xs.length = l.length ∧ k ((l.zip xs).foldl (fun z p => z.set p.1 (some p.2)) σ)
    | _ => False
  | .ul l => ulK d h fun xs => xs.length = l.length ∧ k ((l.zip xs).foldl (fun z p => z.set p.1 (some p.2)) σ)
def gdsOk (h : HD) (g : List Gd) : Prop := ∀ x ∈ g, Gd.ok h x
def wipeD (σ : Sl) (own : List Nat) : Sl := own.foldr (fun i z => z.set i none) σ
/-- a comprehension over what is walked -/
def cmpR (tg : Tg) (own : List Nat) (t : TTD) (e : TED) (σ : Sl) (g : List Gd) : List D → List D → HD → (List D → HD → Prop) → Prop
  | [], acc, h, q => q acc h
  | x :: xs, acc, h, q => tgS tg x h (wipeD σ own) fun σ2 => t σ2 h (fun b h2 => if b = true then e σ2 h2 (fun y h3 => gdsOk h3 g ∧ acc.length < sizeLine ∧ cmpR tg own t e σ g xs (acc ++ [y]) h3 q) fun _ _ => False
    else gdsOk h2 g ∧ cmpR tg own t e σ g xs acc h2 q) fun _ _ => False
/-- a for over what is walked -/
def forR (tg : Tg) (b : TSD) (g : List Gd) (Z : En) : List D → Sl → HD → Prop
  | [], σ, h => Z.nx σ h
  | x :: xs, σ, h => tgS tg x h σ fun σ2 => b { Z with nx := fun σ' h' => gdsOk h' g ∧ forR tg b g Z xs σ' h', ct := fun σ' h' => gdsOk h' g ∧ forR tg b g Z xs σ' h', bk := Z.nx } σ2 h
/-- a while of at most n turns -/
def whlR (c : TTD) (b : TSD) (D : En) : Nat → Sl → HD → Prop
  | 0, _, _ => False
  | n + 1, σ, h => c σ h (fun k h1 => if k = true then b { D with nx := whlR c b D n, ct := whlR c b D n, bk := D.nx } σ h1 else D.nx σ h1) fun x h' => D.ex x σ h'
/-- in its place, or at the end -/
def putD (kvs : List (Key × D)) (k : Key) (v : D) : List (Key × D) :=
  if (kvs.any fun kv => decide (kv.1 = k)) = true then kvs.map (fun kv => if kv.1 = k then (kv.1, v) else kv) else kvs ++ [(k, v)]
/-- x[y] = d -/
def setV (x y d : D) (h : HD) (k : HD → Prop) : Prop := match x with
  | .ref a => match h a with
    | some (.dic kvs) => match keyD y with
      | some kk => kvs.length < sizeLine ∧ k (hup h a (.dic (putD kvs kk d)))
      | none => False
    | some (.lst xs) => match y with
      | .int i => match L2.ixN xs.length i with
        | some j => k (hup h a (.lst (xs.set j d)))
        | none => False
      | _ => False
    | _ => False
  | _ => False
/-- x op= y -/
def augV (op : Operator) (d e : D) (h : HD) (q : VQ) : Prop := match op, d with
  | .Add, .int i => addV (.int i) e h q
  | .Add, .str s => addV (.str s) e h q
  | .Sub, d => subV d e h q
  | _, _ => False
/-- where one walks -/
def srcV (k : ItK) (d : Dns) : TID := match k with
  | .seq => fun σ h q r => d.i σ h (fun xs g h1 => g.all Gd.walk = true ∧ q xs g h1) r
  | k => fun σ h q r => d.a σ h (fun ds h1 => itK k ds h1 q) r
def cmpD (tg : Tg) (own : List Nat) (s : TID) (t : TTD) (e : TED) : Dn :=
  { Dn.of (fun σ h q r => s σ h (fun xs g h1 => cmpR tg own t e σ g xs [] h1 fun ys h' => ∀ p, h' p = none → q (.ref p) (hup h' p (.lst ys))) r) with
    i := fun σ h q r => s σ h (fun xs g h1 => cmpR tg own t e σ g xs [] h1 fun ys h' => q ys .hid h') r }
/-- what calls do -/
structure Ca where
  call : Nat → List D → HD → VQ → XQ → Prop
  exm : Nat → Nat → Option Bool
  fv : Nat → Bool
/-- a def by its value -/
def callK (C : Ca) (o : Option D) (k : Nat → Prop) : Prop := match o with
  | some (.glo g) => C.fv g = true ∧ k g
  | _ => False
section
variable (C : Ca)
mutual
def den : E → Dn
  | .var i => .of fun σ h q _ => match (σ[i]?).join with
    | some d => q d h
    | none => False
  | .cst d => .of fun _ h q _ => q d h
  | .gl _ d => .of fun _ h q _ => q d h
  | .ty n => .of fun _ h q _ => q (.ty n) h
  | .tup es => .of fun σ h q r => (dens es).a σ h (fun ds h' => ds.length ≤ sizeLine ∧ q (.tup ds) h') r
  | .lst es => { Dn.of (fun σ h q r => (dens es).a σ h (fun ds h' => ds.length ≤ sizeLine ∧ ∀ p, h' p = none → q (.ref p) (hup h' p (.lst ds))) r) with
      i := fun σ h q r => (dens es).a σ h (fun ds h' => ds.length ≤ sizeLine ∧ q ds .hid h') r }
  | .dic ks vs => .of fun σ h q r => (dens vs).a σ h (fun ds h' => ks.length = ds.length ∧ ∀ p, h' p = none → q (.ref p) (hup h' p (.dic (ks.zip ds)))) r
  | .bin o a b => .of fun σ h q r => (den a).v σ h (fun x h1 => (den b).v σ h1 (fun y h2 => opV o x y h2 q) r) r
  | .neg a => .of fun σ h q r => (den a).v σ h (fun x h1 => negV x h1 q) r
  | .cmp o a b => .ofT (fun σ h q r => (den a).v σ h (fun x h1 => (den b).v σ h1 (fun y h2 => cmV o x y h2 q) r) r)
      fun σ h q r => (den a).v σ h (fun x h1 => (den b).v σ h1 (fun y h2 => cmV o x y h2 fun z h3 => asB z fun k => q k h3) r) r
  | .chn o o' a b c => .ofT (fun σ h q r => (den a).v σ h (fun x h1 => (den b).v σ h1 (fun y h2 => cmV o x y h2 fun z h3 => asB z fun k => if k = true then (den c).v σ h3 (fun w h4 => cmV o' y w h4 q) r else q (.bl false) h3) r) r)
      fun σ h q r => (den a).v σ h (fun x h1 => (den b).v σ h1 (fun y h2 => cmV o x y h2 fun z h3 => asB z fun k => if k = true then (den c).v σ h3 (fun w h4 => cmV o' y w h4 fun z' h5 => asB z' fun k' => q k' h5) r else q false h3) r) r
  | .nt a => .ofT (fun σ h q r => (den a).v σ h (fun x h1 => truV x h1 fun b => q (.bl (!b)) h1) r) fun σ h q r => (den a).t σ h (fun b h' => q (!b) h') r
  | .an es => (dens es).an
  | .or es => (dens es).or
  | .ife c a b => { Dn.of (fun σ h q r => (den c).t σ h (fun k h1 => if k = true then (den a).v σ h1 q r else (den b).v σ h1 q r) r) with t := fun _ _ _ _ => False }
  | .sub a i => .of fun σ h q r => (den a).v σ h (fun x h1 => (den i).v σ h1 (fun y h2 => subV' x y h2 q) r) r
  | .sl0 a => .of fun σ h q r => (den a).v σ h (fun x h1 => slcV x none none h1 q) r
  | .slL a lo => .of fun σ h q r => (den a).v σ h (fun x h1 => (den lo).v σ h1 (fun y h2 => asI y fun l => slcV x l none h2 q) r) r
  | .slU a hi => .of fun σ h q r => (den a).v σ h (fun x h1 => (den hi).v σ h1 (fun y h2 => asI y fun l => slcV x none l h2 q) r) r
  | .slB a lo hi => .of fun σ h q r => (den a).v σ h (fun x h1 => (den lo).v σ h1 (fun y h2 => asI y fun l => (den hi).v σ h2 (fun z h3 => asI z fun u => slcV x l u h3 q) r) r) r
  | .rvs a => .of fun σ h q r => (den a).v σ h (fun x h1 => rvsV x h1 q) r
  | .callv i es => .of fun σ h q r => callK C ((σ[i]?).join) fun g => (dens es).a σ h (fun ds h1 => C.call g ds h1 q r) r
  | .call f es => .of fun σ h q r => (dens es).a σ h (fun ds h1 => C.call f ds h1 q r) r
  | .bi b es => .of fun σ h q r => (dens es).a σ h (fun ds h1 => biV C.exm b ds h1 q) r
  | .bl b e => .of fun σ h q r => (den e).i σ h (fun xs g h1 => blV b xs g h1 q) r
  | .bm m o es => .of fun σ h q r => (den o).v σ h (fun x h1 => bmT m x h1 ∧ (dens es).a σ h1 (fun ds h2 => bmV m x ds h2 q) r) r
  | .comp k es tg own ifs e => cmpD tg own (srcV k (dens es)) (dens ifs).an.t (den e).v
  | _ => .bad
def dens : Es → Dns
  | .nil => { a := fun _ h q _ => q [] h, an := { Dn.bad with t := fun _ h q _ => q true h }, or := .bad, i := fun _ h q _ => q [] [] h }
  | .cons e .nil => { a := fun σ h q r => (den e).v σ h (fun d h1 => q [d] h1) r, an := den e, or := den e, i := fun σ h q r => (den e).i σ h (fun xs g h1 => q xs [g] h1) r }
  | .cons e es => {
      a := fun σ h q r => (den e).v σ h (fun d h1 => (dens es).a σ h1 (fun ds h2 => q (d :: ds) h2) r) r
      an := .ofT (fun σ h q r => (den e).v σ h (fun d h1 => truV d h1 fun b => if b = true then (dens es).an.v σ h1 q r else q d h1) r)
        fun σ h q r => (den e).t σ h (fun b h1 => if b = true then (dens es).an.t σ h1 q r else q false h1) r
      or := .ofT (fun σ h q r => (den e).v σ h (fun d h1 => truV d h1 fun b => if b = true then q d h1 else (dens es).or.v σ h1 q r) r)
        fun σ h q r => (den e).t σ h (fun b h1 => if b = true then q true h1 else (dens es).or.t σ h1 q r) r
      i := fun _ _ _ _ => False }
end
mutual
def denS : S → TSD
  | .pass => fun D σ h => D.nx σ h
  | .doc => fun D σ h => D.nx σ h
  | .brk => fun D σ h => D.bk σ h
  | .cnt => fun D σ h => D.ct σ h
  | .ex e => fun D σ h => (den C e).v σ h (fun _ h1 => D.nx σ h1) fun x h' => D.ex x σ h'
  | .ret e => fun D σ h => (den C e).v σ h D.rt fun x h' => D.ex x σ h'
  | .retN => fun D _ h => D.rt .non h
  | .set i e => fun D σ h => (den C e).v σ h (fun d h1 => D.nx (σ.set i (some d)) h1) fun x h' => D.ex x σ h'
  | .setT tg e => fun D σ h => (den C e).v σ h (fun d h1 => tgS tg d h1 σ fun σ' => D.nx σ' h1) fun x h' => D.ex x σ h'
  | .par i j a b => fun D σ h => (den C a).v σ h (fun d h1 => (den C b).v σ h1 (fun e h2 => D.nx ((σ.set i (some d)).set j (some e)) h2) fun x h' => D.ex x σ h') fun x h' => D.ex x σ h'
  | .setS o i e => fun D σ h => (den C e).v σ h (fun d h1 => (den C o).v σ h1 (fun x h2 => (den C i).v σ h2 (fun y h3 => setV x y d h3 fun h4 => D.nx σ h4) fun x h' => D.ex x σ h') fun x h' => D.ex x σ h') fun x h' => D.ex x σ h'
  | .aug i op e => fun D σ h => match (σ[i]?).join with
    | some d => (den C e).v σ h (fun x h1 => augV op d x h1 fun y h2 => D.nx (σ.set i (some y)) h2) fun x h' => D.ex x σ h'
    | none => False
  | .ite c a b => fun D σ h => (den C c).t σ h (fun k h1 => if k = true then denB a D σ h1 else denB b D σ h1) fun x h' => D.ex x σ h'
  | .whl c b => fun D σ h => ∃ n, whlR (den C c).t (denB b) D n σ h
  | .for_ k es tg b => fun D σ h => srcV k (dens C es) σ h (fun xs g h1 => forR tg (denB b) g D xs σ h1) fun x h' => D.ex x σ h'
  | .raise c => fun D σ h => D.ex c σ h
  | .try_ b x i j => fun D σ h => denB b { D with ex := fun c σ' h' => exmK (C.exm c x) (fun _ => ∀ a, h' a = none → D.nx ((σ'.set j (some (.exc c a))).set i none) h') fun _ => D.ex c σ' h' } σ h
  | _ => fun _ _ _ => False
def denB : B → TSD
  | .nil => fun D σ h => D.nx σ h
  | .cons s .nil => denS s
  | .cons s b => fun D σ h => denS s { D with nx := denB b D } σ h
end
end
end Nd
/-! Nd5: which written code a term of the small syntax stands for. -/
namespace Nd
open PySem PySem.Spec PyProof.Rows L2
/-- what is known of a def's names and of the module's -/
structure Cf where
  N : List Str
  consts : List (Str × D)
  fns : List (Str × Nat)
  cls : List (Str × Nat)
  blt : List Str
mutual
def dEq : D → D → Bool
  | .non, .non => true
  | .bl a, .bl b => a == b
  | .int a, .int b => a == b
  | .str a, .str b => decide (a = b)
  | .tup xs, .tup ys => dEqs xs ys
  | .ty a, .ty b => a == b
  | .glo a, .glo b => a == b
  | _, _ => false
def dEqs : List D → List D → Bool
  | [], [] => true
  | x :: xs, y :: ys => dEq x y && dEqs xs ys
  | _, _ => false
end
mutual
theorem dEq_ok : ∀ {a b : D}, dEq a b = true → a = b
  | .non, b, h => by cases b <;> first | rfl | cases h
  | .bl a, b, h => by cases b <;> first | (have := beq_iff_eq.mp (show (a == _) = true from h); rw [this]) | cases h
  | .int a, b, h => by cases b <;> first | (have := beq_iff_eq.mp (show (a == _) = true from h); rw [this]) | cases h
  | .str a, b, h => by cases b <;> first | (have := of_decide_eq_true (show decide (a = _) = true from h); rw [this]) | cases h
  | .tup a, b, h => by cases b <;> first | (have := dEqs_ok (show dEqs a _ = true from h); rw [this]) | cases h
  | .ty a, b, h => by cases b <;> first | (have := beq_iff_eq.mp (show (a == _) = true from h); rw [this]) | cases h
  | .glo a, b, h => by cases b <;> first | (have := beq_iff_eq.mp (show (a == _) = true from h); rw [this]) | cases h
  | .ref a, b, h => by cases b <;> cases h
  | .exc a _, b, h => by cases b <;> cases h
  | .kls a, b, h => by cases b <;> cases h
theorem dEqs_ok : ∀ {a b : List D}, dEqs a b = true → a = b
  | [], b, h => by cases b <;> first | rfl | cases h
  | x :: xs, b, h => by
    cases b with
    | nil => cases h
    | cons y ys =>
      have h' := Bool.and_eq_true_iff.mp (show (dEq x y && dEqs xs ys) = true from h)
      rw [dEq_ok h'.1, dEqs_ok h'.2]
end
def visB (sc : Scope) (x : Str) : Bool := match sc.names.lookup x with
  | some .local => true
  | some .cell => true
  | some .free => true
  | _ => false
def locB (sc : Scope) (x : Str) : Bool := match sc.names.lookup x with
  | some .local => true
  | some .cell => true
  | _ => false
def onlyLoc (sc : Scope) (x : Str) : Bool := match sc.names.lookup x with
  | some .local => true
  | _ => false
def gloB (sc : Scope) (x : Str) : Bool := match sc.names.lookup x with
  | some .globalImplicit => true
  | _ => false
def odd (x : Str) : Bool := decide (x = "__debug__") || decide (x = "__classdict__") || decide (x = "__name__")
/-- a built-in's name that is the module's no more -/
def bltB (c : Cf) (sc : Scope) (x : Str) (y : Str) : Bool := decide (x = y) && gloB sc x && decide (x ∈ c.blt) && !odd x
def isStar : Expr → Bool
  | .Starred _ _ => true
  | _ => false
def isSlice : Expr → Bool
  | .Slice _ _ _ _ => true
  | _ => false
def isCall0 : Expr → Bool
  | .Call _ [] [] _ => true
  | _ => false
def isSet : Expr → Bool
  | .Set _ _ _ => true
  | _ => false
def isComp : Expr → Bool
  | .ListComp _ _ _ _ => true
  | .SetComp _ _ _ _ => true
  | .DictComp _ _ _ _ _ => true
  | _ => false
def isTup : Expr → Bool
  | .Tuple _ _ _ => true
  | _ => false
/-- a name may take this -/
def setOk (sc : Scope) (y : Str) (py : Pos) : Expr → Bool
  | .ListComp _ _ scope xp => onlyLoc sc y && (py.line == xp.line) && !(scope.names.any fun (n, k) => n == y && (k == .local || k == .cell))
  | .SetComp _ _ _ _ => false
  | .DictComp _ _ _ _ _ => false
  | _ => true
/-- a, b = x, y that is stored name by name -/
def parOk (sc : Scope) (x y : Str) (px py : Pos) (a b : Expr) : Bool := onlyLoc sc x && onlyLoc sc y && (px.line == py.line) && decide (x ≠ y) && !isStar a && !isStar b && !(foldedForSure 8 a && foldedForSure 8 b) && !(constantsAlone 8 a && constantsAlone 8 b)
def cellIn (sc : Scope) (es : List Expr) : Bool := es.any fun
  | .Name y _ => (match sc.names.lookup y with
    | some .cell => true
    | _ => false)
  | _ => false
/-- a, b = x, y: the parts -/
def parP : Stmt → Option (Str × Pos × Str × Pos × Expr × Expr)
  | .Assign [.Tuple [.Name x px, .Name y py] _ _] (.Tuple [a, b] _ _) _ => some (x, px, y, py, a, b)
  | _ => none
theorem parP_ok {st : Stmt} {x y : Str} {px py : Pos} {a b : Expr} (h : parP st = some (x, px, y, py, a, b)) : ∃ kt pt k2 pt2 pos, st = .Assign [.Tuple [.Name x px, .Name y py] kt pt] (.Tuple [a, b] k2 pt2) pos := by
  unfold parP at h
  split at h
  · cases h
    exact ⟨_, _, _, _, _, rfl⟩
  · cases h
/-- tests of another form -/
def oddTest : Expr → Bool
  | .UnaryOp .Not _ _ => true
  | .BoolOp _ _ _ => true
  | .IfExp _ _ _ _ => true
  | .Compare _ _ _ _ => true
  | _ => false
def biN : BI → Str
  | .isi => "isinstance" | .len => "len" | .abs => "abs" | .int1 => "int" | .max2 => "max" | .min2 => "min" | .max3 => "max" | .str1 => "str" | .bool1 => "bool" | .repr1 => "repr"
def biA : BI → Nat
  | .isi => 2 | .max2 => 2 | .min2 => 2 | .max3 => 3 | _ => 1
def blN : BL → Str
  | .tuple => "tuple" | .list => "list" | .sum => "sum" | .max => "max" | .min => "min" | .all => "all" | .any => "any" | .sorted => "sorted" | .dict => "dict"
def bmN : BM → Str
  | .append => "append" | .pop0 => "pop" | .pop1 => "pop" | .insert => "insert" | .get1 => "get" | .get2 => "get" | .index => "index" | .count => "count" | .extend => "extend" | .clear => "clear" | .remove => "remove" | .split => "split" | .join => "join" | .update => "update" | .upper => "upper"
/-- methods that are served -/
def bmOk : BM → Bool
  | .append => true
  | .pop0 => true
  | .count => true
  | .index => true
  | _ => false
def bmA : BM → Nat
  | .pop0 => 0 | .clear => 0 | .upper => 0 | .insert => 2 | .get2 => 2 | _ => 1
def itN : ItK → Str
  | .rng1 => "range" | .rng2 => "range" | .rng3 => "range" | .zip2 => "zip" | .zip3 => "zip" | .zipS => "zip" | .enum => "enumerate" | .enumT => "enumerate" | .rev => "reversed" | _ => ""
def tyS (n : String) : Bool := n == "ValueError" || n == "int" || n == "bool" || n == "str" || n == "tuple" || n == "list" || n == "dict"
/-- walks that are served, how many things they take -/
def itA : ItK → Option Nat
  | .rng1 => some 1 | .rng2 => some 2 | .rng3 => some 3 | .zip2 => some 2 | .zip3 => some 3 | .zipS => some 2 | .enum => some 1 | .enumT => some 1 | .rev => some 1 | _ => none
/-- the walks of pairs -/
def itT : ItK → Bool
  | .enumT => true | .zip2 => true | .zip3 => true | .zipS => true | .enum => true | _ => false
/-- keys that are written -/
def chkKs : List Key → List (Option Expr) → Bool
  | [], [] => true
  | .inl i :: ks, some (.Constant (.int j) _ _) :: es => decide (i = j) && chkKs ks es
  | .inr s :: ks, some (.Constant (.str t) _ _) :: es => decide (s = t) && chkKs ks es
  | _, _ => false
def chkTg (c : Cf) (sc : Scope) : Tg → Expr → Bool
  | .nm i, .Name x _ => decide (c.N[i]? = some x) && locB sc x
  | .tp l, .Tuple es _ _ => go l es
  | .ul l, .Tuple es _ _ => go l es
  | _, _ => false
where go : List Nat → List Expr → Bool
  | [], [] => true
  | i :: l, .Name x _ :: es => decide (c.N[i]? = some x) && locB sc x && go l es
  | _, _ => false
def tgSlots : Tg → List Nat
  | .nm i => [i]
  | .tp l => l
  | .ul l => l
/-- a comprehension's own names, by slots -/
def ownOf (c : Cf) (own : List Nat) : List (Str × Nat) := own.map fun i => ((c.N[i]?).getD "", i)
/-- where one walks, its parts being fit -/
def srcOk (f : List Expr → Bool) (c : Cf) (sc : Scope) (k : ItK) (tx it : Expr) : Bool := match k, it with
  | .seq, it => f [it]
  | k, .Call (.Name y _) m [] _ => bltB c sc y (itN k) && f m && decide (itA k = some m.length) && (!itT k || isTup tx)
  | _, _ => false
mutual
def chkE (c : Cf) (sc : Scope) : E → Expr → Bool
  | .var i, .Name x _ => decide (c.N[i]? = some x) && visB sc x && !odd x
  | .cst .non, .Constant .none _ _ => true
  | .cst (.bl a), .Constant (.bool b) _ _ => a == b
  | .cst (.int a), .Constant (.int b) _ _ => a == b
  | .cst (.str a), .Constant (.str b) _ _ => decide (a = b) && decide (a.length ≤ sizeLine) && PyData.strOk a
  | .gl y d, .Name x _ => decide (x = y) && gloB sc x && !odd x && (match c.consts.lookup x with
    | some e => dEq d e
    | none => false)
  | .ty n, .Name x _ => tyS n && bltB c sc x (Str.ofString n)
  | .tup es, .Tuple l _ _ => chkEs c sc es l
  | .lst es, .List l _ => chkEs c sc es l
  | .dic ks vs, .Dict l m _ => chkKs ks l && chkEs c sc vs m && decide (l.length = m.length) && decide (l.length ≤ 15) && decide (ks.Nodup)
  | .bin o a b, .BinOp x o' y _ => decide (o = o') && chkE c sc a x && chkE c sc b y
  | .neg a, .UnaryOp .USub x _ => chkE c sc a x
  | .cmp o a b, .Compare x [o'] [y] _ => decide (o = o') && chkE c sc a x && chkE c sc b y && !isSet y
  | .chn o p a b d, .Compare x [o', p'] [y, z] _ => decide (o = o') && decide (p = p') && chkE c sc a x && chkE c sc b y && chkE c sc d z && !isSet y && !isSet z
  | .nt a, .UnaryOp .Not x _ => chkE c sc a x
  | .an es, .BoolOp .And l _ => chkEs c sc es l && decide (2 ≤ l.length)
  | .or es, .BoolOp .Or l _ => chkEs c sc es l && decide (2 ≤ l.length)
  | .ife t a b, .IfExp x y z _ => chkE c sc t x && chkE c sc a y && chkE c sc b z
  | .sub a i, .Subscript x y _ => chkE c sc a x && chkE c sc i y && !isSlice y
  | .sl0 a, .Subscript x (.Slice none none none _) _ => chkE c sc a x
  | .slL a lo, .Subscript x (.Slice (some l) none none _) _ => chkE c sc a x && chkE c sc lo l
  | .slU a hi, .Subscript x (.Slice none (some u) none _) _ => chkE c sc a x && chkE c sc hi u
  | .slB a lo hi, .Subscript x (.Slice (some l) (some u) none _) _ => chkE c sc a x && chkE c sc lo l && chkE c sc hi u
  | .rvs a, .Subscript x (.Slice none none (some (.UnaryOp .USub (.Constant (.int k) _ _) _)) _) _ => decide (k = 1) && chkE c sc a x
  | .callv i es, .Call (.Name x _) l [] _ => decide (c.N[i]? = some x) && visB sc x && !odd x && decide (1 ≤ l.length) && chkEs c sc es l
  | .call f es, .Call (.Name x _) l [] _ => gloB sc x && !odd x && decide (c.fns.lookup x = some f) && chkEs c sc es l
  | .bi b es, .Call (.Name x _) l [] _ => bltB c sc x (biN b) && chkEs c sc es l && decide (l.length = biA b)
  | .bl b e, .Call (.Name x _) [z] [] _ => bltB c sc x (blN b) && chkE c sc e z && !isStar z
  | .bm m o es, .Call (.Attribute x f ap) l [] p => bmOk m && decide (f = bmN m) && chkE c sc o x && chkEs c sc es l && decide (l.length = bmA m) && (ap.endLine == p.line) && !isCall0 x
  | .comp k es tg own ifs e, .ListComp x [⟨t, it, l, 0⟩] scope _ => blkC c.N sc scope (ownOf c own) && (tgSlots tg).all (fun i => decide (i ∈ own)) && chkTg c scope tg t && chkEs c scope ifs l && decide (l.length ≤ 1) && chkE c scope e x && !isSet it && srcOk (fun m => chkEs c sc es m) c sc k t it
  | _, _ => false
def chkEs (c : Cf) (sc : Scope) : Es → List Expr → Bool
  | .nil, [] => true
  | .cons e es, x :: l => chkE c sc e x && !isStar x && chkEs c sc es l
  | _, _ => false
end
/-- try: body, except x as n: y = n -/
def tryP : Stmt → Option (List Stmt × Str × Str × Str)
  | .Try body [.ExceptHandler (some (.Name x _)) (some n) [.Assign [.Name y _] (.Name n' _) _] _] [] [] _ => if n' = n then some (body, x, n, y) else none
  | _ => none
theorem tryP_ok {st : Stmt} {body : List Stmt} {x n y : Str} (h : tryP st = some (body, x, n, y)) : ∃ np yp ap p2 pos' pos, st = .Try body [.ExceptHandler (some (.Name x np)) (some n) [.Assign [.Name y yp] (.Name n ap) p2] pos'] [] [] pos := by
  unfold tryP at h
  split at h
  · rename_i n' _ _ _
    split at h
    · rename_i e
      subst e
      cases h
      exact ⟨_, _, _, _, _, _, rfl⟩
    · cases h
  · cases h
mutual
def chkS (c : Cf) (sc : Scope) : S → Stmt → Bool
  | .pass, .Pass _ => true
  | .doc, .Expr (.Constant (.str _) _ _) _ => true
  | .brk, .Break _ => true
  | .cnt, .Continue _ => true
  | .ex e, .Expr x _ => chkE c sc e x && !isComp x
  | .ret e, .Return (some x) _ => chkE c sc e x
  | .retN, .Return none _ => true
  | .set i e, .Assign [.Name y py] x p => decide (c.N[i]? = some y) && locB sc y && chkE c sc e x && setOk sc y py x
  | .setT tg e, .Assign [.Tuple es k q] x p => chkTg c sc tg (.Tuple es k q) && chkE c sc e x && !isComp x && (!isTup x || cellIn sc es)
  | .setS o i e, .Assign [.Subscript x y _] z _ => chkE c sc e z && chkE c sc o x && chkE c sc i y && !isSlice y
  | .aug i op e, .AugAssign (.Name y _) o x _ => decide (op = o) && decide (c.N[i]? = some y) && locB sc y && chkE c sc e x
  | .ite t a b, .If x l m _ => chkE c sc t x && chkB c sc a l && chkB c sc b m
  | .whl t b, .While x l [] _ => chkE c sc t x && chkB c sc b l
  | .for_ k es tg b, .For t it l [] _ => chkTg c sc tg t && chkB c sc b l && !isSet it && srcOk (fun m => chkEs c sc es m) c sc k t it
  | .par i j a b, st => match parP st with
    | some (x, px, y, py, e1, e2) => decide (c.N[i]? = some x) && decide (c.N[j]? = some y) && decide (i ≠ j) && parOk sc x y px py e1 e2 && chkE c sc a e1 && chkE c sc b e2
    | none => false
  | .try_ b g i j, st => match tryP st with
    | some (body, x, n, y) => chkB c sc b body && (gloB sc x && !odd x && decide (c.cls.lookup x = some g)) && (decide (c.N[i]? = some n) && onlyLoc sc n && !odd n) && (decide (c.N[j]? = some y) && locB sc y && decide (i ≠ j) && decide (g ≠ 1000000))
    | none => false
  | .raise g, .Raise (some (.Call (.Name x _) [.Constant (.str _) _ _] [] _)) none _ => gloB sc x && !odd x && decide (c.cls.lookup x = some g)
  | _, _ => false
def chkB (c : Cf) (sc : Scope) : B → List Stmt → Bool
  | .nil, [] => true
  | .cons s b, x :: l => chkS c sc s x && chkB c sc b l
  | _, _ => false
end
end Nd
/-! Nd6: contexts, iteration, the parts of the soundness of the small syntax. -/
namespace Nd
open PySem PySem.Spec PyProof.Rows L2
/-- the names of a scope as they stand in a running frame -/
structure EnvOk (sc : Scope) (X : Cx) : Prop where
  loc : ∀ x, sc.names.lookup x = some .local → X.env.scope.names.lookup x = some .local
  cell : ∀ x, sc.names.lookup x = some .cell → X.env.scope.names.lookup x = some .cell ∧ X.fn x = true
  free : ∀ x, sc.names.lookup x = some .free → X.env.scope.names.lookup x = some .free ∨ X.env.scope.names.lookup x = some .cell
  glo : ∀ x, sc.names.lookup x = some .globalImplicit → X.env.scope.names.lookup x = some .globalImplicit
/-- what a def promises: what its denotation says -/
def spOf (K : PySem.W.Frag) (G : Nat → Addr) (call : List D → HD → VQ → XQ → Prop) : Sp := fun vs H Q E =>
  ∃ ds h q r, RDs K G H ds vs ∧ RH K G H h ∧ call ds h q r ∧ Cont K G H h q Q ∧ ∀ c h' H', Fx H h H' h' → RH K G H' h' → r c h' → E (.ref (G c)) none H'
structure FnAt (X : Cx) (G : Nat → Addr) (n : Nat) (call : List D → HD → VQ → XQ → Prop) (f : Addr) : Prop where
  ok : ∃ fd ps, FnG X.prog X.w X.K X.mg X.base (CX X.prog X.w) n f fd ps (spOf X.K G call) ∧ Binds X.K fd ps []
  kp : PySem.W.keepIn X.K (.ref f) = true
structure ExcAt (X : Cx) (C : Addr) : Prop where
  ex : PySem.W.excIn X.K C [.type "ValueError", .type "Exception", .type "BaseException", .type "object"] "ValueError.__new__" = true
  kp : PySem.W.keepIn X.K (.ref C) = true
  sub : PySem.W.subIn X.K (.ref C) (.type "BaseException") = some true
  ty : PySem.W.typeIn X.K (.ref C) = some (.type "type")
/-- what isinstance asks of a caught error's class -/
def ExmOk (K : PySem.W.Frag) (G : Nat → Addr) (C : Ca) : Prop := ∀ c g b, C.exm c g = some b → ExcC K (G c) ∧ (g = 1000000 → PySem.W.kitOne K (.ref (G c)) (.type "ValueError") = some b) ∧ (g ≠ 1000000 → PySem.W.kitOne K (.ref (G c)) (.ref (G g)) = some b ∧ PySem.W.exmOne K (.ref (G c)) (.ref (G g)) = some b)
/-- the module's facts that code leans on -/
structure GF (X : Cx) (G : Nat → Addr) (C : Ca) (c : Cf) (n : Nat) : Prop where
  blt : ∀ x ∈ c.blt, X.mg x = none
  consts : ∀ x d, c.consts.lookup x = some d → ∃ u v, X.mg x = some u ∧ RelV v u ∧ ∀ H, RD X.K G H d v
  fns : ∀ x f, c.fns.lookup x = some f → X.mg x = some (.ref (G f)) ∧ FnAt X G n (C.call f) (G f)
  cls : ∀ x g, c.cls.lookup x = some g → X.mg x = some (.ref (G g)) ∧ ExcAt X (G g)
  exm : ExmOk X.K G C
  fv : ∀ g, C.fv g = true → FnAt X G n (C.call g) (G g)
structure Co (X : Cx) (G : Nat → Addr) (W : WX) (C : Ca) (c : Cf) (sc : Scope) (n : Nat) : Prop where
  hN : X.N = c.N
  nd : X.N.Nodup
  env : EnvOk sc X
  calm : X.calm = true
  room : Room n X.A
  gd : X.A.guards = some []
  tk : Takes X W
  gf : GF X G C c n
section
variable {X : Cx} {G : Nat → Addr} {W : WX} {C : Ca} {c : Cf} {sc : Scope} {n : Nat}
theorem odd_no {x : Str} (h : (!odd x) = true) : (x == ("__debug__" : Str)) = false ∧ (x == ("__classdict__" : Str)) = false ∧ x ≠ "__name__" := by
  unfold odd at h
  rw [Bool.not_eq_true', Bool.or_eq_false_iff, Bool.or_eq_false_iff] at h
  obtain ⟨⟨h1, h2⟩, h3⟩ := h
  exact ⟨by simpa using of_decide_eq_false h1, by simpa using of_decide_eq_false h2, of_decide_eq_false h3⟩
theorem vis_ok (e : EnvOk sc X) {x : Str} (h : visB sc x = true) : Vis X.env.scope x := by
  unfold visB at h
  split at h
  · rename_i q; exact .inl (e.loc x q)
  · rename_i q; exact .inr (.inl (e.cell x q).1)
  · rename_i q
    rcases e.free x q with z | z
    · exact .inr (.inr z)
    · exact .inr (.inl z)
  · cases h
theorem loc_ok (e : EnvOk sc X) {x : Str} (h : locB sc x = true) : Loc X.env.scope x ∧ (X.fn x = true ∨ X.env.scope.names.lookup x = some .local) := by
  unfold locB at h
  split at h
  · rename_i q; exact ⟨.inl (e.loc x q), .inr (e.loc x q)⟩
  · rename_i q; exact ⟨.inr (e.cell x q).1, .inl (e.cell x q).2⟩
  · cases h
theorem glo_ok (e : EnvOk sc X) {x : Str} (h : gloB sc x = true) : Gl X x := by
  unfold gloB at h
  split at h
  · rename_i q; exact e.glo x q
  · cases h
theorem blt_ok (co : Co X G W C c sc n) {x y : Str} (h : bltB c sc x y = true) : x = y ∧ Gl X x ∧ X.mg x = none ∧ (x == ("__debug__" : Str)) = false ∧ x ≠ "__name__" := by
  unfold bltB at h
  rw [Bool.and_eq_true, Bool.and_eq_true, Bool.and_eq_true] at h
  obtain ⟨⟨⟨h1, h2⟩, h3⟩, h4⟩ := h
  obtain ⟨o1, _, o3⟩ := odd_no h4
  exact ⟨of_decide_eq_true h1, glo_ok co.env h2, co.gf.blt x (of_decide_eq_true h3), o1, o3⟩
/-! ### what is walked -/
inductive ItR (K : PySem.W.Frag) (G : Nat → Addr) (H : Hp) (h : HD) : V → List D → Gd → Prop
  | tup {p : Addr} {vs : List V} {xs : List D} : TupAt K H p vs → RDs K G H xs vs → xs.length ≤ sizeLine → ItR K G H h (.ref p) xs .tp
  | str {s : Str} : StrG s → ItR K G H h (.str s) (chars s) .st
  | lst {p : Addr} {xs : List D} : h p = some (.lst xs) → ItR K G H h (.ref p) xs (.ls p (.lst xs))
  | kls {p : Addr} {vs : List V} {xs : List D} : KlsAt K H p vs → RDs K G H xs vs → xs.length ≤ sizeLine → ItR K G H h (.ref p) xs .kl
  | dic {p : Addr} {kvs : List (Key × D)} : h p = some (.dic kvs) → ItR K G H h (.ref p) (kvs.map fun q => kD q.1) (.ls p (.dic kvs))
  | hid {p : Addr} {vs : List V} {xs : List D} : H p = some (.lst vs) → h p = none → RDs K G H xs vs → xs.length ≤ sizeLine → ItR K G H h (.ref p) xs .hid
def liftI (K : PySem.W.Frag) (G : Nat → Addr) (W : WX) (t : Sl → HD → (List D → Gd → HD → Prop) → XQ → Prop) : TE := fun σ H Q => ∃ a h q r, RS K G H a σ ∧ RH K G H h ∧ t a h q r ∧
  (∀ xs g h' v H', Fx H h H' h' → ItR K G H' h' v xs g → RH K G H' h' → q xs g h' → Q v H') ∧ ContX K G W σ H h r
structure Snd (X : Cx) (G : Nat → Addr) (W : WX) (d : Dn) (e : Expr) : Prop where
  v : PE X e (lift X.K G W d.v)
  t : PT X e (liftT X.K G W d.t)
  i : PE X e (liftI X.K G W d.i)
theorem RDs.emp {K : PySem.W.Frag} {H : Hp} {ds : List D} {vs : List V} (r : RDs K G H ds vs) : ds.isEmpty = vs.isEmpty := by
  cases r <;> rfl
theorem tru_of {K : PySem.W.Frag} {H : Hp} {h : HD} {d : D} {x : V} {k : Bool → Prop} (r : RD K G H d x) (rh : RH K G H h) (t : truV d h k) : ∃ b, TruV K x H b ∧ k b := by
  cases r with
  | non => exact ⟨false, rfl, t⟩
  | bl b => exact ⟨b, rfl, t⟩
  | int i => exact ⟨_, rfl, t⟩
  | str s g => exact ⟨_, ⟨g.1, rfl⟩, t⟩
  | tup ta l r => exact ⟨_, .inr (.inl ⟨_, ta.sq, rfl⟩), by rw [← r.emp]; exact t⟩
  | kls ta l r => exact ⟨_, .inl ⟨_, ta.sq, rfl⟩, by rw [← r.emp]; exact t⟩
  | ref a =>
    unfold truV at t
    dsimp only at t
    split at t
    · rename_i xs e
      obtain ⟨vs, h1, _, h3⟩ := rh a _ e
      exact ⟨_, .inl ⟨vs, .inl (.inl h1), rfl⟩, by rw [← h3.emp]; exact t⟩
    · rename_i xs e
      obtain ⟨vs, h1, _, h3⟩ := rh a _ e
      refine ⟨_, .inr (.inr ⟨vs, h1, rfl⟩), ?_⟩
      have : xs.isEmpty = vs.isEmpty := by cases h3 <;> rfl
      rw [← this]; exact t
    · exact t.elim
  | ty n => exact t.elim
  | glo g => exact t.elim
  | exc t' => exact t.elim
theorem it_of {K : PySem.W.Frag} {H : Hp} {h : HD} {d : D} {x : V} {k : List D → Gd → Prop} (r : RD K G H d x) (rh : RH K G H h) (t : itV d h k) : ∃ xs g, ItR K G H h x xs g ∧ k xs g := by
  cases r with
  | str s g => exact ⟨_, _, .str g, t⟩
  | tup ta l r => exact ⟨_, _, .tup ta r l, t⟩
  | kls ta l r => exact ⟨_, _, .kls ta r l, t⟩
  | ref a =>
    unfold itV at t
    dsimp only at t
    split at t
    · rename_i xs e; exact ⟨_, _, .lst e, t⟩
    · rename_i xs e; exact ⟨_, _, .dic e, t⟩
    · exact t.elim
  | non => exact t.elim
  | bl b => exact t.elim
  | int i => exact t.elim
  | ty n => exact t.elim
  | glo g => exact t.elim
  | exc t' => exact t.elim
theorem plainT {e : Expr} (h : oddTest e = false) : ∀ whole, isTrue e X.env whole = (do let v ← whole; standAt e.pos; holding [v] (truthy v)) := by
  intro whole
  cases e with
  | UnaryOp o a p => cases o <;> first | rfl | cases h
  | BoolOp o a p => cases h
  | IfExp a b c' p => cases h
  | Compare a b c' p => cases h
  | _ => rfl
theorem snd_t {e : Expr} {v : TED} (hv : PE X e (lift X.K G W v)) (ho : oddTest e = false) : PT X e (liftT X.K G W (Dn.of v).t) :=
  PT.imp (pt_truth hv (plainT ho)) fun σ H Q ⟨a, h, q, r, rs, rh, ht, k, kx⟩ => ⟨a, h, _, r, rs, rh, ht, fun d h1 v1 H1 fx rd rh1 hq => by
    obtain ⟨b, t1, t2⟩ := tru_of (k := fun b => q b h1) rd rh1 hq
    exact ⟨b, t1, k b h1 H1 fx rh1 t2⟩, kx⟩
theorem snd_i {e : Expr} {v : TED} (hv : PE X e (lift X.K G W v)) : PE X e (liftI X.K G W (Dn.of v).i) :=
  PE.imp hv fun σ H Q ⟨a, h, q, r, rs, rh, ht, k, kx⟩ => ⟨a, h, _, r, rs, rh, ht, fun d h1 v1 H1 fx rd rh1 hq => by
    obtain ⟨xs, g, t1, t2⟩ := it_of (k := fun xs g => q xs g h1) rd rh1 hq
    exact k xs g h1 v1 H1 fx t1 rh1 t2, kx⟩
theorem snd_of {e : Expr} {v : TED} (hv : PE X e (lift X.K G W v)) (ho : oddTest e = false) : Snd X G W (Dn.of v) e := ⟨hv, snd_t hv ho, snd_i hv⟩
theorem pe_false {e : Expr} {t : TE} (h : ∀ σ H Q, ¬ t σ H Q) : PE X e t := ⟨fun _ _ _ _ _ _ q => absurd q (h _ _ _)⟩
theorem pt_false {e : Expr} {t : TT} (h : ∀ σ H Q, ¬ t σ H Q) : PT X e t := ⟨fun _ _ _ _ _ _ q => absurd q (h _ _ _)⟩
theorem i_no {e : Expr} : PE X e (liftI X.K G W fun _ _ _ _ => False) := pe_false fun _ _ _ ⟨_, _, _, _, _, _, f, _⟩ => f
theorem snd_bad {e : Expr} : Snd X G W Dn.bad e := ⟨pe_false fun _ _ _ ⟨_, _, _, _, _, _, f, _⟩ => f, pt_false fun _ _ _ ⟨_, _, _, _, _, _, f, _⟩ => f, pe_false fun _ _ _ ⟨_, _, _, _, _, _, f, _⟩ => f⟩
/-! ### names, constants -/
theorem p_var (co : Co X G W C c sc n) {i : Nat} {x : Str} {pos : Pos} (h1 : c.N[i]? = some x) (h2 : visB sc x = true) (h3 : (!odd x) = true) : PE X (.Name x pos) (lift X.K G W fun σ h q _ => match (σ[i]?).join with
    | some d => q d h
    | none => False) := by
  obtain ⟨o1, o2, _⟩ := odd_no h3
  refine PE.imp (pe_var (i := i) (by rw [co.hN]; exact h1) (vis_ok co.env h2) o1 o2) fun σ H Q ⟨a, h, q, r, rs, rh, ht, k, kx⟩ => ?_
  dsimp only at ht
  cases e : a[i]? with
  | none => rw [e] at ht; exact ht.elim
  | some o =>
    rw [e] at ht
    cases o with
    | none => exact ht.elim
    | some d =>
      obtain ⟨v, e1, e2⟩ := rs.get e
      exact ⟨v, e1, k d h v H Fx.refl e2 rh ht⟩
theorem p_con {e : Expr} {d : D} {v : V} (he : PE X e (tC v)) (r : ∀ H, RD X.K G H d v) : PE X e (lift X.K G W fun _ h q _ => q d h) :=
  PE.imp he fun σ H Q ⟨a, h, q, rr, rs, rh, ht, k, kx⟩ => k d h v H Fx.refl (r H) rh ht
theorem p_gl (co : Co X G W C c sc n) {x : Str} {d : D} {pos : Pos} (h1 : gloB sc x = true) (h2 : (!odd x) = true) (h3 : c.consts.lookup x = some d) : PE X (.Name x pos) (lift X.K G W fun _ h q _ => q d h) := by
  obtain ⟨u, v, e1, e2, e3⟩ := co.gf.consts x d h3
  exact p_con (pe_glob (glo_ok co.env h1) e1 e2 (odd_no h2).1) e3
/-! ### two in a row -/
theorem p_bin {a b : Expr} {ta tb : TED} {op : Operator} {r : OpD} {pos : Pos} (ha : PE X a (lift X.K G W ta)) (hb : PE X b (lift X.K G W tb)) (ho : OpR X (binaryOp op) (lop X.K G r)) :
    PE X (.BinOp a op b pos) (lift X.K G W fun σ h q x => ta σ h (fun d h1 => tb σ h1 (fun e h2 => r d e h2 q) x) x) :=
  PE.imp (pe_op ho ha hb) fun σ H Q ⟨a, h, q, x, rs, rh, ht, k, kx⟩ =>
    ⟨a, h, _, x, rs, rh, ht, fun d h1 v1 H1 fx1 rd1 rh1 hq1 => ⟨a, h1, _, x, rs.ext fx1.ext, rh1, hq1, fun e h2 v2 H2 fx2 rd2 rh2 hq2 => ⟨d, e, h2, q, rd1.ext fx2.ext, rd2, rh2, hq2, k.ext (fx1.trans fx2)⟩, kx.ext fx1⟩, kx⟩
theorem nomark' {b : Expr} {op : CmpOp} (h : (!isSet b) = true) : behindInMarks op b = false := by
  cases b <;> first | rfl | cases h
theorem nomarks' {b b' : Expr} {op op' : CmpOp} (h : (!isSet b') = true) : lastMarks [op, op'] [b, b'] = false := nomark' h
theorem p_cmp {a b : Expr} {ta tb : TED} {op : CmpOp} {r : OpD} {pos : Pos} (ha : PE X a (lift X.K G W ta)) (hb : PE X b (lift X.K G W tb)) (ho : OpR X (compareOp op) (lop X.K G r)) (hm : (!isSet b) = true) :
    PE X (.Compare a [op] [b] pos) (lift X.K G W fun σ h q x => ta σ h (fun d h1 => tb σ h1 (fun e h2 => r d e h2 q) x) x) :=
  PE.imp (pe_cmpR ho ha hb (nomark' hm)) fun σ H Q ⟨a, h, q, x, rs, rh, ht, k, kx⟩ =>
    ⟨a, h, _, x, rs, rh, ht, fun d h1 v1 H1 fx1 rd1 rh1 hq1 => ⟨a, h1, _, x, rs.ext fx1.ext, rh1, hq1, fun e h2 v2 H2 fx2 rd2 rh2 hq2 => ⟨d, e, h2, q, rd1.ext fx2.ext, rd2, rh2, hq2, k.ext (fx1.trans fx2)⟩, kx.ext fx1⟩, kx⟩
theorem asB_of {K : PySem.W.Frag} {H : Hp} {d : D} {v : V} {k : Bool → Prop} (r : RD K G H d v) (h : asB d k) : ∃ b, v = .bl b ∧ k b := by
  cases r with
  | bl b => exact ⟨b, rfl, h⟩
  | _ => exact h.elim
theorem t_cmp {a b : Expr} {ta tb : TED} {op : CmpOp} {r : OpD} {pos : Pos} (ha : PE X a (lift X.K G W ta)) (hb : PE X b (lift X.K G W tb)) (ho : OpR X (compareOp op) (lop X.K G r)) (hm : (!isSet b) = true) :
    PT X (.Compare a [op] [b] pos) (liftT X.K G W fun σ h q x => ta σ h (fun d h1 => tb σ h1 (fun e h2 => r d e h2 fun z h3 => asB z fun k => q k h3) x) x) :=
  PT.imp (pt_cmpR ho ha hb (nomark' hm)) fun σ H Q ⟨a, h, q, x, rs, rh, ht, k, kx⟩ =>
    ⟨a, h, _, x, rs, rh, ht, fun d h1 v1 H1 fx1 rd1 rh1 hq1 => ⟨a, h1, _, x, rs.ext fx1.ext, rh1, hq1, fun e h2 v2 H2 fx2 rd2 rh2 hq2 => ⟨d, e, h2, _, rd1.ext fx2.ext, rd2, rh2, hq2, fun z h3 v3 H3 fx3 rd3 rh3 hq3 => by
      obtain ⟨b, e1, e2⟩ := asB_of rd3 hq3
      exact ⟨b, e1, k b h3 H3 (fx1.trans (fx2.trans fx3)) rh3 e2⟩⟩, kx.ext fx1⟩, kx⟩
theorem p_chn {a b e : Expr} {ta tb tc : TED} {op op' : CmpOp} {r r' : OpD} {pos : Pos} (ha : PE X a (lift X.K G W ta)) (hb : PE X b (lift X.K G W tb)) (hc : PE X e (lift X.K G W tc)) (ho : OpR X (compareOp op) (lop X.K G r)) (ho' : OpR X (compareOp op') (lop X.K G r'))
    (hm : (!isSet e) = true) :
    PE X (.Compare a [op, op'] [b, e] pos) (lift X.K G W fun σ h q x => ta σ h (fun d h1 => tb σ h1 (fun e h2 => r d e h2 fun z h3 => asB z fun k => if k = true then tc σ h3 (fun w h4 => r' e w h4 q) x else q (.bl false) h3) x) x) :=
  PE.imp (pe_chain ho ho' ha hb hc (nomarks' hm)) fun σ H Q ⟨a, h, q, x, rs, rh, ht, k, kx⟩ =>
    ⟨a, h, _, x, rs, rh, ht, fun d h1 v1 H1 fx1 rd1 rh1 hq1 => ⟨a, h1, _, x, rs.ext fx1.ext, rh1, hq1, fun e h2 v2 H2 fx2 rd2 rh2 hq2 => ⟨d, e, h2, _, rd1.ext fx2.ext, rd2, rh2, hq2, fun z h3 v3 H3 fx3 rd3 rh3 hq3 => by
      obtain ⟨b, e1, e2⟩ := asB_of rd3 hq3
      have f3 := fx1.trans (fx2.trans fx3)
      refine ⟨b, e1, ?_⟩
      cases b with
      | true => exact ⟨a, h3, _, x, rs.ext f3.ext, rh3, e2, fun w h4 v4 H4 fx4 rd4 rh4 hq4 => ⟨e, w, h4, q, rd2.ext (fx3.trans fx4).ext, rd4, rh4, hq4, k.ext (f3.trans fx4)⟩, kx.ext f3⟩
      | false => exact k _ _ _ _ f3 (.bl false) rh3 e2⟩, kx.ext fx1⟩, kx⟩
theorem t_chn {a b e : Expr} {ta tb tc : TED} {op op' : CmpOp} {r r' : OpD} {pos : Pos} (ha : PE X a (lift X.K G W ta)) (hb : PE X b (lift X.K G W tb)) (hc : PE X e (lift X.K G W tc)) (ho : OpR X (compareOp op) (lop X.K G r)) (ho' : OpR X (compareOp op') (lop X.K G r'))
    (hm : (!isSet e) = true) :
    PT X (.Compare a [op, op'] [b, e] pos) (liftT X.K G W fun σ h q x => ta σ h (fun d h1 => tb σ h1 (fun e h2 => r d e h2 fun z h3 => asB z fun k => if k = true then tc σ h3 (fun w h4 => r' e w h4 fun z' h5 => asB z' fun k' => q k' h5) x else q false h3) x) x) :=
  PT.imp (pt_chain ho ho' ha hb hc (nomarks' hm)) fun σ H Q ⟨a, h, q, x, rs, rh, ht, k, kx⟩ =>
    ⟨a, h, _, x, rs, rh, ht, fun d h1 v1 H1 fx1 rd1 rh1 hq1 => ⟨a, h1, _, x, rs.ext fx1.ext, rh1, hq1, fun e h2 v2 H2 fx2 rd2 rh2 hq2 => ⟨d, e, h2, _, rd1.ext fx2.ext, rd2, rh2, hq2, fun z h3 v3 H3 fx3 rd3 rh3 hq3 => by
      obtain ⟨b, e1, e2⟩ := asB_of rd3 hq3
      have f3 := fx1.trans (fx2.trans fx3)
      refine ⟨b, e1, ?_⟩
      cases b with
      | true => exact ⟨a, h3, _, x, rs.ext f3.ext, rh3, e2, fun w h4 v4 H4 fx4 rd4 rh4 hq4 => ⟨e, w, h4, _, rd2.ext (fx3.trans fx4).ext, rd4, rh4, hq4, fun z' h5 v5 H5 fx5 rd5 rh5 hq5 => by
          obtain ⟨b', e1', e2'⟩ := asB_of rd5 hq5
          exact ⟨b', e1', k _ _ _ (f3.trans (fx4.trans fx5)) rh5 e2'⟩⟩, kx.ext f3⟩
      | false => exact ⟨false, rfl, k _ _ _ f3 rh3 e2⟩⟩, kx.ext fx1⟩, kx⟩
theorem s_neg : UnR X (unaryOp .USub) (lun X.K G negV) := by
  intro pins s σ H x v Q I rx ⟨d, h, q, hd, hh, hr, k⟩
  cases hd with
  | int i => exact un_neg pins s σ H _ v Q I rx ⟨i, rfl, k _ _ _ _ Fx.refl (.int _) hh hr⟩
  | _ => exact hr.elim
theorem p_neg {a : Expr} {ta : TED} {pos : Pos} (ha : PE X a (lift X.K G W ta)) : PE X (.UnaryOp .USub a pos) (lift X.K G W fun σ h q x => ta σ h (fun d h1 => negV d h1 q) x) :=
  PE.imp (pe_un s_neg ha) fun σ H Q ⟨a, h, q, x, rs, rh, ht, k, kx⟩ => ⟨a, h, _, x, rs, rh, ht, fun d h1 v1 H1 fx1 rd1 rh1 hq1 => ⟨d, h1, q, rd1, rh1, hq1, k.ext fx1⟩, kx⟩
theorem p_not {a : Expr} {ta : TED} {pos : Pos} (ha : PE X a (lift X.K G W ta)) : PE X (.UnaryOp .Not a pos) (lift X.K G W fun σ h q x => ta σ h (fun d h1 => truV d h1 fun b => q (.bl (!b)) h1) x) :=
  PE.imp (pe_notT ha) fun σ H Q ⟨a, h, q, x, rs, rh, ht, k, kx⟩ => ⟨a, h, _, x, rs, rh, ht, fun d h1 v1 H1 fx1 rd1 rh1 hq1 => by
    obtain ⟨b, t1, t2⟩ := tru_of (k := fun b => q (.bl (!b)) h1) rd1 rh1 hq1
    exact ⟨b, t1, k _ _ _ _ fx1 (.bl _) rh1 t2⟩, kx⟩
theorem t_not {a : Expr} {ta : TTD} {pos : Pos} (ha : PT X a (liftT X.K G W ta)) : PT X (.UnaryOp .Not a pos) (liftT X.K G W fun σ h q x => ta σ h (fun b h1 => q (!b) h1) x) :=
  PT.imp (pt_not ha) fun σ H Q ⟨a, h, q, x, rs, rh, ht, k, kx⟩ => ⟨a, h, _, x, rs, rh, ht, fun b h1 H1 fx1 rh1 hq1 => k _ _ _ fx1 rh1 hq1, kx⟩
theorem p_ife {e a b : Expr} {tc : TTD} {ta tb : TED} {pos : Pos} (hc : PT X e (liftT X.K G W tc)) (ha : PE X a (lift X.K G W ta)) (hb : PE X b (lift X.K G W tb)) :
    PE X (.IfExp e a b pos) (lift X.K G W fun σ h q x => tc σ h (fun k h1 => if k = true then ta σ h1 q x else tb σ h1 q x) x) :=
  PE.imp (pe_ifExp hc ha hb) fun σ H Q ⟨a, h, q, x, rs, rh, ht, k, kx⟩ => ⟨a, h, _, x, rs, rh, ht, fun b h1 H1 fx1 rh1 hq1 => by
    cases b with
    | true => exact ⟨a, h1, q, x, rs.ext fx1.ext, rh1, hq1, k.ext fx1, kx.ext fx1⟩
    | false => exact ⟨a, h1, q, x, rs.ext fx1.ext, rh1, hq1, k.ext fx1, kx.ext fx1⟩, kx⟩
end
end Nd
/-! Nd7: arguments, displays, subscripts, built-ins. -/
namespace Nd
open PySem PySem.Spec PyProof.Rows L2
section
variable {X : Cx} {G : Nat → Addr} {W : WX} {C : Ca} {c : Cf} {sc : Scope} {n : Nat}
/-! ### lists of expressions -/
def noStar (l : List Expr) : Bool := l.all fun e => !isStar e
theorem star1 {e : Expr} (h : (!isStar e) = true) (es : List Expr) (env : Env) : starEach (e :: es) env = (false, eval e env) :: starEach es env := by
  cases e <;> first | rfl | cases h
theorem starAll : ∀ {l : List Expr} (env : Env), noStar l = true → (starEach l env).any (·.1) = false
  | [], _, _ => rfl
  | e :: l, env, h => by
    have h' := Bool.and_eq_true_iff.mp (show ((!isStar e) && noStar l) = true from h)
    rw [star1 h'.1, List.any_cons, starAll env h'.2]; rfl
theorem starBack {l : List Expr} (env : Env) (pos : Pos) (h : noStar l = true) : (backTo pos (starEach l env)).any (·.1) = false := by
  unfold backTo
  rw [List.any_map]
  exact starAll env h
theorem a_nil : PA X [] (liftA X.K G W fun _ h q _ => q [] h) := PA.imp pa_nil fun σ H Q ⟨a, h, q, x, rs, rh, ht, k, kx⟩ => k [] h [] H Fx.refl .nil rh ht
theorem a_cons {e : Expr} {es : List Expr} {te : TED} {t : TAD} (he : PE X e (lift X.K G W te)) (hr : PA X es (liftA X.K G W t)) (hs : (!isStar e) = true) :
    PA X (e :: es) (liftA X.K G W fun σ h q x => te σ h (fun d h1 => t σ h1 (fun ds h2 => q (d :: ds) h2) x) x) :=
  PA.imp (pa_cons he hr (star1 hs es _)) fun σ H Q ⟨a, h, q, x, rs, rh, ht, k, kx⟩ =>
    ⟨a, h, _, x, rs, rh, ht, fun d h1 v1 H1 fx1 rd1 rh1 hq1 => ⟨a, h1, _, x, rs.ext fx1.ext, rh1, hq1, fun ds h2 v2 H2 fx2 rd2 rh2 hq2 => k _ _ _ _ (fx1.trans fx2) (.cons (rd1.ext fx2.ext) rd2) rh2 hq2, kx.ext fx1⟩, kx⟩
theorem p_and {e b : Expr} {rest : List Expr} {te tb : TED} {pos : Pos} (he : PE X e (lift X.K G W te)) (hb : PE X (.BoolOp .And (b :: rest) pos) (lift X.K G W tb)) :
    PE X (.BoolOp .And (e :: b :: rest) pos) (lift X.K G W fun σ h q x => te σ h (fun d h1 => truV d h1 fun k => if k = true then tb σ h1 q x else q d h1) x) :=
  PE.imp (pe_andT he hb) fun σ H Q ⟨a, h, q, x, rs, rh, ht, k, kx⟩ => ⟨a, h, _, x, rs, rh, ht, fun d h1 v1 H1 fx1 rd1 rh1 hq1 => by
    obtain ⟨b', t1, t2⟩ := tru_of (k := fun k => if k = true then tb a h1 q x else q d h1) rd1 rh1 hq1
    refine ⟨b', t1, ?_⟩
    cases b' with
    | true => exact ⟨a, h1, q, x, rs.ext fx1.ext, rh1, t2, k.ext fx1, kx.ext fx1⟩
    | false => exact k _ _ _ _ fx1 rd1 rh1 t2, kx⟩
theorem p_or {e b : Expr} {rest : List Expr} {te tb : TED} {pos : Pos} (he : PE X e (lift X.K G W te)) (hb : PE X (.BoolOp .Or (b :: rest) pos) (lift X.K G W tb)) :
    PE X (.BoolOp .Or (e :: b :: rest) pos) (lift X.K G W fun σ h q x => te σ h (fun d h1 => truV d h1 fun k => if k = true then q d h1 else tb σ h1 q x) x) :=
  PE.imp (pe_orT he hb) fun σ H Q ⟨a, h, q, x, rs, rh, ht, k, kx⟩ => ⟨a, h, _, x, rs, rh, ht, fun d h1 v1 H1 fx1 rd1 rh1 hq1 => by
    obtain ⟨b', t1, t2⟩ := tru_of (k := fun k => if k = true then q d h1 else tb a h1 q x) rd1 rh1 hq1
    refine ⟨b', t1, ?_⟩
    cases b' with
    | true => exact k _ _ _ _ fx1 rd1 rh1 t2
    | false => exact ⟨a, h1, q, x, rs.ext fx1.ext, rh1, t2, k.ext fx1, kx.ext fx1⟩, kx⟩
theorem PW.imp {e : Expr} {t t' : TT} (h : PW X e t) (i : ∀ σ H Q, t' σ H Q → t σ H Q) : PW X e t' := ⟨fun w p s σ H Q I q => h.run w p s σ H Q I (i σ H Q q)⟩
theorem w_and {e b : Expr} {rest : List Expr} {te tb : TTD} {pos : Pos} (he : PT X e (liftT X.K G W te)) (hb : PW X (.BoolOp .And (b :: rest) pos) (liftT X.K G W tb)) :
    PW X (.BoolOp .And (e :: b :: rest) pos) (liftT X.K G W fun σ h q x => te σ h (fun k h1 => if k = true then tb σ h1 q x else q false h1) x) :=
  PW.imp (pw_and he hb) fun σ H Q ⟨a, h, q, x, rs, rh, ht, k, kx⟩ => ⟨a, h, _, x, rs, rh, ht, fun b' h1 H1 fx1 rh1 t2 => by
    cases b' with
    | true => exact ⟨a, h1, q, x, rs.ext fx1.ext, rh1, t2, k.ext fx1, kx.ext fx1⟩
    | false => exact k _ _ _ fx1 rh1 t2, kx⟩
theorem w_or {e b : Expr} {rest : List Expr} {te tb : TTD} {pos : Pos} (he : PT X e (liftT X.K G W te)) (hb : PW X (.BoolOp .Or (b :: rest) pos) (liftT X.K G W tb)) :
    PW X (.BoolOp .Or (e :: b :: rest) pos) (liftT X.K G W fun σ h q x => te σ h (fun k h1 => if k = true then q true h1 else tb σ h1 q x) x) :=
  PW.imp (pw_or he hb) fun σ H Q ⟨a, h, q, x, rs, rh, ht, k, kx⟩ => ⟨a, h, _, x, rs, rh, ht, fun b' h1 H1 fx1 rh1 t2 => by
    cases b' with
    | true => exact k _ _ _ fx1 rh1 t2
    | false => exact ⟨a, h1, q, x, rs.ext fx1.ext, rh1, t2, k.ext fx1, kx.ext fx1⟩, kx⟩
structure SndS (X : Cx) (G : Nat → Addr) (W : WX) (d : Dns) (l : List Expr) : Prop where
  ns : noStar l = true
  a : PA X l (liftA X.K G W d.a)
  an : l ≠ [] → ∀ pos, PE X (.BoolOp .And l pos) (lift X.K G W d.an.v)
  ant : l ≠ [] → ∀ pos, PW X (.BoolOp .And l pos) (liftT X.K G W d.an.t)
  or : l ≠ [] → ∀ pos, PE X (.BoolOp .Or l pos) (lift X.K G W d.or.v)
  ort : l ≠ [] → ∀ pos, PW X (.BoolOp .Or l pos) (liftT X.K G W d.or.t)
  ani : 2 ≤ l.length → ∀ pos, PE X (.BoolOp .And l pos) (liftI X.K G W d.an.i)
  ori : 2 ≤ l.length → ∀ pos, PE X (.BoolOp .Or l pos) (liftI X.K G W d.or.i)
  pts : l.length ≤ 1 → PTs X l (liftT X.K G W d.an.t)
  pp : ∀ (pos : Pos) (ks : List Key) (keys : List (Option Expr)), chkKs ks keys = true → ks.length = l.length → ∃ trs, PPs X pos keys l trs ∧ ∀ σ H Q, liftA X.K G W d.a σ H (fun vs H' => Q ((ks.map kV).zip vs) H') → tPairs trs σ H Q
  one : ∀ e, l = [e] → ∃ d', Snd X G W d' e ∧ (d.i = fun σ h q r => d'.i σ h (fun xs g h1 => q xs [g] h1) r) ∧ d.a = fun σ h q r => d'.v σ h (fun x h1 => q [x] h1) r
/-! ### displays -/
theorem p_tup {es : List Expr} {t : TAD} {k0 : Nat} {pos : Pos} (ha : PA X es (liftA X.K G W t)) : PE X (.Tuple es k0 pos) (lift X.K G W fun σ h q x => t σ h (fun ds h' => ds.length ≤ sizeLine ∧ q (.tup ds) h') x) :=
  PE.imp (pe_tup ha) fun σ H Q ⟨a, h, q, x, rs, rh, ht, k, kx⟩ => ⟨a, h, _, x, rs, rh, ht, fun ds h1 vs H1 fx1 rd1 rh1 hq1 => ⟨by rw [← rd1.len]; exact hq1.1, fun p np =>
    k _ _ _ _ (fx1.trans (Fx.new np)) (.tup (.inl upd_same) hq1.1 (rd1.ext (Ext.new np))) (rh1.hid np) hq1.2⟩, kx⟩
theorem p_lst {es : List Expr} {t : TAD} {pos : Pos} (ha : PA X es (liftA X.K G W t)) : PE X (.List es pos) (lift X.K G W fun σ h q x => t σ h (fun ds h' => ds.length ≤ sizeLine ∧ ∀ p, h' p = none → q (.ref p) (hup h' p (.lst ds))) x) :=
  PE.imp (pe_lst ha) fun σ H Q ⟨a, h, q, x, rs, rh, ht, k, kx⟩ => ⟨a, h, _, x, rs, rh, ht, fun ds h1 vs H1 fx1 rd1 rh1 hq1 => ⟨by rw [← rd1.len]; exact hq1.1, fun p np =>
    k _ _ _ _ (fx1.trans (Fx.newM np)) (.ref p) (rh1.newL np hq1.1 rd1) (hq1.2 p (rh1.none_of np))⟩, kx⟩
theorem i_lst {es : List Expr} {t : TAD} {pos : Pos} (ha : PA X es (liftA X.K G W t)) : PE X (.List es pos) (liftI X.K G W fun σ h q x => t σ h (fun ds h' => ds.length ≤ sizeLine ∧ q ds .hid h') x) :=
  PE.imp (pe_lst ha) fun σ H Q ⟨a, h, q, x, rs, rh, ht, k, kx⟩ => ⟨a, h, _, x, rs, rh, ht, fun ds h1 vs H1 fx1 rd1 rh1 hq1 => ⟨by rw [← rd1.len]; exact hq1.1, fun p np =>
    k _ _ _ _ _ (fx1.trans (Fx.new np)) (.hid upd_same (rh1.none_of np) (rd1.ext (Ext.new np)) hq1.1) (rh1.hid np) hq1.2⟩, kx⟩
/-! ### subscripts -/
theorem plainIx {e : Expr} (h : (!isSlice e) = true) : PlainIx e := by
  intro o i
  cases e <;> first | rfl | cases h
theorem optV_of {o : Option D} {h : HD} {q : VQ} (e : optV o h q) : ∃ d, o = some d ∧ q d h := by
  cases o with
  | none => exact e.elim
  | some d => exact ⟨d, rfl, e⟩
theorem at_of {K : PySem.W.Frag} {H : Hp} {ds : List D} {vs : List V} {i : Int} {d : D} (r : RDs K G H ds vs) (e : atD ds i = some d) : ∃ v, L2.atI vs i = some v ∧ RD K G H d v := by
  unfold atD L2.atI at e
  unfold L2.atI
  rw [← r.len]
  cases q : L2.ixN ds.length i with
  | none => rw [q] at e; cases e
  | some j =>
    rw [q] at e
    exact r.get e
theorem str_at {s : Str} {i : Int} {d : D} (e : atD (chars s) i = some d) : ∃ c, L2.atI s.cps.toList i = some c ∧ d = .str ⟨#[c]⟩ := by
  unfold atD L2.atI chars at e
  unfold L2.atI
  rw [List.length_map] at e
  cases q : L2.ixN s.cps.toList.length i with
  | none => rw [q] at e; cases e
  | some j =>
    rw [q] at e
    dsimp only [Option.bind_some] at e ⊢
    rw [List.getElem?_map] at e
    cases z : s.cps.toList[j]? with
    | none => rw [z] at e; cases e
    | some c => rw [z] at e; cases e; exact ⟨c, rfl, rfl⟩
theorem strG_sign {s : Str} (g : StrG s) {i : Int} {c : Nat} (e : L2.atI s.cps.toList i = some c) : StrG ⟨#[c]⟩ := by
  refine ⟨by show 1 ≤ sizeLine; decide, ?_⟩
  unfold L2.atI at e
  cases q : L2.ixN s.cps.toList.length i with
  | none => rw [q] at e; cases e
  | some j =>
    rw [q] at e
    have hm : c ∈ s.cps.toList := List.mem_of_getElem? e
    have ha : s.cps.all (· < 0x110000) = true := g.2
    rw [← Array.all_toList, List.all_eq_true] at ha
    have := ha c hm
    show (#[c] : Array Nat).all (· < 0x110000) = true
    simp only [List.all_toArray, List.all_cons, List.all_nil, Bool.and_true]
    exact this
theorem sub_dict {prog : Program} {w : World} {A : Around} {E : Value → Shared → Prop} {s : Shared} {value slice : Expr} {o i : Value} {Q : Value → Shared → Prop} (hT : s.TypeIs o "dict") (hs : subscripted slice false o i = operate [o, i] (getItem o i))
    (h : wpAny (model prog w) A (getItem o i) Q E s) : wpAny (model prog w) A (subscriptTail value slice o i) Q E s := by
  unfold subscriptTail
  refine wpAny_bind ?_
  rw [getitemInPython_of_ne hT.not_modules]
  refine wpAny_bind (wpAny_specialOf hT PySem.F.slot_dict_getitem.lookup ?_)
  have fin : wpAny (model prog w) A (subscripted slice false o i) (fun r s₃ => wpAny (model prog w) A (letTemporaryGo value o r >>= fun _ => pure r) Q E s₃) E s := by
    rw [hs]
    exact wpAny_operating (wpAny_mono h (fun r s₃ h₃ => wpAny_bind (wpAny_letTemporaryGo (wpAny_pure h₃))) fun _ _ x => x)
  first
    | exact wpAny_pure (wpAny_bind fin)
    | exact wpAny_bind (wpAny_pure (wpAny_bind fin))
    | exact wpAny_bind fin
theorem s_sub' (hu : X.A.units + 1 < cLine) : IxR X (lop X.K G subV') := by
  intro ev es pins s σ H x y v u Q I rx ry ⟨d, e, h, q, hd, he, hh, hr, k⟩ hsub
  cases hd with
  | @tup a xs ds t l r => cases he with
    | int i =>
      obtain ⟨z, e1, e2⟩ := optV_of (show optV (atD ds i) h q from hr)
      obtain ⟨w, e3, e4⟩ := at_of r e1
      exact ix_tup ev es pins s σ H _ _ v u Q I rx ry ⟨a, xs, i, w, rfl, rfl, t.sq, e3, k _ _ _ _ Fx.refl e4 hh e2⟩ hsub
    | _ => exact hr.elim
  | str z g => cases he with
    | int i =>
      obtain ⟨d, e1, e2⟩ := optV_of (show optV (atD (chars z) i) h q from hr)
      obtain ⟨c, e3, e4⟩ := str_at e1
      subst e4
      exact ix_str ev es pins s σ H _ _ v u Q I rx ry ⟨z, i, c, rfl, rfl, g.1, e3, k _ _ _ _ Fx.refl (.str _ (strG_sign g e3)) hh e2⟩ hsub
    | _ => exact hr.elim
  | ref a =>
    unfold subV' at hr
    dsimp only at hr
    split at hr
    · rename_i xs ea
      split at hr
      · obtain ⟨vs, h1, _, h3⟩ := hh a _ ea
        cases he with
        | int i =>
          obtain ⟨d, e1, e2⟩ := optV_of hr
          obtain ⟨w, e3, e4⟩ := at_of h3 e1
          exact ix_list ev es pins s σ H _ _ v u Q I rx ry ⟨a, vs, _, w, rfl, rfl, .inl (.inl h1), e3, k _ _ _ _ Fx.refl e4 hh e2⟩ hsub
      · exact hr.elim
    · rename_i kvs ea
      split at hr
      · rename_i kk ek
        obtain ⟨vs, h1, _, h3⟩ := hh a _ ea
        obtain ⟨d, e1, e2⟩ := optV_of hr
        have ev' := key_of he ek
        subst ev'
        obtain rfl : v = Value.ref a := rx
        rcases look_of h3 kk with ⟨l1, l2⟩ | ⟨d', v', l1, l2, r'⟩
        · rw [l1] at e1; cases e1
        · rw [l1] at e1; cases e1
          have g : DGet H a (kV kk) (some v') := by rw [← l2]; exact DGet.k h1
          exact sub_dict (dict_typeIs I g) hsub (d_getItem hu I g ry fun w' s3 I3 rw' => ⟨v', H, I3, rw', k _ _ _ _ Fx.refl r' hh e2⟩)
      · exact hr.elim
    · exact hr.elim
  | _ => exact hr.elim
end
end Nd
/-! Nd8: slices, built-ins by values, built-ins by content, list methods. -/
namespace Nd
open PySem PySem.Spec PyProof.Rows L2
section
variable {X : Cx} {G : Nat → Addr} {W : WX} {C : Ca} {c : Cf} {sc : Scope} {n : Nat}
theorem p_sub {a b : Expr} {ta tb : TED} {pos : Pos} (hu : X.A.units + 1 < cLine) (ha : PE X a (lift X.K G W ta)) (hb : PE X b (lift X.K G W tb)) (hs : (!isSlice b) = true) :
    PE X (.Subscript a b pos) (lift X.K G W fun σ h q x => ta σ h (fun d h1 => tb σ h1 (fun e h2 => subV' d e h2 q) x) x) :=
  PE.imp (pe_ix (s_sub' hu) ha hb (plainIx hs)) fun σ H Q ⟨a, h, q, x, rs, rh, ht, k, kx⟩ =>
    ⟨a, h, _, x, rs, rh, ht, fun d h1 v1 H1 fx1 rd1 rh1 hq1 => ⟨a, h1, _, x, rs.ext fx1.ext, rh1, hq1, fun e h2 v2 H2 fx2 rd2 rh2 hq2 => ⟨d, e, h2, q, rd1.ext fx2.ext, rd2, rh2, hq2, k.ext (fx1.trans fx2)⟩, kx.ext fx1⟩, kx⟩
/-! ### slices -/
def lsl (K : PySem.W.Frag) (G : Nat → Addr) : V → Option Int → Option Int → Hp → VK → Prop := fun x lo hi H Q => ∃ d h q, RD K G H d x ∧ RH K G H h ∧ slcV d lo hi h q ∧ Cont K G H h q Q
theorem cut_of {K : PySem.W.Frag} {H : Hp} {ds : List D} {vs : List V} (r : RDs K G H ds vs) (lo hi : Option Int) : RDs K G H (cutD ds lo hi) (cutV vs lo hi) := by
  unfold cutD cutV
  rw [← r.len]
  exact (r.drop _).take _
theorem cutD_len (ds : List D) (lo hi : Option Int) : (cutD ds lo hi).length ≤ ds.length := by
  unfold cutD
  rw [List.length_take, List.length_drop]; omega
theorem strG_cut {z : Str} (g : StrG z) (lo hi : Option Int) : StrG (cutS z lo hi) := by
  refine ⟨?_, ?_⟩
  · have h1 : (cutS z lo hi).length ≤ z.length := by
      show (List.toArray _).size ≤ z.cps.size
      rw [List.size_toArray, List.length_take, List.length_drop, Array.length_toList]
      omega
    exact Nat.le_trans h1 g.1
  · have ha : z.cps.all (· < 0x110000) = true := g.2
    rw [← Array.all_toList, List.all_eq_true] at ha
    show (List.toArray _).all (· < 0x110000) = true
    rw [List.all_toArray, List.all_eq_true]
    exact fun c hc => ha c (List.mem_of_mem_drop (List.mem_of_mem_take hc))
theorem s_slc : SlR X (lsl X.K G) := by
  intro pins s σ H x v vl vu lo hi sl Q I rx hs pl pu ⟨d, h, q, hd, hh, hr, k⟩
  cases hd with
  | @tup a xs ds t l r =>
    have hr : q (.tup (cutD ds lo hi)) h := hr
    refine sl_tupA pins s σ H _ v vl vu lo hi sl Q I rx hs pl pu ⟨a, xs, rfl, t.sq, fun z => ?_, fun _ p np => ?_⟩
    · have e : cutD ds lo hi = ds := by
        unfold cutD
        rw [r.len, z.1, z.2, List.drop_zero, Nat.sub_zero, ← r.len, List.take_length]
      rw [e] at hr
      exact k _ _ _ _ Fx.refl (.tup t l r) hh hr
    · exact k _ _ _ _ (Fx.new np) (.tup (.inl upd_same) (Nat.le_trans (cutD_len _ _ _) l) ((cut_of r lo hi).ext (Ext.new np))) (hh.hid np) hr
  | str z g => exact sl_str pins s σ H _ v vl vu lo hi sl Q I rx hs pl pu ⟨z, rfl, g.1, k _ _ _ _ Fx.refl (.str _ (strG_cut g lo hi)) hh hr⟩
  | ref a =>
    unfold slcV at hr
    dsimp only at hr
    split at hr
    · rename_i xs ea
      obtain ⟨vs, h1, h2, h3⟩ := hh a _ ea
      exact sl_list pins s σ H _ v vl vu lo hi sl Q I rx hs pl pu ⟨a, vs, rfl, .inl (.inl h1), fun p np =>
        k _ _ _ _ (Fx.newM np) (.ref p) (hh.newL np (Nat.le_trans (cutD_len _ _ _) h2) (cut_of h3 lo hi)) (hr p (hh.none_of np))⟩
    · exact hr.elim
  | _ => exact hr.elim
theorem asI_of {K : PySem.W.Frag} {H : Hp} {d : D} {v : V} {k : Option Int → Prop} (r : RD K G H d v) (h : asI d k) : ∃ i, v = .int i ∧ k (some i) := by
  cases r with
  | int b => exact ⟨b, rfl, h⟩
  | _ => exact h.elim
theorem p_sl0 {a : Expr} {ta : TED} {pos p2 : Pos} (ha : PE X a (lift X.K G W ta)) : PE X (.Subscript a (.Slice none none none p2) pos) (lift X.K G W fun σ h q x => ta σ h (fun d h1 => slcV d none none h1 q) x) :=
  PE.imp (pe_slice s_slc ha po_none po_none) fun σ H Q ⟨a, h, q, x, rs, rh, ht, k, kx⟩ => ⟨a, h, _, x, rs, rh, ht, fun d h1 v1 H1 fx1 rd1 rh1 hq1 => ⟨d, h1, q, rd1, rh1, hq1, k.ext fx1⟩, kx⟩
theorem p_slL {a b : Expr} {ta tb : TED} {pos p2 : Pos} (ha : PE X a (lift X.K G W ta)) (hb : PE X b (lift X.K G W tb)) :
    PE X (.Subscript a (.Slice (some b) none none p2) pos) (lift X.K G W fun σ h q x => ta σ h (fun d h1 => tb σ h1 (fun y h2 => asI y fun l => slcV d l none h2 q) x) x) :=
  PE.imp (pe_slice s_slc ha (po_some hb) po_none) fun σ H Q ⟨a, h, q, x, rs, rh, ht, k, kx⟩ => ⟨a, h, _, x, rs, rh, ht, fun d h1 v1 H1 fx1 rd1 rh1 hq1 =>
    ⟨a, h1, _, x, rs.ext fx1.ext, rh1, hq1, fun e h2 v2 H2 fx2 rd2 rh2 hq2 => by
      obtain ⟨i, e1, e2⟩ := asI_of rd2 hq2
      exact ⟨i, e1, d, h2, q, rd1.ext fx2.ext, rh2, e2, k.ext (fx1.trans fx2)⟩, kx.ext fx1⟩, kx⟩
theorem p_slU {a b : Expr} {ta tb : TED} {pos p2 : Pos} (ha : PE X a (lift X.K G W ta)) (hb : PE X b (lift X.K G W tb)) :
    PE X (.Subscript a (.Slice none (some b) none p2) pos) (lift X.K G W fun σ h q x => ta σ h (fun d h1 => tb σ h1 (fun y h2 => asI y fun l => slcV d none l h2 q) x) x) :=
  PE.imp (pe_slice s_slc ha po_none (po_some hb)) fun σ H Q ⟨a, h, q, x, rs, rh, ht, k, kx⟩ => ⟨a, h, _, x, rs, rh, ht, fun d h1 v1 H1 fx1 rd1 rh1 hq1 =>
    ⟨a, h1, _, x, rs.ext fx1.ext, rh1, hq1, fun e h2 v2 H2 fx2 rd2 rh2 hq2 => by
      obtain ⟨i, e1, e2⟩ := asI_of rd2 hq2
      exact ⟨i, e1, d, h2, q, rd1.ext fx2.ext, rh2, e2, k.ext (fx1.trans fx2)⟩, kx.ext fx1⟩, kx⟩
theorem p_slB {a b b' : Expr} {ta tb tc : TED} {pos p2 : Pos} (ha : PE X a (lift X.K G W ta)) (hb : PE X b (lift X.K G W tb)) (hc : PE X b' (lift X.K G W tc)) :
    PE X (.Subscript a (.Slice (some b) (some b') none p2) pos) (lift X.K G W fun σ h q x => ta σ h (fun d h1 => tb σ h1 (fun y h2 => asI y fun l => tc σ h2 (fun z h3 => asI z fun u => slcV d l u h3 q) x) x) x) :=
  PE.imp (pe_slice s_slc ha (po_some hb) (po_some hc)) fun σ H Q ⟨a, h, q, x, rs, rh, ht, k, kx⟩ => ⟨a, h, _, x, rs, rh, ht, fun d h1 v1 H1 fx1 rd1 rh1 hq1 =>
    ⟨a, h1, _, x, rs.ext fx1.ext, rh1, hq1, fun e h2 v2 H2 fx2 rd2 rh2 hq2 => by
      obtain ⟨i, e1, e2⟩ := asI_of rd2 hq2
      have f2 := fx1.trans fx2
      exact ⟨i, e1, a, h2, _, x, rs.ext f2.ext, rh2, e2, fun z h3 v3 H3 fx3 rd3 rh3 hq3 => by
        obtain ⟨j, e3, e4⟩ := asI_of rd3 hq3
        exact ⟨j, e3, d, h3, q, rd1.ext (fx2.trans fx3).ext, rh3, e4, k.ext (f2.trans fx3)⟩, kx.ext f2⟩, kx.ext fx1⟩, kx⟩
/-! ### built-ins by values -/
theorem kit_tab {a n : String} (ha : a ∈ ["NoneType", "bool", "int", "str", "tuple", "list", "dict"]) (hn : n ∈ ["int", "bool", "str", "tuple", "list", "dict"]) {K : PySem.W.Frag} : PySem.W.kitOne K (.type a) (.type n) = some (isiB a n) := by
  have h : (["NoneType", "bool", "int", "str", "tuple", "list", "dict"].all fun a => ["int", "bool", "str", "tuple", "list", "dict"].all fun n => decide (kitB a n = some (isiB a n))) = true := by decide +kernel
  rw [List.all_eq_true] at h
  have h2 := h a ha
  rw [List.all_eq_true] at h2
  exact kit_ty (of_decide_eq_true (h2 n hn))
theorem isTyN_mem {n : String} (h : isTyN n = true) : n ∈ ["int", "bool", "str", "tuple", "list", "dict"] := by
  unfold isTyN at h
  simp only [Bool.or_eq_true, beq_iff_eq] at h
  rcases h with ((((h | h) | h) | h) | h) | h <;> (subst h; decide)
theorem ty_of {K : PySem.W.Frag} {H : Hp} {h : HD} {d : D} {x : V} {a : String} (r : RD K G H d x) (rh : RH K G H h) (e : tyN h d = some a) : TyX K H x (.type a) ∧ a ∈ ["NoneType", "bool", "int", "str", "tuple", "list", "dict"] := by
  cases r with
  | non => cases e; exact ⟨.base .non, by decide⟩
  | bl b => cases e; exact ⟨.base (.bl b), by decide⟩
  | int i => cases e; exact ⟨.base (.int i), by decide⟩
  | str s g => cases e; exact ⟨.base (.str s), by decide⟩
  | tup t l r =>
    cases e
    refine ⟨?_, by decide⟩
    rcases t with t | ⟨o, its, n, h1, h2, _⟩
    · exact .base (.tup t)
    · exact .kTuple h1 h2
  | kls t l r =>
    cases e
    refine ⟨?_, by decide⟩
    rcases t with ⟨o, t⟩ | ⟨o, its, n, h1, h2, _⟩
    · exact .base (.frz t)
    · exact .kList h1 h2
  | ref b =>
    unfold tyN at e
    dsimp only at e
    split at e
    · rename_i ea; cases e
      obtain ⟨vs, h1, _⟩ := rh b _ ea
      exact ⟨.base (.lst h1), by decide⟩
    · rename_i ea; cases e
      obtain ⟨vs, h1, _⟩ := rh b _ ea
      exact ⟨.base (.dK h1), by decide⟩
    · cases e
  | ty n => cases e
  | glo g => cases e
  | exc t => cases e
theorem rds1 {K : PySem.W.Frag} {H : Hp} {d : D} {vs : List V} (r : RDs K G H [d] vs) : ∃ v, vs = [v] ∧ RD K G H d v := by
  cases r with
  | cons h t => cases t; exact ⟨_, rfl, h⟩
theorem rds2 {K : PySem.W.Frag} {H : Hp} {d e : D} {vs : List V} (r : RDs K G H [d, e] vs) : ∃ v w, vs = [v, w] ∧ RD K G H d v ∧ RD K G H e w := by
  cases r with
  | cons h t =>
    obtain ⟨w, rfl, h2⟩ := rds1 t
    exact ⟨_, _, rfl, h, h2⟩
theorem c_len : CallR X (.builtin "len") (lcall X.K G fun ds h q => biV C.exm .len ds h q) := by
  intro pins s σ H xs us Q I r ⟨ds, h, q, rd, rh, hr, k⟩
  match ds, rd, hr with
  | [d], rd, hr =>
    obtain ⟨v, rfl, r1⟩ := rds1 rd
    cases r1 with
    | str z g => exact call_len pins s σ H _ us Q I r ⟨_, z.length, rfl, ⟨g.1, rfl⟩, k _ _ _ _ Fx.refl (.int _) rh hr⟩
    | @tup a xs ds t l rr => exact call_len pins s σ H _ us Q I r ⟨_, ds.length, rfl, .inr ⟨_, t.sq, rr.len⟩, k _ _ _ _ Fx.refl (.int _) rh hr⟩
    | @kls a xs ds t l rr => exact call_len pins s σ H _ us Q I r ⟨_, ds.length, rfl, .inl ⟨_, t.sq, rr.len⟩, k _ _ _ _ Fx.refl (.int _) rh hr⟩
    | ref a =>
      replace hr : lenV (.ref a) h q := hr
      unfold lenV at hr
      dsimp only at hr
      split at hr
      · rename_i xs e
        obtain ⟨vs, h1, _, h3⟩ := rh a _ e
        exact call_len pins s σ H _ us Q I r ⟨_, xs.length, rfl, .inl ⟨_, .inl (.inl h1), h3.len⟩, k _ _ _ _ Fx.refl (.int _) rh hr⟩
      · rename_i xs e
        obtain ⟨vs, h1, _, h3⟩ := rh a _ e
        have el : xs.length = vs.length := Paired.length h3
        exact call_lenD pins s σ H _ us Q I r ⟨a, vs, rfl, h1, by rw [← el]; exact k _ _ _ _ Fx.refl (.int _) rh hr⟩
      · exact hr.elim
    | _ => exact False.elim hr
theorem ty_inj {K : PySem.W.Frag} {H : Hp} {n : String} {v : V} (r : RD K G H (.ty n) v) : v = .ty n := by cases r; rfl
theorem isi_exc {pins : List (Addr × Obj)} {σ : L2.St} {H : Hp} {s : Shared} {Q : VK} {c : Nat} {a : Addr} {u2 : Value} {b : Bool} (hC : ExcC X.K (G c)) (hk : PySem.W.kitOne X.K (.ref (G c)) u2 = some b) (ha : H a = some (ExC (.ref (G c)) a)) (I : L2.Inv X pins σ H s) (hq : Q (.bl b) H) :
    wpAny (model X.prog X.w) X.A (call (.builtin "isinstance") [.ref a, u2]) (EP X pins σ Q) X.xe s := by
  obtain ⟨⟨oe, vs, h1, h2, h3⟩, _⟩ := (show ObjOk X.prog X.w H s.heap a (ExC (.ref (G c)) a) from I.hok a _ ha)
  have J : PySem.W.InstAt s.heap a oe (G c) none := by
    obtain ⟨oc, od, oda, osl⟩ := oe
    obtain ⟨z1, z2⟩ := h2
    dsimp only at z1 z2 h3
    subst z1 z2 h3
    exact ⟨h1, rfl, rfl, trivial⟩
  exact PySem.W.kia_one (PySem.W.handS_kitx_exc hC.hg hC.hk hC.hs hC.hd hC.ha hC.hn hC.ht hC.hm) I.kIn J hk (fun z => nomatch z) fun tk => ⟨.bl b, H, I.kept (t' := tk) fun _ _ z => z, rfl, hq⟩
theorem c_isi (he : ExmOk X.K G C) : CallR X (.builtin "isinstance") (lcall X.K G fun ds h q => biV C.exm .isi ds h q) := by
  intro pins s σ H xs us Q I r ⟨ds, h, q, rd, rh, hr, k⟩
  replace hr : isiV C.exm ds h q := hr
  unfold isiV at hr
  split at hr
  · rename_i c a m
    obtain ⟨v, w, rfl, r1, r2⟩ := rds2 rd
    obtain ⟨rfl, hr⟩ := hr
    cases r2
    cases r1 with
    | exc ha =>
      obtain ⟨u1, u2, rfl, q1, q2⟩ := vals2 r
      cases (show u1 = Value.ref a from q1)
      cases (show u2 = Value.type "ValueError" from q2)
      rcases exmK_cases hr with ⟨e, hr⟩ | ⟨e, hr⟩
      · obtain ⟨hC, hk, _⟩ := he _ _ _ e
        exact isi_exc hC (hk rfl) ha I (k _ _ _ _ Fx.refl (.bl _) rh hr)
      · obtain ⟨hC, hk, _⟩ := he _ _ _ e
        exact isi_exc hC (hk rfl) ha I (k _ _ _ _ Fx.refl (.bl _) rh hr)
  · rename_i d n _
    obtain ⟨v, w, rfl, r1, r2⟩ := rds2 rd
    cases ty_inj r2
    obtain ⟨hn, hr⟩ := hr
    split at hr
    · rename_i a ea
      obtain ⟨t1, t2⟩ := ty_of r1 rh ea
      exact call_isi pins s σ H _ us Q I r ⟨v, _, _, _, _, rfl, .ty n, t1, kit_tab t2 (isTyN_mem hn), k _ _ _ _ Fx.refl (.bl _) rh hr⟩
    · exact hr.elim
  · rename_i d n m
    obtain ⟨v, w, rfl, r1, r2⟩ := rds2 rd
    obtain ⟨⟨hn, hm⟩, hr⟩ := hr
    split at hr
    · rename_i a ea
      obtain ⟨t1, t2⟩ := ty_of r1 rh ea
      cases r2 with
      | @tup tp zs es ta l rr =>
        obtain ⟨z1, z2, rfl, q1, q2⟩ := rds2 rr
        cases ty_inj q1
        cases ty_inj q2
        have kk : PySem.W.kitAny X.K (.type a) [.type n, .type m] = some (isiB a n || isiB a m) :=
          kitAny_cons (kit_tab t2 (isTyN_mem hn)) (fun e => by rw [e, Bool.false_or]; exact kitAny_cons (kit_tab t2 (isTyN_mem hm)) (fun e2 => by rw [e2]; exact kitAny_nil) fun e2 => e2) (fun e => by rw [e]; rfl)
        rcases ta with ta | ⟨o, its, nn, h1, h2, h3, h4, h5⟩
        · exact call_isiT pins s σ H _ us Q I r ⟨v, tp, _, _, [.type n, .type m], _, rfl, ta, .cons (.ty n) (.cons (.ty m) .nil), t1, kk, k _ _ _ _ Fx.refl (.bl _) rh hr⟩
        · have e5 : its.toList = [.type n, .type m] := by
            obtain ⟨u1, u2, e, g1, g2⟩ := vals2 h5
            rw [e, show u1 = Value.type n from g1, show u2 = Value.type m from g2]
          obtain ⟨oc, od, odt, osl⟩ := o
          simp only at h2 h3
          subst h2 h3
          refine call_isiK pins s σ H _ us Q I r ⟨v, tp, od, [.type n, .type m], nn, osl, _, _, rfl, ?_, t1, kk, k _ _ _ _ Fx.refl (.bl _) rh hr⟩
          rw [h1, ← e5, Array.toArray_toList]
    · exact hr.elim
  · rename_i c a g
    obtain ⟨v, w, rfl, r1, r2⟩ := rds2 rd
    obtain ⟨hg, hr⟩ := hr
    cases r2
    cases r1 with
    | exc ha =>
      obtain ⟨u1, u2, rfl, q1, q2⟩ := vals2 r
      cases (show u1 = Value.ref a from q1)
      cases (show u2 = Value.ref (G g) from q2)
      rcases exmK_cases hr with ⟨e, hr⟩ | ⟨e, hr⟩
      · obtain ⟨hC, _, hk⟩ := he _ _ _ e
        exact isi_exc hC (hk hg).1 ha I (k _ _ _ _ Fx.refl (.bl _) rh hr)
      · obtain ⟨hC, _, hk⟩ := he _ _ _ e
        exact isi_exc hC (hk hg).1 ha I (k _ _ _ _ Fx.refl (.bl _) rh hr)
  · exact hr.elim
theorem c_abs : CallR X (.builtin "abs") (lcall X.K G fun ds h q => biV C.exm .abs ds h q) := by
  intro pins s σ H xs us Q I r ⟨ds, h, q, rd, rh, hr, k⟩
  match ds, rd, hr with
  | [.int i], rd, hr =>
    obtain ⟨v, rfl, r1⟩ := rds1 rd
    cases r1
    exact call_abs pins s σ H _ us Q I r ⟨i, rfl, k _ _ _ _ Fx.refl (.int _) rh hr⟩
theorem c_int1 : CallR X (.type "int") (lcall X.K G fun ds h q => biV C.exm .int1 ds h q) := by
  intro pins s σ H xs us Q I r ⟨ds, h, q, rd, rh, hr, k⟩
  match ds, rd, hr with
  | [.int i], rd, hr =>
    obtain ⟨v, rfl, r1⟩ := rds1 rd
    cases r1
    exact call_int1 pins s σ H _ us Q I r (.inl ⟨i, rfl, k _ _ _ _ Fx.refl (.int _) rh hr⟩)
  | [.bl i], rd, hr =>
    obtain ⟨v, rfl, r1⟩ := rds1 rd
    cases r1
    exact call_int1 pins s σ H _ us Q I r (.inr ⟨i, rfl, k _ _ _ _ Fx.refl (.int _) rh hr⟩)
theorem c_str1 : CallR X (.type "str") (lcall X.K G fun ds h q => biV C.exm .str1 ds h q) := by
  intro pins s σ H xs us Q I r ⟨ds, h, q, rd, rh, hr, k⟩
  match ds, rd, hr with
  | [.int i], rd, hr =>
    obtain ⟨v, rfl, r1⟩ := rds1 rd
    cases r1
    have hr : i.natAbs.log2 < 1920 ∧ StrG (toString i : Str) ∧ q (.str (toString i)) h := hr
    exact call_str_int pins s σ H _ us Q I r ⟨i, rfl, hr.1, k _ _ _ _ Fx.refl (.str _ hr.2.1) rh hr.2.2⟩
theorem c_max2 (hc : X.calm = true) : CallR X (.builtin "max") (lcall X.K G fun ds h q => biV C.exm .max2 ds h q) := by
  intro pins s σ H xs us Q I r ⟨ds, h, q, rd, rh, hr, k⟩
  match ds, rd, hr with
  | [.int i, .int j], rd, hr =>
    obtain ⟨v, w, rfl, r1, r2⟩ := rds2 rd
    cases r1
    cases r2
    exact call_max2 hc pins s σ H _ us Q I r ⟨i, j, rfl, k _ _ _ _ Fx.refl (.int _) rh hr⟩
theorem c_min2 (hc : X.calm = true) : CallR X (.builtin "min") (lcall X.K G fun ds h q => biV C.exm .min2 ds h q) := by
  intro pins s σ H xs us Q I r ⟨ds, h, q, rd, rh, hr, k⟩
  match ds, rd, hr with
  | [.int i, .int j], rd, hr =>
    obtain ⟨v, w, rfl, r1, r2⟩ := rds2 rd
    cases r1
    cases r2
    exact call_min2 hc pins s σ H _ us Q I r ⟨i, j, rfl, k _ _ _ _ Fx.refl (.int _) rh hr⟩
/-- a call of a built-in function, of a built-in type, by values -/
theorem p_biB {x : Str} {id : String} {e : Expr} {es : List Expr} {t : TAD} {r : List D → HD → VQ → Prop} {p pos : Pos} (hc : CallR X (.builtin id) (lcall X.K G r)) (hg : Gl X x) (hm : X.mg x = none) (hv : bootBuiltins x = some (.builtin id)) (ha : PA X (e :: es) (liftA X.K G W t))
    (hn : x ≠ "__name__") (hdb : (x == ("__debug__" : Str)) = false) (hns : noStar (e :: es) = true) : PE X (.Call (.Name x p) (e :: es) [] pos) (lift X.K G W fun σ h q z => t σ h (fun ds h1 => r ds h1 q) z) := by
  have h' := Bool.and_eq_true_iff.mp (show ((!isStar e) && noStar es) = true from hns)
  exact PE.imp (pe_callB hc hg hm hv ha hn hdb (star1 h'.1 es _) (starBack _ _ h'.2)) fun σ H Q ⟨a, h, q, x, rs, rh, ht, k, kx⟩ => ⟨a, h, _, x, rs, rh, ht, fun ds h1 vs H1 fx1 rd1 rh1 hq1 => ⟨ds, h1, q, rd1, rh1, hq1, k.ext fx1⟩, kx⟩
theorem p_biT {x : Str} {id : String} {e : Expr} {es : List Expr} {t : TAD} {r : List D → HD → VQ → Prop} {p pos : Pos} (hc : CallR X (.type id) (lcall X.K G r)) (hg : Gl X x) (hm : X.mg x = none) (hv : bootBuiltins x = some (.type id)) (ha : PA X (e :: es) (liftA X.K G W t))
    (hn : x ≠ "__name__") (hdb : (x == ("__debug__" : Str)) = false) (hns : noStar (e :: es) = true) : PE X (.Call (.Name x p) (e :: es) [] pos) (lift X.K G W fun σ h q z => t σ h (fun ds h1 => r ds h1 q) z) := by
  have h' := Bool.and_eq_true_iff.mp (show ((!isStar e) && noStar es) = true from hns)
  exact PE.imp (pe_callTy hc hg hm hv ha hn hdb (star1 h'.1 es _) (starBack _ _ h'.2)) fun σ H Q ⟨a, h, q, x, rs, rh, ht, k, kx⟩ => ⟨a, h, _, x, rs, rh, ht, fun ds h1 vs H1 fx1 rd1 rh1 hq1 => ⟨ds, h1, q, rd1, rh1, hq1, k.ext fx1⟩, kx⟩
end
end Nd
/-! Nd9: built-ins by content, methods, walks, comprehensions. -/
namespace Nd
open PySem PySem.Spec PyProof.Rows L2
section
variable {X : Cx} {G : Nat → Addr} {W : WX} {C : Ca} {c : Cf} {sc : Scope} {n : Nat}
/-! ### by content -/
def lct (K : PySem.W.Frag) (G : Nat → Addr) (r : List D → Gd → HD → VQ → Prop) : List V → Hp → VK → Prop := fun xs H Q => ∃ v ds g h q, xs = [v] ∧ ItR K G H h v ds g ∧ RH K G H h ∧ r ds g h q ∧ Cont K G H h q Q
theorem itL {K : PySem.W.Frag} {H : Hp} {h : HD} {v : V} {ds : List D} {g : Gd} (r : ItR K G H h v ds g) (rh : RH K G H h) (l : g.isL = true) : ∃ p vs, v = .ref p ∧ SqL K H p vs ∧ RDs K G H ds vs ∧ ds.length ≤ sizeLine := by
  cases r with
  | tup _ _ _ => cases l
  | str _ => cases l
  | lst e =>
    obtain ⟨vs, h1, h2, h3⟩ := rh _ _ e
    exact ⟨_, vs, rfl, .inl (.inl h1), h3, h2⟩
  | kls t r z => exact ⟨_, _, rfl, t.sq, r, z⟩
  | dic _ => cases l
  | hid e _ r z => exact ⟨_, _, rfl, .inl (.inl e), r, z⟩
theorem rds_ints {K : PySem.W.Frag} {H : Hp} : ∀ {ns : List Int} {vs : List V}, RDs K G H (ns.map .int) vs → vs = ns.map V.int
  | [], _, .nil => rfl
  | _ :: _, _, .cons h t => by cases h; rw [rds_ints t]; rfl
theorem rds_bls {K : PySem.W.Frag} {H : Hp} : ∀ {ns : List Bool} {vs : List V}, RDs K G H (ns.map .bl) vs → vs = ns.map V.bl
  | [], _, .nil => rfl
  | _ :: _, _, .cons h t => by cases h; rw [rds_bls t]; rfl
theorem c_tuple : CallR X (.type "tuple") (lct X.K G (blV .tuple)) := by
  rintro pins s σ H xs us Q I r ⟨v, ds, g, h, q, rfl, it, rh, ⟨hl, hr⟩, k⟩
  cases gl : g.isL with
  | true =>
    obtain ⟨p, vs, rfl, s1, s2, s3⟩ := itL it rh gl
    exact call_tuple_of pins s σ H _ us Q I r ⟨p, vs, rfl, .inl ⟨s1, fun l nl => k _ _ _ _ (Fx.new nl) (.tup (.inl upd_same) s3 (s2.ext (Ext.new nl))) (rh.hid nl) hr⟩⟩
  | false =>
    rw [gl, Bool.false_or] at hl
    cases it with
    | tup t r' l => exact call_tuple_of pins s σ H _ us Q I r ⟨_, _, rfl, .inr ⟨t.sq, k _ _ _ _ Fx.refl (.tup t l r') rh hr⟩⟩
    | str _ => cases hl
    | lst e => cases gl
    | kls _ _ _ => cases gl
    | dic _ => cases hl
    | hid e _ r z => cases gl
theorem c_list : CallR X (.type "list") (lct X.K G (blV .list)) := by
  rintro pins s σ H xs us Q I r ⟨v, ds, g, h, q, rfl, it, rh, ⟨hl, hr⟩, k⟩
  cases gl : g.isL with
  | true =>
    obtain ⟨p, vs, rfl, s1, s2, s3⟩ := itL it rh gl
    exact call_list_of pins s σ H _ us Q I r ⟨p, vs, rfl, .inl s1, fun l nl => k _ _ _ _ (Fx.newM nl) (.ref l) (rh.newL nl s3 s2) (hr l (rh.none_of nl))⟩
  | false =>
    rw [gl, Bool.false_or] at hl
    cases it with
    | tup t r' z => exact call_list_of pins s σ H _ us Q I r ⟨_, _, rfl, .inr t.sq, fun l nl => k _ _ _ _ (Fx.newM nl) (.ref l) (rh.newL nl z r') (hr l (rh.none_of nl))⟩
    | str _ => cases hl
    | lst e => cases gl
    | kls _ _ _ => cases gl
    | dic _ => cases hl
    | hid e _ r z => cases gl
theorem c_sum (hc : X.calm = true) : CallR X (.builtin "sum") (lct X.K G (blV .sum)) := by
  rintro pins s σ H xs us Q I r ⟨v, ds, g, h, q, rfl, it, rh, ⟨gl, ns, rfl, hr⟩, k⟩
  obtain ⟨p, vs, rfl, s1, s2, s3⟩ := itL it rh gl
  have := rds_ints s2
  subst this
  exact cr_sum hc pins s σ H _ us Q I r ⟨p, ns, rfl, s1, k _ _ _ _ Fx.refl (.int _) rh hr⟩
theorem c_max (hc : X.calm = true) : CallR X (.builtin "max") (lct X.K G (blV .max)) := by
  rintro pins s σ H xs us Q I r ⟨v, ds, g, h, q, rfl, it, rh, ⟨gl, ns, m, rfl, hm, hy, hr⟩, k⟩
  obtain ⟨p, vs, rfl, s1, s2, s3⟩ := itL it rh gl
  have := rds_ints s2
  subst this
  refine cr_max hc pins s σ H _ us Q I r ⟨p, ns, rfl, s1, List.length_pos_of_mem hm, fun m' h1 h2 => ?_⟩
  have e : m' = m := Int.le_antisymm (hy m' h1) (h2 m hm)
  subst e
  exact k _ _ _ _ Fx.refl (.int _) rh hr
theorem c_min (hc : X.calm = true) : CallR X (.builtin "min") (lct X.K G (blV .min)) := by
  rintro pins s σ H xs us Q I r ⟨v, ds, g, h, q, rfl, it, rh, ⟨gl, ns, m, rfl, hm, hy, hr⟩, k⟩
  obtain ⟨p, vs, rfl, s1, s2, s3⟩ := itL it rh gl
  have := rds_ints s2
  subst this
  refine cr_min hc pins s σ H _ us Q I r ⟨p, ns, rfl, s1, List.length_pos_of_mem hm, fun m' h1 h2 => ?_⟩
  have e : m' = m := Int.le_antisymm (h2 m hm) (hy m' h1)
  subst e
  exact k _ _ _ _ Fx.refl (.int _) rh hr
theorem c_all (hc : X.calm = true) : CallR X (.builtin "all") (lct X.K G (blV .all)) := by
  rintro pins s σ H xs us Q I r ⟨v, ds, g, h, q, rfl, it, rh, ⟨gl, ns, rfl, hr⟩, k⟩
  obtain ⟨p, vs, rfl, s1, s2, s3⟩ := itL it rh gl
  have := rds_bls s2
  subst this
  exact cr_all hc pins s σ H _ us Q I r ⟨p, ns, rfl, s1, k _ _ _ _ Fx.refl (.bl _) rh hr⟩
theorem c_any (hc : X.calm = true) : CallR X (.builtin "any") (lct X.K G (blV .any)) := by
  rintro pins s σ H xs us Q I r ⟨v, ds, g, h, q, rfl, it, rh, ⟨gl, ns, rfl, hr⟩, k⟩
  obtain ⟨p, vs, rfl, s1, s2, s3⟩ := itL it rh gl
  have := rds_bls s2
  subst this
  exact cr_any hc pins s σ H _ us Q I r ⟨p, ns, rfl, s1, k _ _ _ _ Fx.refl (.bl _) rh hr⟩
/-- things in order -/
def RS1 (K : PySem.W.Frag) (G : Nat → Addr) (H : Hp) (h : HD) (u : Value) (b : D × PyData) : Prop := ∃ v, RelV v u ∧ RD K G H b.1 v ∧ Py h b.1 b.2
theorem each_rs {K : PySem.W.Frag} {H : Hp} {h : HD} : ∀ {ds : List D} {ps : List PyData} {vs : List V} {us : List Value}, RDs K G H ds vs → Pys h ds ps → Vals vs us → PySem.W.EachIs (RS1 K G H h) us (ds.zip ps)
  | _, _, _, _, .nil, .nil, .nil => .nil
  | _, _, _, _, .cons r rs, .cons p ps, .cons v vs => .cons ⟨_, v, r, p⟩ (each_rs rs ps vs)
theorem rs_each {K : PySem.W.Frag} {H : Hp} {h : HD} : ∀ {us : List Value} {bs : List (D × PyData)}, PySem.W.EachIs (RS1 K G H h) us bs → ∃ vs, RDs K G H (bs.map (·.1)) vs ∧ Vals vs us
  | _, _, .nil => ⟨[], .nil, .nil⟩
  | _, _, .cons ⟨v, r, q, _⟩ t => let ⟨vs, a, b⟩ := rs_each t; ⟨v :: vs, .cons q a, .cons r b⟩
theorem pys_len {h : HD} : ∀ {ds : List D} {ps : List PyData}, Pys h ds ps → ds.length = ps.length
  | _, _, .nil => rfl
  | _, _, .cons _ t => by rw [List.length_cons, List.length_cons, pys_len t]
theorem zip_snd {α β : Type} : ∀ (ks : List α) (vs : List β), ks.length = vs.length → (ks.zip vs).map (·.2) = vs
  | [], [], _ => rfl
  | [], _ :: _, h => by cases h
  | _ :: _, [], h => by cases h
  | k :: ks, v :: vs, h => by rw [List.zip_cons_cons, List.map_cons, zip_snd ks vs (by simpa using h)]
theorem depth_mem : ∀ {ps : List PyData} {p : PyData}, p ∈ ps → p.depth ≤ PyData.depthAll ps
  | x :: ps, p, h => by
    show p.depth ≤ max x.depth (PyData.depthAll ps)
    rcases List.mem_cons.mp h with e | h
    · rw [e]; exact Nat.le_max_left _ _
    · exact Nat.le_trans (depth_mem h) (Nat.le_max_right _ _)
theorem c_sorted (hu : X.A.units + 65 < cLine) (hu2 : X.A.units + 70 < cLine) : CallR X (.builtin "sorted") (lct X.K G (blV .sorted)) := by
  rintro pins s σ H xs us Q I r ⟨v, ds, g, h, q, rfl, it, rh, ⟨gl, ps, hp, hal, hso, hdp, hr⟩, k⟩
  obtain ⟨p, vs, rfl, s1, s2, s3⟩ := itL it rh gl
  obtain ⟨its, rv, pl, hz⟩ := I.list s1
  rw [Vals.ref1 r]
  have el := pys_len hp
  have e := each_rs s2 hp rv
  have z2 := zip_snd ds ps el
  have zl : (ds.zip ps).length = ds.length := by rw [List.length_zip, ← el, Nat.min_self]
  refine PySem.W.sorted_data (enc := fun b : D × PyData => b.2) pl.isList e (e.mono fun u b ⟨v, r1, r2, r3⟩ => Dp.reads I b.2 v u (r3.dp rh r2) r1) (by rw [z2]; exact hal) (by rw [z2]; exact hso) (by rw [zl]; exact s3)
    (fun b hb => by
      have : b.2 ∈ ps := by rw [← z2]; exact List.mem_map.mpr ⟨b, hb, rfl⟩
      have := depth_mem this
      omega) fun out ho he => ?_
  obtain ⟨vs', r1, r2⟩ := rs_each he
  obtain ⟨ep, he'⟩ := PyProof.Rows.sortedAll_at s.heap its out.toArray
  have hl : ((ds.zip ps).mergeSort (PySem.W.dataLe false fun p => p.2)).length = ds.length := by rw [List.length_mergeSort, zl]
  have hlen : vs'.length ≤ sizeLine := by rw [← r1.len, List.length_map, hl]; exact s3
  have hn : H (s.heap.objs.size + 1) = none := I.hok.fresh (Nat.le_succ _)
  refine ⟨.ref (s.heap.objs.size + 1), upd H (s.heap.objs.size + 1) (.lst vs'), I.laid (t' := s.toks) (fun _ _ => PyProof.Rows.sortedAll_old) (Nat.le_succ _) ⟨hlen, out, ep, r2, he'⟩, rfl, ?_⟩
  exact k _ _ _ _ (Fx.newM hn) (.ref _) (rh.newL (ds := sortD ds ps) hn (by unfold sortD; rw [List.length_map, hl]; exact s3) r1) (hr _ (rh.none_of hn))
theorem p_blB {x : Str} {id : String} {e : Expr} {ti : Sl → HD → (List D → Gd → HD → Prop) → XQ → Prop} {r : List D → Gd → HD → VQ → Prop} {p pos : Pos} (hc : CallR X (.builtin id) (lct X.K G r)) (hg : Gl X x) (hm : X.mg x = none) (hv : bootBuiltins x = some (.builtin id)) (he : PE X e (liftI X.K G W ti))
    (hn : x ≠ "__name__") (hdb : (x == ("__debug__" : Str)) = false) (hns : (!isStar e) = true) : PE X (.Call (.Name x p) [e] [] pos) (lift X.K G W fun σ h q z => ti σ h (fun xs g h1 => r xs g h1 q) z) :=
  PE.imp (pe_callB hc hg hm hv (pa_cons he pa_nil (star1 hns _ _)) hn hdb (star1 hns _ _) rfl) fun σ H Q ⟨a, h, q, x, rs, rh, ht, k, kx⟩ => ⟨a, h, _, x, rs, rh, ht, fun xs g h1 v H1 fx1 it rh1 hq1 => ⟨v, xs, g, h1, q, rfl, it, rh1, hq1, k.ext fx1⟩, kx⟩
theorem p_blT {x : Str} {id : String} {e : Expr} {ti : Sl → HD → (List D → Gd → HD → Prop) → XQ → Prop} {r : List D → Gd → HD → VQ → Prop} {p pos : Pos} (hc : CallR X (.type id) (lct X.K G r)) (hg : Gl X x) (hm : X.mg x = none) (hv : bootBuiltins x = some (.type id)) (he : PE X e (liftI X.K G W ti))
    (hn : x ≠ "__name__") (hdb : (x == ("__debug__" : Str)) = false) (hns : (!isStar e) = true) : PE X (.Call (.Name x p) [e] [] pos) (lift X.K G W fun σ h q z => ti σ h (fun xs g h1 => r xs g h1 q) z) :=
  PE.imp (pe_callTy hc hg hm hv (pa_cons he pa_nil (star1 hns _ _)) hn hdb (star1 hns _ _) rfl) fun σ H Q ⟨a, h, q, x, rs, rh, ht, k, kx⟩ => ⟨a, h, _, x, rs, rh, ht, fun xs g h1 v H1 fx1 it rh1 hq1 => ⟨v, xs, g, h1, q, rfl, it, rh1, hq1, k.ext fx1⟩, kx⟩
/-! ### methods -/
theorem base_no {o : Expr} (h : (!isCall0 o) = true) (name : Str) (env : Env) (w : Sem Value) : attributeBase o name env w = w := by
  cases o with
  | Call f as ks p =>
    cases as with
    | nil => cases ks with
      | nil => cases h
      | cons _ _ => cases f <;> rfl
    | cons _ _ => cases f <;> rfl
  | _ => rfl
theorem few_ok {es : List Expr} {pos : Pos} {env : Env} (h : noStar es = true) (l : es.length < 30) : ((backTo pos (starEach es env)).all (fun x => !x.1) && (backToKw pos (keywordEach [] env)).all (fun x => x.1.isSome)
      && decide (es.length + ([] : List Keyword).length + (if ([] : List Keyword).isEmpty then 0 else 1) < 30)) = true := by
  have h1 : (backTo pos (starEach es env)).all (fun x => !x.1) = true := by
    have := starBack env pos h
    rw [List.all_eq_not_any_not]
    simp only [Bool.not_not]
    rw [this]; rfl
  rw [h1]
  simp [keywordEach, backToKw, l]
theorem p_append {o e : Expr} {to te : TED} {apos cpos : Pos} (ho : PE X o (lift X.K G W to)) (he : PE X e (lift X.K G W te)) (hb : (!isCall0 o) = true) (hs : (!isStar e) = true) (hl : (apos.endLine == cpos.line) = true) :
    PE X (.Call (.Attribute o "append" apos) [e] [] cpos) (lift X.K G W fun σ h q x => to σ h (fun d h1 => bmT .append d h1 ∧ te σ h1 (fun y h2 => bmV .append d [y] h2 q) x) x) :=
  PE.imp (pe_bm PySem.F.plainAttrs_list PySem.F.slot_list_append PySem.F.type_list_append mt_append ho (pa_cons he pa_nil (star1 hs _ _)) (base_no hb _ _ _) (few_ok (by show ((!isStar e) && true) = true; rw [hs]; rfl) (by show 1 < 30; decide)) hl (star1 hs _ _) rfl)
    fun σ H Q ⟨a, h, q, x, rs, rh, ht, k, kx⟩ => ⟨a, h, _, x, rs, rh, ht, fun d h1 v1 H1 fx1 rd1 rh1 ⟨hq0, hq1⟩ => by
      cases rd1 with
      | ref l =>
        unfold bmT at hq0
        dsimp only at hq0
        split at hq0
        · rename_i xs0 e0
          obtain ⟨vs0, g1, _⟩ := rh1 l _ e0
          refine ⟨.inl ⟨rfl, vs0, .inl (.inl g1)⟩, a, h1, _, x, rs.ext fx1.ext, rh1, hq1, fun y h2 v2 H2 fx2 rd2 rh2 hq2 => ?_, kx.ext fx1⟩
          unfold bmV at hq2
          dsimp only at hq2
          split at hq2
          · rename_i xs e2
            obtain ⟨vs, g2, _, g4⟩ := rh2 l _ e2
            refine ⟨l, vs, v2, rfl, rfl, g2, by rw [← g4.len]; exact hq2.1, ?_⟩
            exact k _ _ _ _ ((fx1.trans fx2).trans (Fx.wr e2 g2 (fun z => z))) .non (rh2.wrL g2 (fun z => z) (by rw [List.length_append]; exact hq2.1) (g4.snoc rd2)) hq2.2
          · exact hq2.elim
        · exact hq0.elim
      | _ => exact False.elim hq0, kx⟩
theorem p_pop0 {o : Expr} {to : TED} {apos cpos : Pos} (ho : PE X o (lift X.K G W to)) (hb : (!isCall0 o) = true) (hl : (apos.endLine == cpos.line) = true) :
    PE X (.Call (.Attribute o "pop" apos) [] [] cpos) (lift X.K G W fun σ h q x => to σ h (fun d h1 => bmT .pop0 d h1 ∧ bmV .pop0 d [] h1 q) x) :=
  PE.imp (pe_bm0 PySem.F.plainAttrs_list PySem.F.slot_list_pop PySem.F.type_list_pop mt_pop ho (base_no hb _ _ _) hl)
    fun σ H Q ⟨a, h, q, x, rs, rh, ht, k, kx⟩ => ⟨a, h, _, x, rs, rh, ht, fun d h1 v1 H1 fx1 rd1 rh1 ⟨hq0, hq1⟩ => by
      cases rd1 with
      | ref l =>
        unfold bmV at hq1
        dsimp only at hq1
        split at hq1
        · rename_i xs e2
          obtain ⟨vs, g2, g3, g4⟩ := rh1 l _ e2
          split at hq1
          · rename_i d ed
            obtain ⟨v, e5, e6⟩ := g4.get ed
            refine ⟨.inl ⟨rfl, vs, .inl (.inl g2)⟩, l, vs, v, rfl, rfl, g2, by rw [← g4.len]; exact e5, ?_⟩
            have dl : RDs X.K G H1 xs.dropLast vs.dropLast := by
              rw [List.dropLast_eq_take, List.dropLast_eq_take, ← g4.len]
              exact g4.take _
            exact k _ _ _ _ (fx1.trans (Fx.wr e2 g2 (fun z => z))) (e6.ext (Ext.wr g2 (fun z => z))) (rh1.wrL g2 (fun z => z) (Nat.le_trans (by rw [List.length_dropLast]; exact Nat.sub_le _ _) g3) dl) hq1
          · exact hq1.elim
        · exact hq1.elim
      | _ => exact False.elim hq1, kx⟩
/-! ### walks -/
structure Wk (K : PySem.W.Frag) (G : Nat → Addr) (J : It) (xs : List D) (gd : List Gd) (H0 : Hp) (h0 : HD) : Prop where
  ok : gdsOk h0 gd
  go : ∀ i H h, i < xs.length → RH K G H h → Fx H0 h0 H h → gdsOk h gd → J.go i H ∧ ∀ x H', J.yld i H x H' → ∃ d, xs[i]? = some d ∧ RD K G H' d x ∧ RH K G H' h ∧ Fx H h H' h
  stop : ∀ i H h, xs.length ≤ i → RH K G H h → Fx H0 h0 H h → gdsOk h gd → J.stop i H
def liftP (K : PySem.W.Frag) (G : Nat → Addr) (W : WX) (t : TID) : TI := fun σ H R => ∃ a h q r, RS K G H a σ ∧ RH K G H h ∧ t a h q r ∧
  (∀ xs g h' J H', Fx H h H' h' → RH K G H' h' → Wk K G J xs g H' h' → q xs g h' → R J H') ∧ ContX K G W σ H h r
theorem wk_list {K : PySem.W.Frag} {a : Addr} {xs : List D} {gd : List Gd} {H0 : Hp} {h0 : HD} (ok : gdsOk h0 gd) (at_ : ∀ H h, RH K G H h → Fx H0 h0 H h → gdsOk h gd → ∃ vs, SqL K H a vs ∧ RDs K G H xs vs) : Wk K G (Itl K a) xs gd H0 h0 where
  ok := ok
  go := fun i H h hi rh fx g => by
    obtain ⟨vs, s1, s2⟩ := at_ H h rh fx g
    obtain ⟨v, e1, e2⟩ := s2.get (List.getElem?_eq_getElem hi)
    refine ⟨⟨vs, v, s1, e1⟩, fun x H' ⟨eH, hx⟩ => ?_⟩
    subst eH
    have := hx vs s1
    rw [e1] at this
    cases this
    exact ⟨_, List.getElem?_eq_getElem hi, e2, rh, Fx.refl⟩
  stop := fun i H h hi rh fx g => by
    obtain ⟨vs, s1, s2⟩ := at_ H h rh fx g
    exact ⟨vs, s1, by rw [← s2.len]; exact hi⟩
theorem wk_tup {K : PySem.W.Frag} {a : Addr} {xs : List D} {vs : List V} {gd : List Gd} {H0 : Hp} {h0 : HD} (ok : gdsOk h0 gd) (t : TupAt K H0 a vs) (r : RDs K G H0 xs vs) : Wk K G (Itt K a) xs gd H0 h0 where
  ok := ok
  go := fun i H h hi rh fx g => by
    have s1 : SqT K H a vs := (t.ext fx.ext).sq
    obtain ⟨v, e1, e2⟩ := (r.ext fx.ext).get (List.getElem?_eq_getElem hi)
    refine ⟨⟨vs, v, s1, e1⟩, fun x H' ⟨eH, hx⟩ => ?_⟩
    subst eH
    have := hx vs s1
    rw [e1] at this
    cases this
    exact ⟨_, List.getElem?_eq_getElem hi, e2, rh, Fx.refl⟩
  stop := fun i H h hi rh fx g => ⟨vs, (t.ext fx.ext).sq, by rw [← r.len]; exact hi⟩
theorem wk_str {K : PySem.W.Frag} {z : Str} {gd : List Gd} {H0 : Hp} {h0 : HD} (ok : gdsOk h0 gd) (sg : StrG z) : Wk K G (Its z) (chars z) gd H0 h0 where
  ok := ok
  go := fun i H h hi rh fx g => by
    have hl : (chars z).length = z.cps.size := by unfold chars; rw [List.length_map, Array.length_toList]
    refine ⟨by show i < z.cps.size; omega, fun x H' ⟨eH, c, hc, hx⟩ => ?_⟩
    subst eH hx
    refine ⟨.str ⟨#[c]⟩, ?_, .str _ ?_, rh, Fx.refl⟩
    · unfold chars
      rw [List.getElem?_map, Array.getElem?_toList, hc]; rfl
    · have : L2.atI z.cps.toList (i : Int) = some c := atI_nat (by rw [Array.getElem?_toList]; exact hc)
      exact strG_sign sg this
  stop := fun i H h hi rh fx g => by
    have hl : (chars z).length = z.cps.size := by unfold chars; rw [List.length_map, Array.length_toList]
    show z.cps.size ≤ i; omega
theorem wk_rng {K : PySem.W.Frag} {lo : Int} {m : Nat} {gd : List Gd} {H0 : Hp} {h0 : HD} (ok : gdsOk h0 gd) : Wk K G (Itr lo m) (rngL lo m) gd H0 h0 where
  ok := ok
  go := fun i H h hi rh fx g => by
    have hl : (rngL lo m).length = m := by unfold rngL; rw [List.length_map, List.length_range]
    refine ⟨by show i < m; omega, fun x H' ⟨eH, hx⟩ => ?_⟩
    subst eH hx
    refine ⟨.int (lo + i), ?_, .int _, rh, Fx.refl⟩
    unfold rngL
    rw [List.getElem?_map, List.getElem?_range (by omega)]; rfl
  stop := fun i H h hi rh fx g => by
    have hl : (rngL lo m).length = m := by unfold rngL; rw [List.length_map, List.length_range]
    show m ≤ i; omega
theorem g1tp {h : HD} : gdsOk h [.tp] := fun x hx => by rw [List.mem_singleton.mp hx]; trivial
theorem g1st {h : HD} : gdsOk h [.st] := fun x hx => by rw [List.mem_singleton.mp hx]; trivial
theorem g1kl {h : HD} : gdsOk h [.kl] := fun x hx => by rw [List.mem_singleton.mp hx]; trivial
theorem g1hid {h : HD} : gdsOk h [.hid] := fun x hx => by rw [List.mem_singleton.mp hx]; trivial
theorem g1ls {h : HD} {a : Addr} {m : MO} (e : h a = some m) : gdsOk h [.ls a m] := fun x hx => by rw [List.mem_singleton.mp hx]; exact e
theorem g0 {h : HD} : gdsOk h [] := fun x hx => by cases hx
/-- a walk of a thing by its value -/
theorem i_seq {e tg : Expr} {ti : Sl → HD → (List D → Gd → HD → Prop) → XQ → Prop} (he : PE X e (liftI X.K G W ti)) : PI X tg e (liftP X.K G W fun σ h q r => ti σ h (fun xs g h1 => [g].all Gd.walk = true ∧ q xs [g] h1) r) := by
  refine ⟨fun pins s σ H R I ⟨a, h, q, r, rs, rh, ht, k, kx⟩ => ?_⟩
  refine thn (he.run pins s σ H (fun v H' => ∃ xs g h', Fx H h H' h' ∧ ItR X.K G H' h' v xs g ∧ RH X.K G H' h' ∧ g.walk = true ∧ q xs [g] h') I ⟨a, h, _, r, rs, rh, ht, fun xs g h' v H' fx it rh' ⟨w, hq⟩ =>
    ⟨xs, g, h', fx, it, rh', by simpa using w, hq⟩, kx⟩) fun v s1 ⟨x, H1, I1, r1, xs, g, h1, fx, it, rh1, w, hq⟩ => ?_
  cases it with
  | @tup p vs _ t rr z =>
    cases r1
    obtain ⟨its, rv, pt, hz⟩ := I1.tuple t.sq
    refine wpAny_pyIter_tuple (show s1.heap.IsTuple p its.toArray from pt) ?_
    refine pi_one (tk := s1.toks) I1 _ (turn_tuple p _) ⟨_, Heap.get?_push_size _ rfl, rfl, rfl⟩ (k _ _ _ _ _ fx rh1 (wk_tup g1tp t rr) hq)
  | @str z sg =>
    obtain ⟨t, rfl⟩ := r1
    have fin := k _ _ _ (Its z) _ fx rh1 (wk_str g1st sg) hq
    cases ha : z.cps.all (· < 128)
    · exact wpAny_pyIter_wide ha (pi_one (tk := s1.toks) I1 _ (turn_str _ z t "str_iterator" (.inr rfl)) ⟨_, Heap.get?_push_size _ rfl, rfl, rfl⟩ fin)
    · exact wpAny_pyIter_ascii ha (pi_one (tk := s1.toks) I1 _ (turn_str _ z t "str_ascii_iterator" (.inl rfl)) ⟨_, Heap.get?_push_size _ rfl, rfl, rfl⟩ fin)
  | @lst p _ e =>
    cases r1
    obtain ⟨vs, g1, g2, g3⟩ := rh1 p _ e
    obtain ⟨its, rv, pt, hz⟩ := I1.list (.inl (.inl g1))
    refine wpAny_pyIter_list pt.isList (pi_one (tk := s1.toks) I1 _ (turn_list p _) ⟨_, Heap.get?_push_size _ rfl, rfl, rfl⟩ (k _ _ _ _ _ fx rh1 (wk_list (g1ls e) fun H h rh _ g => ?_) hq))
    obtain ⟨ws, q1, _, q3⟩ := rh p _ (g _ List.mem_cons_self)
    exact ⟨ws, .inl (.inl q1), q3⟩
  | @kls p vs _ t rr z =>
    cases r1
    obtain ⟨its, rv, pt, hz⟩ := I1.list t.sq
    exact wpAny_pyIter_list pt.isList (pi_one (tk := s1.toks) I1 _ (turn_list p _) ⟨_, Heap.get?_push_size _ rfl, rfl, rfl⟩ (k _ _ _ _ _ fx rh1 (wk_list g1kl fun H h rh fx2 g => ⟨vs, (t.ext fx2.ext).sq, rr.ext fx2.ext⟩) hq))
  | @dic p kvs e => cases w
  | @hid p vs _ e1 e2 rr z =>
    cases r1
    obtain ⟨its, rv, pt, hz⟩ := I1.list (.inl (.inl e1))
    refine wpAny_pyIter_list pt.isList (pi_one (tk := s1.toks) I1 _ (turn_list p _) ⟨_, Heap.get?_push_size _ rfl, rfl, rfl⟩ (k _ _ _ _ _ fx rh1 (wk_list g1hid fun H h rh fx2 g => ?_) hq))
    exact ⟨vs, .inl (.inl (fx2.st p _ e1 (.inl e2))), rr.ext fx2.ext⟩
end
end Nd
/-! Nd10: targets, comprehensions, calls, statements. -/
namespace Nd
open PySem PySem.Spec PyProof.Rows L2
section
variable {X : Cx} {G : Nat → Addr} {W : WX} {C : Ca} {c : Cf} {sc : Scope} {n : Nat}
theorem i_rng1 {a tg : Expr} {t : TAD} {p pos : Pos} (hg : Gl X "range") (hm : X.mg "range" = none) (ha : PA X [a] (liftA X.K G W t)) (hs : (!isStar a) = true) :
    PI X tg (.Call (.Name "range" p) [a] [] pos) (liftP X.K G W fun σ h q r => t σ h (fun ds h1 => itK .rng1 ds h1 q) r) := by
  refine ⟨fun pins s σ H R I ⟨a, h, q, r, rs, rh, ht, k, kx⟩ => (pi_range1 hg hm ha (by rw [star1 hs]; rfl)).run pins s σ H R I ⟨a, h, _, r, rs, rh, ht, fun ds h1 vs H1 fx1 rd1 rh1 hq1 => ?_, kx⟩⟩
  match ds, rd1, hq1 with
  | [.int i], rd1, hq1 =>
    obtain ⟨v, rfl, r1⟩ := rds1 rd1
    cases r1
    exact ⟨i, rfl, hq1.1.1, hq1.1.2, k _ _ _ _ _ fx1 rh1 (wk_rng g0) hq1.2⟩
theorem i_rng2 {a b tg : Expr} {t : TAD} {p pos : Pos} (hg : Gl X "range") (hm : X.mg "range" = none) (ha : PA X [a, b] (liftA X.K G W t)) (hs : (!isStar a) = true) (hs' : (!isStar b) = true) :
    PI X tg (.Call (.Name "range" p) [a, b] [] pos) (liftP X.K G W fun σ h q r => t σ h (fun ds h1 => itK .rng2 ds h1 q) r) := by
  refine ⟨fun pins s σ H R I ⟨a, h, q, r, rs, rh, ht, k, kx⟩ => (pi_range2 hg hm ha (by rw [star1 hs, star1 hs']; rfl) (by rw [star1 hs']; rfl)).run pins s σ H R I ⟨a, h, _, r, rs, rh, ht, fun ds h1 vs H1 fx1 rd1 rh1 hq1 => ?_, kx⟩⟩
  match ds, rd1, hq1 with
  | [.int i, .int j], rd1, hq1 =>
    obtain ⟨v, w, rfl, r1, r2⟩ := rds2 rd1
    cases r1
    cases r2
    exact ⟨i, j, rfl, hq1.1, k _ _ _ _ _ fx1 rh1 (wk_rng g0) hq1.2⟩
theorem wk_step {K : PySem.W.Frag} {lo c : Int} {m : Nat} {gd : List Gd} {H0 : Hp} {h0 : HD} (ok : gdsOk h0 gd) : Wk K G (Itc lo c m) (stepL lo c m) gd H0 h0 where
  ok := ok
  go := fun i H h hi rh fx g => by
    have hl : (stepL lo c m).length = m := by unfold stepL; rw [List.length_map, List.length_range]
    refine ⟨by show i < m; omega, fun x H' ⟨eH, hx⟩ => ?_⟩
    subst eH hx
    refine ⟨.int (lo + i * c), ?_, .int _, rh, Fx.refl⟩
    unfold stepL
    rw [List.getElem?_map, List.getElem?_range (by omega)]; rfl
  stop := fun i H h hi rh fx g => by
    have hl : (stepL lo c m).length = m := by unfold stepL; rw [List.length_map, List.length_range]
    show m ≤ i; omega
theorem i_rng3 {a b c0 tg : Expr} {t : TAD} {p pos : Pos} (hg : Gl X "range") (hm : X.mg "range" = none) (ha : PA X [a, b, c0] (liftA X.K G W t)) (hs : (!isStar a) = true) (hs' : (!isStar b) = true) (hs2 : (!isStar c0) = true) :
    PI X tg (.Call (.Name "range" p) [a, b, c0] [] pos) (liftP X.K G W fun σ h q r => t σ h (fun ds h1 => itK .rng3 ds h1 q) r) := by
  refine ⟨fun pins s σ H R I ⟨a, h, q, r, rs, rh, ht, k, kx⟩ => (pi_range3 hg hm ha (by rw [star1 hs, star1 hs', star1 hs2]) (by rw [star1 hs', star1 hs2]; rfl)).run pins s σ H R I ⟨a, h, _, r, rs, rh, ht, fun ds h1 vs H1 fx1 rd1 rh1 hq1 => ?_, kx⟩⟩
  match ds, rd1, hq1 with
  | [.int i, .int j, .int c], rd1, hq1 =>
    obtain ⟨m, hm, hq⟩ := hq1
    cases rd1 with
    | cons r1 rd2 =>
      obtain ⟨v, w, rfl, r2, r3⟩ := rds2 rd2
      cases r1
      cases r2
      cases r3
      exact ⟨i, j, c, m, rfl, hm, k _ _ _ _ _ fx1 rh1 (wk_step g0) hq⟩
/-! ### lists by their addresses -/
/-- a list at a that stays while g does -/
def La (K : PySem.W.Frag) (G : Nat → Addr) (a : Addr) (xs : List D) (g : Gd) (H0 : Hp) (h0 : HD) : Prop := ∀ H h, RH K G H h → Fx H0 h0 H h → Gd.ok h g → ∃ vs, SqL K H a vs ∧ RDs K G H xs vs
theorem la_of {K : PySem.W.Frag} {H0 : Hp} {h0 : HD} {d : D} {x : V} {xs : List D} {g : Gd} (rd : RD K G H0 d x) (rh : RH K G H0 h0) (e : lsOf h0 d = some (xs, g)) : ∃ a, x = .ref a ∧ Gd.ok h0 g ∧ La K G a xs g H0 h0 := by
  cases rd with
  | kls t l rr =>
    rename_i a vs ds
    cases e
    exact ⟨a, rfl, trivial, fun H h _ fx _ => ⟨vs, (t.ext fx.ext).sq, rr.ext fx.ext⟩⟩
  | ref a =>
    unfold lsOf at e
    dsimp only at e
    split at e
    · rename_i ys w
      cases e
      refine ⟨a, rfl, w, fun H h rh _ ok => ?_⟩
      obtain ⟨vs, q1, _, q3⟩ := rh a _ ok
      exact ⟨vs, .inl (.inl q1), q3⟩
    · cases e
  | _ => cases e
theorem La.here {K : PySem.W.Frag} {H0 : Hp} {h0 : HD} {a : Addr} {xs : List D} {g : Gd} (l : La K G a xs g H0 h0) (rh : RH K G H0 h0) (ok : Gd.ok h0 g) : ∃ vs, SqL K H0 a vs ∧ RDs K G H0 xs vs := l H0 h0 rh Fx.refl ok
theorem zipL_get {xs ys : List D} {i : Nat} {x y : D} (hx : xs[i]? = some x) (hy : ys[i]? = some y) : (zipL xs ys)[i]? = some (.tup [x, y]) := by
  unfold zipL
  have e : (xs.zip ys)[i]? = some (x, y) := List.getElem?_zip_eq_some.mpr ⟨hx, hy⟩
  rw [List.getElem?_map, e]
  rfl
theorem zipL_len {xs ys : List D} : (zipL xs ys).length = min xs.length ys.length := by
  unfold zipL
  rw [List.length_map, List.length_zip]
theorem gd2 {h : HD} {g g' : Gd} (a : Gd.ok h g) (b : Gd.ok h g') : gdsOk h [g, g'] := fun x hx => by
  rcases List.mem_cons.mp hx with rfl | hx
  · exact a
  · rw [List.mem_singleton.mp hx]; exact b
theorem gd1 {h : HD} {g : Gd} (a : Gd.ok h g) : gdsOk h [g] := fun x hx => by rw [List.mem_singleton.mp hx]; exact a
theorem pair_new {K : PySem.W.Frag} {H : Hp} {h : HD} {T : Addr} {x y : V} {d e : D} (hT : H T = none) (rh : RH K G H h) (r1 : RD K G H d x) (r2 : RD K G H e y) :
    RD K G (upd H T (.tup [x, y])) (.tup [d, e]) (.ref T) ∧ RH K G (upd H T (.tup [x, y])) h ∧ Fx H h (upd H T (.tup [x, y])) h :=
  ⟨.tup (.inl upd_same) (by show 2 ≤ sizeLine; decide) (.cons (r1.ext (Ext.new hT)) (.cons (r2.ext (Ext.new hT)) .nil)), rh.hid hT, Fx.new hT⟩
theorem lsK_of {x : D} {h : HD} {k : List D → List Gd → Prop} (z : lsK x h k) : ∃ xs g, lsOf h x = some (xs, g) ∧ k xs [g] := by
  unfold lsK at z
  split at z
  · rename_i xs g e
    exact ⟨xs, g, e, z⟩
  · exact z.elim
theorem zip_cases {d e : D} {h : HD} {q : List D → List Gd → HD → Prop} (z : zipK d e h q) : (∃ xs ys, d = .tup xs ∧ e = .tup ys ∧ q (zipL xs ys) [] h) ∨ ∃ xs g ys g', lsOf h d = some (xs, g) ∧ lsOf h e = some (ys, g') ∧ q (zipL xs ys) [g, g'] h := by
  by_cases hd : ∃ xs, d = .tup xs
  · obtain ⟨xs, rfl⟩ := hd
    cases e with
    | tup ys => exact .inl ⟨xs, ys, rfl, rfl, z⟩
    | _ => exact z.elim
  · have z : lsK d h fun xs g => lsK e h fun ys g' => q (zipL xs ys) (g ++ g') h := by
      cases d with
      | tup xs => exact absurd ⟨xs, rfl⟩ hd
      | _ => exact z
    obtain ⟨xs, g, e1, z⟩ := lsK_of z
    obtain ⟨ys, g', e2, z⟩ := lsK_of (k := fun ys g' => q (zipL xs ys) ([g] ++ g') h) z
    exact .inr ⟨xs, g, ys, g', e1, e2, z⟩
theorem wk_enum {K : PySem.W.Frag} {a : Addr} {xs : List D} {g : Gd} {H0 : Hp} {h0 : HD} (o1 : Gd.ok h0 g) (l1 : La K G a xs g H0 h0) : Wk K G (Ite K a) (enumL xs) [g] H0 h0 where
  ok := gd1 o1
  go := fun i H h hi rh fx gd => by
    have hl : (enumL xs).length = xs.length := by unfold enumL; rw [List.length_map, List.length_zipIdx]
    rw [hl] at hi
    obtain ⟨vs, s1, r1⟩ := l1 H h rh fx (gd _ List.mem_cons_self)
    have hx := List.getElem?_eq_getElem (l := xs) (i := i) hi
    obtain ⟨v, e1, rv⟩ := r1.get hx
    refine ⟨⟨vs, v, s1, e1⟩, ?_⟩
    rintro z H' ⟨T, x, rfl, hT, rfl, f1⟩
    have e3 := f1 vs s1
    rw [e1] at e3
    cases e3
    refine ⟨.tup [.int (i : Nat), xs[i]], ?_, pair_new hT rh (.int _) rv⟩
    unfold enumL
    rw [List.getElem?_map, List.getElem?_zipIdx, hx]
    simp
  stop := fun i H h hi rh fx gd => by
    have hl : (enumL xs).length = xs.length := by unfold enumL; rw [List.length_map, List.length_zipIdx]
    rw [hl] at hi
    obtain ⟨vs, s1, r1⟩ := l1 H h rh fx (gd _ List.mem_cons_self)
    have z1 := r1.len
    exact ⟨vs, s1, by omega⟩
theorem rev_get {α : Type} {xs : List α} {i : Nat} (hi : i < xs.length) : xs.reverse[i]? = xs[xs.length - 1 - i]? := List.getElem?_reverse hi
theorem wk_rev {K : PySem.W.Frag} {a : Addr} {xs : List D} {g : Gd} {n : Nat} {H0 : Hp} {h0 : HD} (hn : xs.length = n) (o1 : Gd.ok h0 g) (l1 : La K G a xs g H0 h0) : Wk K G (Itv K a n) xs.reverse [g] H0 h0 where
  ok := gd1 o1
  go := fun i H h hi rh fx gd => by
    rw [List.length_reverse] at hi
    obtain ⟨vs, s1, r1⟩ := l1 H h rh fx (gd _ List.mem_cons_self)
    have hx := List.getElem?_eq_getElem (l := xs) (i := xs.length - 1 - i) (by omega)
    obtain ⟨v, e1, rv⟩ := r1.get hx
    rw [hn] at e1
    refine ⟨⟨by omega, vs, v, s1, e1⟩, ?_⟩
    rintro z H' ⟨rfl, f1⟩
    have e3 := f1 vs s1
    rw [e1] at e3
    cases e3
    exact ⟨_, (rev_get hi).trans hx, rv, rh, Fx.refl⟩
  stop := fun i H h hi rh fx gd => by
    rw [List.length_reverse, hn] at hi
    exact hi
theorem wk_revT {K : PySem.W.Frag} {a : Addr} {xs : List D} {vs : List V} {n : Nat} {H0 : Hp} {h0 : HD} (hn : xs.length = n) (t1 : TupAt K H0 a vs) (r1 : RDs K G H0 xs vs) : Wk K G (RT.ItvT K a n) xs.reverse [] H0 h0 where
  ok := g0
  go := fun i H h hi rh fx gd => by
    rw [List.length_reverse] at hi
    have s1 := (t1.ext fx.ext).sq
    have r1 := r1.ext fx.ext
    have hx := List.getElem?_eq_getElem (l := xs) (i := xs.length - 1 - i) (by omega)
    obtain ⟨v, e1, rv⟩ := r1.get hx
    rw [hn] at e1
    refine ⟨⟨by omega, vs, v, s1, e1⟩, ?_⟩
    rintro z H' ⟨rfl, f1⟩
    have e3 := f1 vs s1
    rw [e1] at e3
    cases e3
    exact ⟨_, (rev_get hi).trans hx, rv, rh, Fx.refl⟩
  stop := fun i H h hi rh fx gd => by
    rw [List.length_reverse, hn] at hi
    exact hi
theorem wk_zip {K : PySem.W.Frag} {a b : Addr} {xs ys : List D} {g g' : Gd} {H0 : Hp} {h0 : HD} (o1 : Gd.ok h0 g) (o2 : Gd.ok h0 g') (l1 : La K G a xs g H0 h0) (l2 : La K G b ys g' H0 h0) : Wk K G (Itz K a b) (zipL xs ys) [g, g'] H0 h0 where
  ok := gd2 o1 o2
  go := fun i H h hi rh fx gd => by
    rw [zipL_len] at hi
    obtain ⟨vs, s1, r1⟩ := l1 H h rh fx (gd _ List.mem_cons_self)
    obtain ⟨ws, s2, r2⟩ := l2 H h rh fx (gd _ (List.mem_cons_of_mem _ List.mem_cons_self))
    have hx := List.getElem?_eq_getElem (l := xs) (i := i) (by omega)
    have hy := List.getElem?_eq_getElem (l := ys) (i := i) (by omega)
    obtain ⟨v, e1, rv⟩ := r1.get hx
    obtain ⟨w, e2, rw'⟩ := r2.get hy
    refine ⟨⟨vs, ws, v, w, s1, s2, e1, e2⟩, ?_⟩
    rintro z H' ⟨T, x, y, rfl, hT, rfl, f1, f2⟩
    have e3 := f1 vs s1
    have e4 := f2 ws s2
    rw [e1] at e3
    rw [e2] at e4
    cases e3
    cases e4
    exact ⟨_, zipL_get hx hy, pair_new hT rh rv rw'⟩
  stop := fun i H h hi rh fx gd => by
    rw [zipL_len] at hi
    obtain ⟨vs, s1, r1⟩ := l1 H h rh fx (gd _ List.mem_cons_self)
    obtain ⟨ws, s2, r2⟩ := l2 H h rh fx (gd _ (List.mem_cons_of_mem _ List.mem_cons_self))
    have z1 := r1.len
    have z2 := r2.len
    exact ⟨vs, ws, s1, s2, by omega⟩
theorem wk_zipT {K : PySem.W.Frag} {a b : Addr} {xs ys : List D} {vs ws : List V} {H0 : Hp} {h0 : HD} (t1 : TupAt K H0 a vs) (r1 : RDs K G H0 xs vs) (t2 : TupAt K H0 b ws) (r2 : RDs K G H0 ys ws) : Wk K G (RZ.ItzT K a b) (zipL xs ys) [] H0 h0 where
  ok := g0
  go := fun i H h hi rh fx gd => by
    rw [zipL_len] at hi
    have r1 := r1.ext fx.ext
    have r2 := r2.ext fx.ext
    have s1 := (t1.ext fx.ext).sq
    have s2 := (t2.ext fx.ext).sq
    have hx := List.getElem?_eq_getElem (l := xs) (i := i) (by omega)
    have hy := List.getElem?_eq_getElem (l := ys) (i := i) (by omega)
    obtain ⟨v, e1, rv⟩ := r1.get hx
    obtain ⟨w, e2, rw'⟩ := r2.get hy
    refine ⟨⟨vs, ws, v, w, s1, s2, e1, e2⟩, ?_⟩
    rintro z H' ⟨T, x, y, rfl, hT, rfl, f1, f2⟩
    have e3 := f1 vs s1
    have e4 := f2 ws s2
    rw [e1] at e3
    rw [e2] at e4
    cases e3
    cases e4
    exact ⟨_, zipL_get hx hy, pair_new hT rh rv rw'⟩
  stop := fun i H h hi rh fx gd => by
    rw [zipL_len] at hi
    have z1 := r1.len
    have z2 := r2.len
    exact ⟨vs, ws, (t1.ext fx.ext).sq, (t2.ext fx.ext).sq, by omega⟩
theorem i_enum {a : Expr} {elts : List Expr} {kk : Nat} {tpos : Pos} {t : TAD} {p pos : Pos} (hg : Gl X "enumerate") (hm : X.mg "enumerate" = none) (ha : PA X [a] (liftA X.K G W t)) (hs : (!isStar a) = true) :
    PI X (.Tuple elts kk tpos) (.Call (.Name "enumerate" p) [a] [] pos) (liftP X.K G W fun σ h q r => t σ h (fun ds h1 => itK .enum ds h1 q) r) := by
  refine ⟨fun pins s σ H R I ⟨a, h, q, r, rs, rh, ht, k, kx⟩ => (pi_enum hg hm ha (by rw [star1 hs]; rfl)).run pins s σ H R I ⟨a, h, _, r, rs, rh, ht, fun ds h1 vs H1 fx1 rd1 rh1 hq1 => ?_, kx⟩⟩
  match ds, rd1, hq1 with
  | [d], rd1, hq1 =>
    obtain ⟨v, rfl, r1⟩ := rds1 rd1
    obtain ⟨xs, g, e, hq⟩ := lsK_of (show lsK d h1 fun xs g => q (enumL xs) g h1 from hq1)
    obtain ⟨a1, rfl, o1, l1⟩ := la_of r1 rh1 e
    obtain ⟨vs, s1, _⟩ := l1.here rh1 o1
    exact ⟨a1, vs, rfl, s1, k _ _ _ _ _ fx1 rh1 (wk_enum o1 l1) hq⟩
  | [], _, hq1 => exact hq1.elim
  | _ :: _ :: _, _, hq1 => exact hq1.elim
theorem i_rev {a tg : Expr} {t : TAD} {te : TED} {p pos : Pos} (hg : Gl X "reversed") (hm : X.mg "reversed" = none) (ha : PE X a (lift X.K G W te)) (ht : t = fun σ h q r => te σ h (fun d h1 => q [d] h1) r) (hs : (!isStar a) = true) :
    PI X tg (.Call (.Name "reversed" p) [a] [] pos) (liftP X.K G W fun σ h q r => t σ h (fun ds h1 => itK .rev ds h1 q) r) := by
  subst ht
  refine ⟨fun pins s σ H R I ⟨a, h, q, r, rs, rh, ht, k, kx⟩ => (RT.pi_revA hg hm ha (by rw [star1 hs])).run pins s σ H R I ⟨a, h, _, r, rs, rh, ht, fun d h1 v H1 fx1 r1 rh1 hq1 => ?_, kx⟩⟩
  have hq1 : tlK d h1 fun xs g => q xs.reverse g h1 := hq1
  by_cases hd : ∃ xs, d = .tup xs
  · obtain ⟨xs, rfl⟩ := hd
    cases r1 with
    | tup t1 l1 q1 => exact ⟨_, _, rfl, .inr ⟨t1.sq, k _ _ _ _ _ fx1 rh1 (wk_revT q1.len t1 q1) hq1⟩⟩
  · have hq1 : lsK d h1 fun xs g => q xs.reverse g h1 := by
      cases d with
      | tup xs => exact absurd ⟨xs, rfl⟩ hd
      | _ => exact hq1
    obtain ⟨xs, g, e, hq⟩ := lsK_of hq1
    obtain ⟨a1, rfl, o1, l1⟩ := la_of r1 rh1 e
    obtain ⟨vs, s1, rr⟩ := l1.here rh1 o1
    exact ⟨a1, vs, rfl, .inl ⟨s1, k _ _ _ _ _ fx1 rh1 (wk_rev rr.len o1 l1) hq⟩⟩
theorem i_zip2 {a b : Expr} {elts : List Expr} {kk : Nat} {tpos : Pos} {t : TAD} {p pos : Pos} (hg : Gl X "zip") (hm : X.mg "zip" = none) (ha : PA X [a, b] (liftA X.K G W t)) (hs : (!isStar a) = true) (hs' : (!isStar b) = true) :
    PI X (.Tuple elts kk tpos) (.Call (.Name "zip" p) [a, b] [] pos) (liftP X.K G W fun σ h q r => t σ h (fun ds h1 => itK .zip2 ds h1 q) r) := by
  refine ⟨fun pins s σ H R I ⟨a, h, q, r, rs, rh, ht, k, kx⟩ => (RZ.pi_zipA hg hm ha (by rw [star1 hs, star1 hs']) (by rw [star1 hs']; rfl)).run pins s σ H R I ⟨a, h, _, r, rs, rh, ht, fun ds h1 vs H1 fx1 rd1 rh1 hq1 => ?_, kx⟩⟩
  match ds, rd1, hq1 with
  | [d, e], rd1, hq1 =>
    obtain ⟨v, w, rfl, r1, r2⟩ := rds2 rd1
    rcases zip_cases (show zipK d e h1 q from hq1) with ⟨xs, ys, rfl, rfl, hq⟩ | ⟨xs, g, ys, g', e1, e2, hq⟩
    · cases r1 with
      | tup t1 l1 q1 => cases r2 with
        | tup t2 l2 q2 => exact ⟨_, _, _, _, rfl, .inr ⟨t1.sq, t2.sq, k _ _ _ _ _ fx1 rh1 (wk_zipT t1 q1 t2 q2) hq⟩⟩
    · obtain ⟨a1, rfl, o1, l1⟩ := la_of r1 rh1 e1
      obtain ⟨b1, rfl, o2, l2⟩ := la_of r2 rh1 e2
      obtain ⟨vs, s1, _⟩ := l1.here rh1 o1
      obtain ⟨ws, s2, _⟩ := l2.here rh1 o2
      exact ⟨_, _, _, _, rfl, .inl ⟨s1, s2, k _ _ _ _ _ fx1 rh1 (wk_zip o1 o2 l1 l2) hq⟩⟩
  | [], _, hq1 => exact hq1.elim
  | [_], _, hq1 => exact hq1.elim
  | _ :: _ :: _ :: _, _, hq1 => exact hq1.elim
/-! ### targets -/
theorem wipe_get (σ : L2.St) (k : Nat) : ∀ vs : List Nat, (wipe σ vs)[k]? = if k ∈ vs then (if k < σ.length then some none else none) else σ[k]?
  | [] => by simp [wipe]
  | i :: vs => by
    have ih := wipe_get σ k vs
    unfold wipe
    by_cases e : k = i
    · subst e
      rw [List.getElem?_set_self' , wipe_get σ k vs]
      simp only [List.mem_cons, true_or, if_true]
      by_cases hk : k ∈ vs
      · rw [if_pos hk]; split <;> rfl
      · rw [if_neg hk]
        by_cases hl : k < σ.length
        · rw [List.getElem?_eq_getElem hl, if_pos hl]; rfl
        · rw [List.getElem?_eq_none (by omega), if_neg hl]; rfl
    · rw [List.getElem?_set_ne (Ne.symm e), ih]
      simp only [List.mem_cons, e, false_or]
theorem wipe_set {σ : L2.St} {i : Nat} {v : Option V} {vs : List Nat} (h : i ∈ vs) : wipe (σ.set i v) vs = wipe σ vs := by
  refine List.ext_getElem? fun k => ?_
  rw [wipe_get, wipe_get, List.length_set]
  by_cases hk : k ∈ vs
  · rw [if_pos hk, if_pos hk]
  · have ne : i ≠ k := fun z => by subst z; exact hk h
    rw [if_neg hk, if_neg hk, List.getElem?_set_ne ne]
structure TgOk (X : Cx) (G : Nat → Addr) (tg : Tg) (e : Expr) (g : TG) : Prop where
  pg : PG X e g
  run : ∀ d v a σ H h (k : Sl → Prop) (Q : L2.St → Hp → Prop), RD X.K G H d v → RS X.K G H a σ → RH X.K G H h → tgS tg d h a k →
    (∀ a' σ', RS X.K G H a' σ' → (∀ vs : List Nat, (∀ i ∈ tgSlots tg, i ∈ vs) → wipe σ' vs = wipe σ vs) → k a' → Q σ' H) → g v σ H Q
def gNames : List Nat → TGs
  | [] => gNil
  | i :: l => gCons (gName i) (gNames l)
theorem go_ok (co : Co X G W C c sc n) : ∀ {l : List Nat} {es : List Expr}, chkTg.go c sc l es = true → PGs X es (gNames l) ∧ (assignEach es X.env).length = l.length ∧ (assignEach es X.env).findIdx? (·.1) = none
  | [], [], _ => ⟨pgs_nil, rfl, rfl⟩
  | [], _ :: _, h => by cases h
  | i :: l, [], h => by cases h
  | i :: l, e :: es, h => by
    cases e with
    | Name x p =>
      have h' := Bool.and_eq_true_iff.mp (show ((decide (c.N[i]? = some x) && locB sc x) && chkTg.go c sc l es) = true from h)
      obtain ⟨h1, h2⟩ := Bool.and_eq_true_iff.mp h'.1
      obtain ⟨g1, g2, g3⟩ := go_ok co h'.2
      obtain ⟨l1, l2⟩ := loc_ok co.env h2
      refine ⟨pgs_cons (pg_name co.nd (by rw [co.hN]; exact of_decide_eq_true h1) l1 l2) g1, ?_, ?_⟩
      · show (assignEach es X.env).length + 1 = l.length + 1
        rw [g2]
      · show List.findIdx? (·.1) ((false, assign (.Name x p) X.env) :: assignEach es X.env) = none
        rw [List.findIdx?_cons, g3]; rfl
    | _ => cases h
theorem names_run {K : PySem.W.Frag} {H : Hp} {k : Sl → Prop} {Q : L2.St → Hp → Prop} : ∀ {l : List Nat} {ds : List D} {vs : List V} {a : Sl} {σ : L2.St}, RDs K G H ds vs → RS K G H a σ → ds.length = l.length →
    k ((l.zip ds).foldl (fun z p => z.set p.1 (some p.2)) a) → (∀ a' σ', RS K G H a' σ' → (∀ vs : List Nat, (∀ i ∈ l, i ∈ vs) → wipe σ' vs = wipe σ vs) → k a' → Q σ' H) → gNames l vs σ H Q
  | [], [], _, a, σ, .nil, rs, _, hk, q => ⟨rfl, q a σ rs (fun _ _ => rfl) hk⟩
  | [], _ :: _, _, _, _, _, _, e, _, _ => by cases e
  | _ :: _, [], _, _, _, _, _, e, _, _ => by cases e
  | i :: l, d :: ds, _, a, σ, .cons h t, rs, e, hk, q =>
    ⟨_, _, rfl, names_run t (rs.set i h) (by simpa using e) hk fun a' σ' r1 w1 k1 => q a' σ' r1 (fun vs hv => by
      rw [w1 vs fun j hj => hv j (List.mem_cons_of_mem _ hj), wipe_set (hv i List.mem_cons_self)]) k1⟩
/-- the same target in a comprehension's block -/
def tgG (K : PySem.W.Frag) : Tg → TG
  | .nm i => gName i
  | .tp l => gTup K l.length (gNames l)
  | .ul l => gUnl K l.length (gNames l)
theorem tgG_run {K : PySem.W.Frag} (tg : Tg) (d : D) (v : V) (a : Sl) (σ : L2.St) (H : Hp) (h : HD) (k : Sl → Prop) (Q : L2.St → Hp → Prop) (r : RD K G H d v) (rs : RS K G H a σ) (rh : RH K G H h) (t : tgS tg d h a k)
    (q : ∀ a' σ', RS K G H a' σ' → (∀ vs : List Nat, (∀ i ∈ tgSlots tg, i ∈ vs) → wipe σ' vs = wipe σ vs) → k a' → Q σ' H) : tgG K tg v σ H Q := by
  cases tg with
  | nm i => exact q _ _ (rs.set i r) (fun vs hv => wipe_set (hv i List.mem_cons_self)) t
  | tp l =>
    cases r with
    | tup ta z rr =>
      have t : _ ∧ _ := t
      exact ⟨_, _, rfl, ta.sq, by rw [← rr.len]; exact t.1, names_run rr rs t.1 t.2 q⟩
    | _ => exact False.elim t
  | ul l =>
    have t : ulK d h fun xs => xs.length = l.length ∧ k ((l.zip xs).foldl (fun z p => z.set p.1 (some p.2)) a) := t
    cases r with
    | ref p =>
      unfold ulK at t
      dsimp only at t
      split at t
      · rename_i xs e
        obtain ⟨vs, g1, _, g3⟩ := rh p _ e
        exact ⟨_, _, rfl, .inl (.inl g1), by rw [← g3.len]; exact t.1, names_run g3 rs t.1 t.2 q⟩
      · exact t.elim
    | _ => exact False.elim t
theorem tg_okG (co : Co X G W C c sc n) {tg : Tg} {e : Expr} (h : chkTg c sc tg e = true) : TgOk X G tg e (tgG X.K tg) := by
  cases tg with
  | nm i =>
    cases e with
    | Name x p =>
      obtain ⟨h1, h2⟩ := Bool.and_eq_true_iff.mp (show (decide (c.N[i]? = some x) && locB sc x) = true from h)
      obtain ⟨l1, l2⟩ := loc_ok co.env h2
      exact ⟨pg_name co.nd (by rw [co.hN]; exact of_decide_eq_true h1) l1 l2, fun d v a σ H h k Q r rs rh t q => q _ _ (rs.set i r) (fun vs hv => wipe_set (hv i List.mem_cons_self)) t⟩
    | _ => cases h
  | tp l =>
    cases e with
    | Tuple es k0 p =>
      obtain ⟨g1, g2, g3⟩ := go_ok co (show chkTg.go c sc l es = true from h)
      refine ⟨pg_tup co.calm g1 g2 g3, fun d v a σ H h k Q r rs rh t q => ?_⟩
      cases r with
      | tup ta z rr =>
        have t : _ ∧ _ := t
        exact ⟨_, _, rfl, ta.sq, by rw [← rr.len]; exact t.1, names_run rr rs t.1 t.2 q⟩
      | _ => exact False.elim t
    | _ => cases h
  | ul l =>
    cases e with
    | Tuple es k0 p =>
      obtain ⟨g1, g2, g3⟩ := go_ok co (show chkTg.go c sc l es = true from h)
      refine ⟨pg_unl co.calm g1 g2 g3, fun d v a σ H h k Q r rs rh t q => tgG_run (.ul l) d v a σ H h k Q r rs rh t q⟩
    | _ => cases h
theorem tg_ok (co : Co X G W C c sc n) {tg : Tg} {e : Expr} (h : chkTg c sc tg e = true) : ∃ g, TgOk X G tg e g := ⟨_, tg_okG co h⟩
/-! ### a comprehension's block -/
abbrev WF : WX := fun _ _ _ _ => False
theorem look_free {env : Env} {x : Str} : ∀ {names : List (Str × NameKind)}, names.lookup x = some .free →
    (names.map fun (n, k) => if (k == NameKind.free && env.scope.kind == .function && env.kindOf n == some .cell) then (n, NameKind.cell) else (n, k)).lookup x = some .free ∨
    (names.map fun (n, k) => if (k == NameKind.free && env.scope.kind == .function && env.kindOf n == some .cell) then (n, NameKind.cell) else (n, k)).lookup x = some .cell
  | [], h => by simp at h
  | (m, k0) :: r, h => by
    have ih := @look_free env x r
    simp only [List.map_cons]
    cases hx : x == m with
    | true =>
      simp only [List.lookup_cons, hx] at h
      cases h
      by_cases hc : (NameKind.free == NameKind.free && env.scope.kind == .function && env.kindOf m == some .cell) = true
      · rw [if_pos hc]; exact .inr (by simp only [List.lookup_cons, hx])
      · rw [if_neg hc]; exact .inl (by simp only [List.lookup_cons, hx])
    | false =>
      simp only [List.lookup_cons, hx] at h
      by_cases hc : (k0 == NameKind.free && env.scope.kind == .function && env.kindOf m == some .cell) = true
      · rw [if_pos hc]; simp only [List.lookup_cons, hx]; exact ih h
      · rw [if_neg hc]; simp only [List.lookup_cons, hx]; exact ih h
theorem look_keep {env : Env} {x : Str} {k : NameKind} (hk : k ≠ .free) : ∀ {names : List (Str × NameKind)}, names.lookup x = some k →
    (names.map fun (n, k) => if (k == NameKind.free && env.scope.kind == .function && env.kindOf n == some .cell) then (n, NameKind.cell) else (n, k)).lookup x = some k
  | [], h => by simp at h
  | (m, k0) :: r, h => by
    have ih := @look_keep env x k hk r
    simp only [List.map_cons]
    cases hx : x == m with
    | true =>
      simp only [List.lookup_cons, hx] at h
      cases h
      have : ¬ (k == NameKind.free && env.scope.kind == .function && env.kindOf m == some .cell) = true := by simp [hk]
      rw [if_neg this]; simp only [List.lookup_cons, hx]
    | false =>
      simp only [List.lookup_cons, hx] at h
      by_cases hc : (k0 == NameKind.free && env.scope.kind == .function && env.kindOf m == some .cell) = true
      · rw [if_pos hc]; simp only [List.lookup_cons, hx]; exact ih h
      · rw [if_neg hc]; simp only [List.lookup_cons, hx]; exact ih h
theorem co_blk (co : Co X G W C c sc n) (scope : Scope) (s : Shared) (H : Hp) (Ca' : Addr) (cl : List (Str × Addr)) (fp : List Addr) : Co (X.blk s H scope (compEnvC scope cl Ca' X.env) fp) G WF C c scope n where
  hN := co.hN
  nd := co.nd
  env := by
    refine ⟨fun x h => look_keep (env := X.env) (by decide) h, fun x h => ⟨look_keep (env := X.env) (by decide) h, ?_⟩, fun x h => look_free (env := X.env) h, fun x h => look_keep (env := X.env) (by decide) h⟩
    show (scope.names.lookup x == some .cell) = true
    rw [h]; rfl
  calm := co.calm
  room := co.room
  gd := co.gd
  tk := fun u s' ⟨_, _, _, _, _, _, _, _, _, _, _, _, _, _, _, _, w⟩ => w
  gf := ⟨co.gf.blt, co.gf.consts, fun x f h => let ⟨a, b⟩ := co.gf.fns x f h; ⟨a, b.ok, b.kp⟩, fun x g h => let ⟨a, b⟩ := co.gf.cls x g h; ⟨a, b.ex, b.kp, b.sub, b.ty⟩, co.gf.exm, fun g h => ⟨(co.gf.fv g h).ok, (co.gf.fv g h).kp⟩⟩
/-! ### comprehensions -/
theorem contX_no {K : PySem.W.Frag} {σ : L2.St} {H : Hp} {h : HD} : ContX K G WF σ H h fun _ _ => False := fun _ _ _ _ _ z => z
theorem wipe_rs {K : PySem.W.Frag} {H : Hp} {a : Sl} {σ : L2.St} (r : RS K G H a σ) (own : List Nat) : RS K G H (wipeD a own) (wipe σ own) := by
  obtain ⟨c, h1, h2⟩ := r.wipe own
  unfold wipeD; rw [← h2]; exact h1
theorem comp_core {ti : TID} {tg : Tg} {own : List Nat} {t : TTD} {e : TED} {g : TG} {K : PySem.W.Frag} {σ : L2.St} {H : Hp} {a : Sl} {h : HD} {r : XQ} {qL : List D → HD → Prop} {Q : VK}
    (hg : ∀ d v a σ H h (k : Sl → Prop) (Q : L2.St → Hp → Prop), RD K G H d v → RS K G H a σ → RH K G H h → tgS tg d h a k → (∀ a' σ', RS K G H a' σ' → (∀ vs : List Nat, (∀ i ∈ tgSlots tg, i ∈ vs) → wipe σ' vs = wipe σ vs) → k a' → Q σ' H) → g v σ H Q)
    (ho : ∀ i ∈ tgSlots tg, i ∈ own) (rs : RS K G H a σ) (rh : RH K G H h) (ht : ti a h (fun xs gd h1 => cmpR tg own t e a gd xs [] h1 qL) r) (kx : ContX K G W σ H h r)
    (fin : ∀ xs h2 H2 p vs, Fx H h H2 h2 → RH K G H2 h2 → H p = none → H2 p = some (.lst vs) → h2 p = none → RDs K G H2 xs vs → xs.length ≤ sizeLine → qL xs h2 → Q (.ref p) H2) :
    tLc (liftP K G W ti) g (liftT K G WF t) (lift K G WF e) own σ H Q := by
  refine ⟨a, h, _, r, rs, rh, ht, fun xs gd h1 J H1 fx1 rh1 wk hq p np => ?_, kx⟩
  have hp : H p = none := by
    cases q : H p with
    | none => rfl
    | some o => exact absurd np (fx1.dm p (by rw [q]; exact fun z => nomatch z))
  have s1 : Fx H1 h1 (upd H1 p (.lst [])) h1 := Fx.new np
  refine ⟨fun i m H' => m = xs.length - i ∧ i ≤ xs.length ∧ ∃ h' acc accV, RH K G H' h' ∧ Fx H1 h1 H' h' ∧ gdsOk h' gd ∧ H' p = some (.lst accV) ∧ h' p = none ∧ RDs K G H' acc accV ∧ acc.length ≤ sizeLine ∧ cmpR tg own t e a gd (xs.drop i) acc h' qL,
    ⟨xs.length, by simp, Nat.zero_le _, h1, [], [], rh1.hid np, s1, wk.ok, upd_same, rh1.none_of np, .nil, Nat.zero_le _, hq⟩, fun i m H' ⟨em, hi, h', acc, accV, rh', fx', gd', e1, e2, r1, l1, hc⟩ => ?_⟩
  by_cases hlt : i < xs.length
  · refine .inr ⟨(wk.go i H' h' hlt rh' fx' gd').1, fun H2 => ∃ m', m' < m ∧ (m' = xs.length - (i + 1) ∧ i + 1 ≤ xs.length ∧ ∃ h' acc accV, RH K G H2 h' ∧ Fx H1 h1 H2 h' ∧ gdsOk h' gd ∧ H2 p = some (.lst accV) ∧ h' p = none ∧ RDs K G H2 acc accV ∧ acc.length ≤ sizeLine ∧ cmpR tg own t e a gd (xs.drop (i + 1)) acc h' qL),
      fun H2 hN => hN, fun x H2 hy => ?_⟩
    obtain ⟨d, ed, rd, rh2, fx2⟩ := (wk.go i H' h' hlt rh' fx' gd').2 x H2 hy
    have ex : xs.drop i = d :: xs.drop (i + 1) := by
      rw [List.drop_eq_getElem_cons hlt]
      rw [List.getElem?_eq_getElem hlt] at ed
      cases ed; rfl
    rw [ex] at hc
    have ext2 : Ext H H2 := (fx1.trans (fx'.trans fx2)).ext
    have ep2 : H2 p = some (.lst accV) := fx2.st p _ e1 (.inl e2)
    refine hg d x (wipeD a own) (wipe σ own) H2 _ _ _ rd (wipe_rs (rs.ext ext2) own) rh2 hc fun a' σ' rs' hw hc2 => ⟨?_, ?_⟩
    · rw [hw own ho]
      refine List.ext_getElem? fun k => ?_
      rw [wipe_get, wipe_get]
      by_cases hk : k ∈ own
      · rw [if_pos hk, if_pos hk]
        have : (wipe σ own).length = σ.length := wipe_length _ _
        rw [this]
      · rw [if_neg hk, if_neg hk]
    · refine ⟨a', h', _, _, rs', rh2, hc2, fun b h3 H3 fx3 rh3 hb => ?_, contX_no⟩
      have f3 := fx'.trans (fx2.trans fx3)
      have ep3 : H3 p = some (.lst accV) := fx3.st p _ ep2 (.inl e2)
      have n3 : h3 p = none := fx3.nw p (by rw [ep2]; exact fun z => nomatch z) e2
      cases b with
      | false =>
        obtain ⟨g3, hc3⟩ := (show gdsOk h3 gd ∧ cmpR tg own t e a gd (xs.drop (i + 1)) acc h3 qL from hb)
        exact ⟨xs.length - (i + 1), by omega, rfl, hlt, h3, acc, accV, rh3, f3, g3, ep3, n3, r1.ext (fx2.trans fx3).ext, l1, hc3⟩
      | true =>
        refine ⟨a', h3, _, _, rs'.ext fx3.ext, rh3, hb, fun y h4 v4 H4 fx4 rd4 rh4 ⟨g4, l4, hc4⟩ => ?_, contX_no⟩
        have f4 := f3.trans fx4
        have ep4 : H4 p = some (.lst accV) := fx4.st p _ ep3 (.inl n3)
        have n4 : h4 p = none := fx4.nw p (by rw [ep3]; exact fun z => nomatch z) n3
        have r4 := r1.ext (fx2.trans (fx3.trans fx4)).ext
        have el := r4.len
        refine ⟨accV, ep4, by omega, xs.length - (i + 1), by omega, rfl, hlt, h4, acc ++ [y], accV ++ [v4], rh4.hidw ep4 (fun z => z) n4, f4.hidw np, g4, upd_same, n4, (r4.snoc rd4).ext (Ext.wr ep4 (fun z => z)), ?_, hc4⟩
        rw [List.length_append]; exact l4
  · have e : i = xs.length := by omega
    subst e
    rw [List.drop_length] at hc
    exact .inl ⟨wk.stop _ H' h' (Nat.le_refl _) rh' fx' gd', fin acc h' H' p accV (fx1.trans fx') rh' hp e1 e2 r1 l1 hc⟩
end
end Nd
/-! Ne4: two names at once. -/
namespace Nd
open PySem PySem.Spec PyProof.Rows L2
theorem sw_par {env : Env} {sc : Scope} {x y : Str} {px py pt pt2 : Pos} {kt k2 : Nat} {a b : Expr} (hk : env.blockKind = .function) (hx : env.kindOf x = some .local) (hy : env.kindOf y = some .local) (h : parOk sc x y px py a b = true) :
    swappedStores [.Tuple [.Name x px, .Name y py] kt pt] (.Tuple [a, b] k2 pt2) env = pure (some [x, y]) := by
  unfold parOk at h
  simp only [Bool.and_eq_true, Bool.not_eq_true', decide_eq_true_eq, beq_iff_eq] at h
  obtain ⟨⟨⟨⟨⟨⟨⟨h1, h2⟩, h3⟩, h4⟩, h5⟩, h6⟩, h7⟩, h8⟩ := h
  have s1 : ∀ e : Expr, isStar e = false → (match e with | .Starred .. => true | _ => false) = false := fun e he => by cases e <;> first | rfl | cases he
  unfold swappedStores
  simp [hk, hx, hy, h3, s1 a h5, s1 b h6, h7, h8]
  rw [if_neg ?_]
  · have e : (x == y) = false := beq_eq_false_iff_ne.mpr h4
    have e2 : (y == x) = false := beq_eq_false_iff_ne.mpr (Ne.symm h4)
    simp [List.filterMap_cons, hx, hy, h3, Expr.pos, List.eraseDups_cons, e, e2, h4, Ne.symm h4]
  · rintro (z | z)
    · cases a <;> first | exact Bool.noConfusion h5 | exact Bool.noConfusion z
    · cases b <;> first | exact Bool.noConfusion h6 | exact Bool.noConfusion z
theorem fm_lt {α β : Type} {f : α → Option β} : ∀ {l : List α}, (∃ x ∈ l, f x = none) → (l.filterMap f).length < l.length
  | [], ⟨_, z, _⟩ => by cases z
  | a :: l, ⟨x, hx, e⟩ => by
    have le := List.length_filterMap_le f l
    cases z : f a with
    | none =>
      rw [List.filterMap_cons_none z, List.length_cons]
      omega
    | some b =>
      rw [List.filterMap_cons_some z, List.length_cons, List.length_cons]
      rcases List.mem_cons.mp hx with q | q
      · rw [q, z] at e; cases e
      · have := fm_lt ⟨x, q, e⟩
        omega
theorem sw_cell {env : Env} {es : List Expr} {k : Nat} {q : Pos} {x : Expr} (h : ∃ y p, Expr.Name y p ∈ es ∧ env.kindOf y = some .cell) : swappedStores [.Tuple es k q] x env = pure none := by
  obtain ⟨y, p, hy, hk⟩ := h
  unfold swappedStores
  cases x <;> try rfl
  dsimp only
  split
  · rfl
  split
  · rfl
  rw [if_pos (Bool.or_eq_true_iff.mpr (.inl (bne_iff_ne.mpr (Nat.ne_of_lt (fm_lt ⟨_, hy, by simp [hk]⟩)))))]
end Nd
/-! Nd11: comprehensions and calls as expressions; statements. -/
namespace Nd
open PySem PySem.Spec PyProof.Rows L2
section
variable {X : Cx} {G : Nat → Addr} {W : WX} {C : Ca} {c : Cf} {sc : Scope} {n : Nat}
theorem noSet {e : Expr} (h : (!isSet e) = true) (env : Env) (x : Value) : foldedSetIterable e env x = pure x := by
  cases e <;> first | rfl | cases h
theorem own_snd (c : Cf) (own : List Nat) : (ownOf c own).map (·.2) = own := by
  unfold ownOf
  rw [List.map_map]
  exact List.map_id' _
theorem blk_ok (co : Co X G W C c sc n) {scope : Scope} {own : List (Str × Nat)} (h : blkC c.N sc scope own = true) : BlkOk X.N X.env.scope scope own := by
  have b := blkOk_by h
  rw [co.hN]
  refine ⟨b.kind, b.uniq, b.ix, fun y hy e => ?_, b.own⟩
  rcases b.free y hy e with z | z
  · exact .inl (co.env.cell _ z).1
  · rcases co.env.free _ z with q | q
    · exact .inr q
    · exact .inl q
theorem fx_tell {H H2 : Hp} {h h2 : HD} {p : Addr} {m : MO} (f : Fx H h H2 h2) (e : H p = none) : Fx H h H2 (hup h2 p m) where
  st := f.st
  nw := fun a z q => by
    have ne : a ≠ p := fun w => by subst w; exact z e
    rw [hup_ne ne]; exact f.nw a z q
  dm := f.dm
theorem rh_tell {K : PySem.W.Frag} {H : Hp} {h : HD} {p : Addr} {m : MO} (r : RH K G H h) (q : RM K G H p m) : RH K G H (hup h p m) := fun a m' z => by
  by_cases ap : a = p
  · subst ap; rw [hup_same] at z; cases z; exact q
  · rw [hup_ne ap] at z; exact r a m' z
section
variable {ti : TID} {tg : Tg} {own : List Nat} {t : TTD} {e : TED} {tx it x : Expr} {l : List Expr} {scope : Scope} {pos : Pos}
theorem comp_v (co : Co X G W C c sc n) (ho : ∀ i ∈ tgSlots tg, i ∈ own) (ht : TgOk X G tg tx (tgG X.K tg) ∨ True) (hg : ∀ d v a σ H h (k : Sl → Prop) (Q : L2.St → Hp → Prop), RD X.K G H d v → RS X.K G H a σ → RH X.K G H h → tgS tg d h a k → (∀ a' σ', RS X.K G H a' σ' → (∀ vs : List Nat, (∀ i ∈ tgSlots tg, i ∈ vs) → wipe σ' vs = wipe σ vs) → k a' → Q σ' H) → tgG X.K tg v σ H Q)
    {σ : L2.St} {H : Hp} {Q : VK} (h : lift X.K G W (cmpD tg own ti t e).v σ H Q) : tLc (liftP X.K G W ti) (tgG X.K tg) (liftT X.K G WF t) (lift X.K G WF e) ((ownOf c own).map (·.2)) σ H Q := by
  obtain ⟨a, h, q, r, rs, rh, hd, k, kx⟩ := h
  rw [own_snd]
  refine comp_core hg ho rs rh hd kx fun xs h2 H2 p vs fx2 rh2 hp ep n2 r l hq => ?_
  exact k (.ref p) _ (.ref p) H2 (fx_tell fx2 hp) (.ref p) (rh_tell (m := .lst xs) rh2 ⟨vs, ep, l, r⟩) (hq p n2)
theorem comp_i (co : Co X G W C c sc n) (ho : ∀ i ∈ tgSlots tg, i ∈ own) (hg : ∀ d v a σ H h (k : Sl → Prop) (Q : L2.St → Hp → Prop), RD X.K G H d v → RS X.K G H a σ → RH X.K G H h → tgS tg d h a k → (∀ a' σ', RS X.K G H a' σ' → (∀ vs : List Nat, (∀ i ∈ tgSlots tg, i ∈ vs) → wipe σ' vs = wipe σ vs) → k a' → Q σ' H) → tgG X.K tg v σ H Q)
    {σ : L2.St} {H : Hp} {Q : VK} (h : liftI X.K G W (cmpD tg own ti t e).i σ H Q) : tLc (liftP X.K G W ti) (tgG X.K tg) (liftT X.K G WF t) (lift X.K G WF e) ((ownOf c own).map (·.2)) σ H Q := by
  obtain ⟨a, h, q, r, rs, rh, hd, k, kx⟩ := h
  rw [own_snd]
  exact comp_core hg ho rs rh hd kx fun xs h2 H2 p vs fx2 rh2 hp ep n2 r l hq => k xs .hid h2 (.ref p) H2 fx2 (.hid ep n2 r l) rh2 hq
end
/-- what a comprehension's parts are, each in the block -/
structure CompOk (X : Cx) (G : Nat → Addr) (W : WX) (c : Cf) (ti : TID) (tg : Tg) (own : List Nat) (t : TTD) (e : TED) (tx it x : Expr) (l : List Expr) (scope : Scope) : Prop where
  pi : PI X tx it (liftP X.K G W ti)
  bk : BlkOk X.N X.env.scope scope (ownOf c own)
  ho : ∀ i ∈ tgSlots tg, i ∈ own
  hg : ∀ d v a σ H h (k : Sl → Prop) (Q : L2.St → Hp → Prop), RD X.K G H d v → RS X.K G H a σ → RH X.K G H h → tgS tg d h a k → (∀ a' σ', RS X.K G H a' σ' → (∀ vs : List Nat, (∀ i ∈ tgSlots tg, i ∈ vs) → wipe σ' vs = wipe σ vs) → k a' → Q σ' H) → tgG X.K tg v σ H Q
  pg : ∀ (s : Shared) (H : Hp) (C' : Addr) (cl : List (Str × Addr)) (fp : List Addr), PG (X.blk s H scope (compEnvC scope cl C' X.env) fp) tx (tgG X.K tg)
  pt : ∀ (s : Shared) (H : Hp) (C' : Addr) (cl : List (Str × Addr)) (fp : List Addr), PTs (X.blk s H scope (compEnvC scope cl C' X.env) fp) l (liftT X.K G WF t)
  pe : ∀ (s : Shared) (H : Hp) (C' : Addr) (cl : List (Str × Addr)) (fp : List Addr), PE (X.blk s H scope (compEnvC scope cl C' X.env) fp) x (lift X.K G WF e)
  hs : (!isSet it) = true
theorem snd_comp (co : Co X G W C c sc n) {ti : TID} {tg : Tg} {own : List Nat} {t : TTD} {e : TED} {tx it x : Expr} {l : List Expr} {scope : Scope} {pos : Pos} (k : CompOk X G W c ti tg own t e tx it x l scope) :
    Snd X G W (cmpD tg own ti t e) (.ListComp x [⟨tx, it, l, 0⟩] scope pos) := by
  have base := pe_lc (own := ownOf c own) (pos := pos) co.calm co.nd k.pi k.bk k.pg k.pt k.pe (noSet k.hs X.env)
  have hv : PE X (.ListComp x [⟨tx, it, l, 0⟩] scope pos) (lift X.K G W (cmpD tg own ti t e).v) := PE.imp base fun σ H Q h => comp_v co k.ho (.inr trivial) (tx := tx) k.hg h
  exact ⟨hv, snd_t hv rfl, PE.imp base fun σ H Q h => comp_i co k.ho k.hg h⟩
/-! ### calls -/
theorem p_call (co : Co X G W C c sc n) {x : Str} {f : Nat} {e : Expr} {l : List Expr} {t : TAD} {p pos : Pos} (h1 : gloB sc x = true) (h2 : (!odd x) = true) (h3 : c.fns.lookup x = some f) (ha : PA X (e :: l) (liftA X.K G W t)) (hns : noStar (e :: l) = true) :
    PE X (.Call (.Name x p) (e :: l) [] pos) (lift X.K G W fun σ h q r => t σ h (fun ds h1 => C.call f ds h1 q r) r) := by
  obtain ⟨m, ⟨fd, ps, F, B⟩, kp⟩ := co.gf.fns x f h3
  have h' := Bool.and_eq_true_iff.mp (show ((!isStar e) && noStar l) = true from hns)
  exact PE.imp (pe_callG F co.gd co.room (glo_ok co.env h1) m kp B (fun σ => passAt co.tk σ) ha (odd_no h2).1 (star1 h'.1 l _) (starBack _ _ h'.2)) fun σ H Q ⟨a, h, q, r, rs, rh, ht, k, kx⟩ =>
    ⟨a, h, _, r, rs, rh, ht, fun ds h1 vs H1 fx1 rd1 rh1 hq1 => ⟨ds, h1, q, r, rd1, rh1, hq1, k.ext fx1, fun c' h2 H2 fx2 rh2 hr => kx.ext fx1 c' h2 H2 fx2 rh2 hr⟩, kx⟩
theorem p_call0 (co : Co X G W C c sc n) {x : Str} {f : Nat} {p pos : Pos} (h1 : gloB sc x = true) (h2 : (!odd x) = true) (h3 : c.fns.lookup x = some f) :
    PE X (.Call (.Name x p) [] [] pos) (lift X.K G W fun _ h q r => C.call f [] h q r) := by
  obtain ⟨m, ⟨fd, ps, F, B⟩, kp⟩ := co.gf.fns x f h3
  refine ⟨fun pins s σ H Q I ⟨a, h, q, r, rs, rh, ht, k, kx⟩ => ?_⟩
  refine wpAny_Call_Name_kw (ld_glob I (glo_ok co.env h1) m ?_ (odd_no h2).1)
  exact PySem.W.callWith_K0 I.kIn kp (run_fnG (us := []) F co.gd co.room B (passAt co.tk σ) I .nil ⟨[], h, q, r, .nil, rh, ht, k, fun c' h2 H2 fx2 rh2 hr => kx c' h2 H2 fx2 rh2 hr⟩)
/-- a def by its value -/
theorem p_callv (co : Co X G W C c sc n) {i : Nat} {x : Str} {e : Expr} {l : List Expr} {t : TAD} {p pos : Pos} (h1 : c.N[i]? = some x) (h2 : visB sc x = true) (h3 : (!odd x) = true) (ha : PA X (e :: l) (liftA X.K G W t)) (hns : noStar (e :: l) = true) :
    PE X (.Call (.Name x p) (e :: l) [] pos) (lift X.K G W fun σ h q r => callK C ((σ[i]?).join) fun g => t σ h (fun ds h1 => C.call g ds h1 q r) r) := by
  have h' := Bool.and_eq_true_iff.mp (show ((!isStar e) && noStar l) = true from hns)
  refine ⟨fun pins s σ H Q I ⟨a, h, q, r, rs, rh, ht, k, kx⟩ => ?_⟩
  have ht : callK C ((a[i]?).join) fun g => t a h (fun ds h1 => C.call g ds h1 q r) r := ht
  unfold callK at ht
  split at ht
  · rename_i g e0
    obtain ⟨hv, ht⟩ := ht
    obtain ⟨⟨fd, ps, F, B⟩, kp⟩ := co.gf.fv g hv
    have e1 : a[i]? = some (some (.glo g)) := by
      cases z : a[i]? with
      | none => rw [z] at e0; cases e0
      | some o => rw [z] at e0; exact congrArg some e0
    obtain ⟨v, e2, rv⟩ := rs.get e1
    cases rv
    refine wpAny_Call_Name_kw (thn ((pe_var (pos := p) (by rw [co.hN]; exact h1) (vis_ok co.env h2) (odd_no h3).1 (odd_no h3).2.1).run pins s σ H (fun v H1 => v = .ref (G g) ∧ H1 = H) I ⟨_, e2, rfl, rfl⟩) fun u s1 ⟨v, H1, I1, r1, q1⟩ => ?_)
    obtain ⟨rfl, rfl⟩ := q1
    obtain rfl : u = Value.ref (G g) := r1
    refine PySem.W.callWith_K (h₀ := X.base) I.ok.mod.kin kp (thn (ha.run pos pins s1 σ _ (fun vs H2 => spOf X.K G (C.call g) vs H2 Q fun cls d H3 => W cls d σ H3) I1 ⟨a, h, _, r, rs, rh, ht, fun ds h1 vs H1 fx1 rd1 rh1 hq1 =>
      ⟨ds, h1, q, r, rd1, rh1, hq1, k.ext fx1, fun c' h2 H2 fx2 rh2 hr => kx.ext fx1 c' h2 H2 fx2 rh2 hr⟩, kx⟩) fun us s2 ⟨vs, H2, I2, r2, q2⟩ => ⟨I2.kIn, run_fnG F co.gd co.room B (passAt co.tk σ) I2 r2 q2⟩) (star1 h'.1 l _) (starBack _ _ h'.2)
  · exact ht.elim
/-! ### statements -/
structure EnK (K : PySem.W.Frag) (G : Nat → Addr) (W : WX) (H : Hp) (h : HD) (Z : En) (D : Ends) : Prop where
  nx : ∀ a' h' σ' H', Fx H h H' h' → RS K G H' a' σ' → RH K G H' h' → Z.nx a' h' → D.nx σ' H'
  rt : ∀ d h' v H', Fx H h H' h' → RD K G H' d v → RH K G H' h' → Z.rt d h' → D.rt v H'
  bk : ∀ a' h' σ' H', Fx H h H' h' → RS K G H' a' σ' → RH K G H' h' → Z.bk a' h' → D.bk σ' H'
  ct : ∀ a' h' σ' H', Fx H h H' h' → RS K G H' a' σ' → RH K G H' h' → Z.ct a' h' → D.ct σ' H'
  ex : ∀ c a' h' σ' H', Fx H h H' h' → RS K G H' a' σ' → RH K G H' h' → Z.ex c a' h' → W (.ref (G c)) none σ' H'
def liftS (K : PySem.W.Frag) (G : Nat → Addr) (W : WX) (t : TSD) : TS := fun D σ H => ∃ a h Z, RS K G H a σ ∧ RH K G H h ∧ t Z a h ∧ EnK K G W H h Z D
theorem EnK.ext {K : PySem.W.Frag} {H H1 : Hp} {h h1 : HD} {Z : En} {D : Ends} (k : EnK K G W H h Z D) (f : Fx H h H1 h1) : EnK K G W H1 h1 Z D :=
  ⟨fun a h' σ H' fx => k.nx a h' σ H' (f.trans fx), fun a h' σ H' fx => k.rt a h' σ H' (f.trans fx), fun a h' σ H' fx => k.bk a h' σ H' (f.trans fx), fun a h' σ H' fx => k.ct a h' σ H' (f.trans fx), fun c a h' σ H' fx => k.ex c a h' σ H' (f.trans fx)⟩
theorem EnK.cx {K : PySem.W.Frag} {H : Hp} {h : HD} {Z : En} {D : Ends} {a : Sl} {σ : L2.St} (k : EnK K G W H h Z D) (rs : RS K G H a σ) : ContX K G W σ H h fun x h' => Z.ex x a h' := fun c h' H' fx rh hr => k.ex c a h' σ H' fx (rs.ext fx.ext) rh hr
theorem PS.imp {st : Stmt} {t t' : TS} (h : PS X st t) (i : ∀ D σ H, t' D σ H → t D σ H) : PS X st t' := ⟨fun p s σ H D I q => h.run p s σ H D I (i D σ H q)⟩
theorem PSs.imp {st : List Stmt} {t t' : TS} (h : PSs X st t) (i : ∀ D σ H, t' D σ H → t D σ H) : PSs X st t' := ⟨fun p s σ H D I q => h.run p s σ H D I (i D σ H q)⟩
theorem noSw {e : Expr} (h : (!isComp e) = true) (t : Option Expr) (l : Nat) (env : Env) : swapsWith e t l env = pure false := by
  cases e <;> first | rfl | cases h
variable {pos : Pos}
theorem s_pass : PS X (.Pass pos) (liftS X.K G W fun D σ h => D.nx σ h) := PS.imp ps_pass fun D σ H ⟨a, h, Z, rs, rh, ht, k⟩ => k.nx a h σ H Fx.refl rs rh ht
theorem s_brk : PS X (.Break pos) (liftS X.K G W fun D σ h => D.bk σ h) := PS.imp ps_break fun D σ H ⟨a, h, Z, rs, rh, ht, k⟩ => k.bk a h σ H Fx.refl rs rh ht
theorem s_cnt : PS X (.Continue pos) (liftS X.K G W fun D σ h => D.ct σ h) := PS.imp ps_continue fun D σ H ⟨a, h, Z, rs, rh, ht, k⟩ => k.ct a h σ H Fx.refl rs rh ht
theorem s_doc {x j p2} : PS X (.Expr (.Constant (.str x) j p2) pos) (liftS X.K G W fun D σ h => D.nx σ h) := PS.imp ps_doc fun D σ H ⟨a, h, Z, rs, rh, ht, k⟩ => k.nx a h σ H Fx.refl rs rh ht
theorem s_retN : PS X (.Return none pos) (liftS X.K G W fun D _ h => D.rt .non h) := PS.imp ps_retN fun D σ H ⟨a, h, Z, rs, rh, ht, k⟩ => k.rt .non h .non H Fx.refl .non rh ht
section
variable {e : Expr} {te : TED}
theorem s_ex (he : PE X e (lift X.K G W te)) (hc : (!isComp e) = true) : PS X (.Expr e pos) (liftS X.K G W fun D σ h => te σ h (fun _ h1 => D.nx σ h1) fun x h' => D.ex x σ h') :=
  PS.imp (ps_expr he (noSw hc _ _ _)) fun D σ H ⟨a, h, Z, rs, rh, ht, k⟩ => ⟨a, h, _, _, rs, rh, ht, fun d h1 v H1 fx rd rh1 hq => k.nx a h1 σ H1 fx (rs.ext fx.ext) rh1 hq, k.cx rs⟩
theorem s_ret (he : PE X e (lift X.K G W te)) : PS X (.Return (some e) pos) (liftS X.K G W fun D σ h => te σ h D.rt fun x h' => D.ex x σ h') :=
  PS.imp (ps_ret he) fun D σ H ⟨a, h, Z, rs, rh, ht, k⟩ => ⟨a, h, _, _, rs, rh, ht, fun d h1 v H1 fx rd rh1 hq => k.rt d h1 v H1 fx rd rh1 hq, k.cx rs⟩
theorem s_set (co : Co X G W C c sc n) {i : Nat} {y : Str} {py : Pos} (h1 : c.N[i]? = some y) (h2 : locB sc y = true) (he : PE X e (lift X.K G W te)) (hc : (!isComp e) = true) :
    PS X (.Assign [.Name y py] e pos) (liftS X.K G W fun D σ h => te σ h (fun d h1 => D.nx (σ.set i (some d)) h1) fun x h' => D.ex x σ h') := by
  obtain ⟨l1, l2⟩ := loc_ok co.env h2
  exact PS.imp (ps_set (i := i) co.nd (by rw [co.hN]; exact h1) l1 he (noSw hc _ _ _) l2) fun D σ H ⟨a, h, Z, rs, rh, ht, k⟩ =>
    ⟨a, h, _, _, rs, rh, ht, fun d h1 v H1 fx rd rh1 hq => k.nx _ h1 _ H1 fx ((rs.ext fx.ext).set i rd) rh1 hq, k.cx rs⟩
theorem s_setC (co : Co X G W C c sc n) {i : Nat} {y : Str} {py : Pos} {ti : TID} {tg : Tg} {own : List Nat} {t : TTD} {e : TED} {tx it x : Expr} {l : List Expr} {scope : Scope} {p2 : Pos} (h1 : c.N[i]? = some y) (h2 : onlyLoc sc y = true) (k : CompOk X G W c ti tg own t e tx it x l scope)
    (hl : (py.line == p2.line) = true) (hn : (scope.names.any fun (n, k) => n == y && (k == .local || k == .cell)) = false) :
    PS X (.Assign [.Name y py] (.ListComp x [⟨tx, it, l, 0⟩] scope p2) pos) (liftS X.K G W fun D σ h => (cmpD tg own ti t e).v σ h (fun d h1 => D.nx (σ.set i (some d)) h1) fun x h' => D.ex x σ h') := by
  have hy : X.env.scope.names.lookup y = some .local := by
    unfold onlyLoc at h2
    split at h2
    · rename_i q; exact co.env.loc y q
    · cases h2
  refine ⟨fun pins s σ H D I hh => ?_⟩
  have base := ps_setLc (own := ownOf c own) (pos := p2) (spos := pos) (py := py) co.calm co.nd (by rw [co.hN]; exact h1) hy (sw_true I.ok.kind hy hl hn) k.pi k.bk k.pg k.pt k.pe (noSet k.hs X.env)
  refine base.run pins s σ H D I ?_
  obtain ⟨a, h, Z, rs, rh, ht, kk⟩ := hh
  exact comp_v co k.ho (.inr trivial) (tx := tx) k.hg ⟨a, h, _, _, rs, rh, ht, fun d h1 v H1 fx rd rh1 hq => kk.nx _ h1 _ H1 fx ((rs.ext fx.ext).set i rd) rh1 hq, kk.cx rs⟩
theorem setT_sw (co : Co X G W C c sc n) {es : List Expr} {k0 : Nat} {p2 : Pos} {e : Expr} (ht : (!isTup e || cellIn sc es) = true) : swappedStores [.Tuple es k0 p2] e X.env = pure none := by
  cases z : isTup e with
  | false => cases e <;> first | rfl | cases z
  | true =>
    rw [z, Bool.not_true, Bool.false_or] at ht
    unfold cellIn at ht
    rw [List.any_eq_true] at ht
    obtain ⟨y, hy, q⟩ := ht
    cases y with
    | Name a p =>
      dsimp only at q
      split at q
      · rename_i w
        exact sw_cell ⟨a, p, hy, (co.env.cell a w).1⟩
      · cases q
    | _ => cases q
theorem s_setT (co : Co X G W C c sc n) {tg : Tg} {es : List Expr} {k0 : Nat} {p2 : Pos} (h1 : chkTg c sc tg (.Tuple es k0 p2) = true) (he : PE X e (lift X.K G W te)) (hc : (!isComp e) = true) (ht : (!isTup e || cellIn sc es) = true) :
    PS X (.Assign [.Tuple es k0 p2] e pos) (liftS X.K G W fun D σ h => te σ h (fun d h1 => tgS tg d h1 σ fun σ' => D.nx σ' h1) fun x h' => D.ex x σ h') := by
  obtain ⟨pg, run⟩ := tg_okG co h1
  refine PS.imp (ps_asg he pg (by unfold swapsWithSole; exact noSw hc _ _ _) (setT_sw co ht) rfl) fun D σ H ⟨a, h, Z, rs, rh, ht, k⟩ =>
    ⟨a, h, _, _, rs, rh, ht, fun d h1 v H1 fx rd rh1 hq => run d v a σ H1 _ _ _ rd (rs.ext fx.ext) rh1 hq fun a' σ' rs' _ hz => k.nx a' h1 σ' H1 fx rs' rh1 hz, k.cx rs⟩
end
theorem s_ite {e : Expr} {te : TTD} {l m : List Stmt} {ta tb : TSD} (he : PT X e (liftT X.K G W te)) (ha : PSs X l (liftS X.K G W ta)) (hb : PSs X m (liftS X.K G W tb)) :
    PS X (.If e l m pos) (liftS X.K G W fun D σ h => te σ h (fun k h1 => if k = true then ta D σ h1 else tb D σ h1) fun x h' => D.ex x σ h') :=
  PS.imp (ps_if he ha hb) fun D σ H ⟨a, h, Z, rs, rh, ht, k⟩ => ⟨a, h, _, _, rs, rh, ht, fun b h1 H1 fx rh1 hq => by
    cases b with
    | true => exact ⟨a, h1, Z, rs.ext fx.ext, rh1, hq, k.ext fx⟩
    | false => exact ⟨a, h1, Z, rs.ext fx.ext, rh1, hq, k.ext fx⟩, k.cx rs⟩
theorem b_nil : PSs X [] (liftS X.K G W fun D σ h => D.nx σ h) := PSs.imp pss_nil fun D σ H ⟨a, h, Z, rs, rh, ht, k⟩ => k.nx a h σ H Fx.refl rs rh ht
theorem b_one {st : Stmt} {t : TSD} (h : PS X st (liftS X.K G W t)) : PSs X [st] (liftS X.K G W t) := pss_one h
theorem b_cons {st : Stmt} {l : List Stmt} {t u : TSD} (h : PS X st (liftS X.K G W t)) (hl : PSs X l (liftS X.K G W u)) : PSs X (st :: l) (liftS X.K G W fun D σ h => t { D with nx := u D } σ h) :=
  PSs.imp (pss_cons h hl) fun D σ H ⟨a, h, Z, rs, rh, ht, k⟩ => ⟨a, h, _, rs, rh, ht, ⟨fun a' h' σ' H' fx rs' rh' hq => ⟨a', h', Z, rs', rh', hq, k.ext fx⟩, k.rt, k.bk, k.ct, k.ex⟩⟩
theorem s_whl (po : PassesOwn (model X.prog X.w) X.A X.env X.xe) {e : Expr} {te : TTD} {l : List Stmt} {tb : TSD} (he : PT X e (liftT X.K G W te)) (hb : PSs X l (liftS X.K G W tb)) :
    PS X (.While e l [] pos) (liftS X.K G W fun D σ h => ∃ n, whlR te tb D n σ h) :=
  PS.imp (ps_while po he hb) fun D σ H ⟨a, h, Z, rs, rh, ⟨m, ht⟩, k⟩ => by
    refine ⟨fun m σ' H' => ∃ a' h', RS X.K G H' a' σ' ∧ RH X.K G H' h' ∧ Fx H h H' h' ∧ whlR te tb Z m a' h', ⟨m, a, h, rs, rh, Fx.refl, ht⟩, fun m σ' H' ⟨a', h', rs', rh', fx', hw⟩ => ?_⟩
    cases m with
    | zero => exact hw.elim
    | succ m =>
      refine ⟨a', h', _, _, rs', rh', hw, fun b h1 H1 fx1 rh1 hq => ?_, (k.ext fx').cx rs'⟩
      have f1 := fx'.trans fx1
      cases b with
      | false => exact k.nx a' h1 σ' H1 f1 (rs'.ext fx1.ext) rh1 hq
      | true =>
        refine ⟨fun σ2 H2 => ∃ a2 h2, RS X.K G H2 a2 σ2 ∧ RH X.K G H2 h2 ∧ Fx H h H2 h2 ∧ whlR te tb Z m a2 h2, fun σ2 H2 hN => ⟨m, Nat.lt_succ_self m, hN⟩, a', h1, _, rs'.ext fx1.ext, rh1, hq, ?_⟩
        exact ⟨fun a2 h2 σ2 H2 fx2 rs2 rh2 hz => ⟨a2, h2, rs2, rh2, f1.trans fx2, hz⟩, fun d h2 v H2 fx2 => k.rt d h2 v H2 (f1.trans fx2), fun a2 h2 σ2 H2 fx2 rs2 rh2 hz => k.nx a2 h2 σ2 H2 (f1.trans fx2) rs2 rh2 hz,
          fun a2 h2 σ2 H2 fx2 rs2 rh2 hz => ⟨a2, h2, rs2, rh2, f1.trans fx2, hz⟩, fun c' a2 h2 σ2 H2 fx2 => k.ex c' a2 h2 σ2 H2 (f1.trans fx2)⟩
theorem s_for (po : PassesOwn (model X.prog X.w) X.A X.env X.xe) (hc : X.calm = true) {tg : Tg} {tx it : Expr} {g : TG} {ti : TID} {l : List Stmt} {tb : TSD} (tok : TgOk X G tg tx g) (hi : PI X tx it (liftP X.K G W ti)) (hb : PSs X l (liftS X.K G W tb)) (hs : (!isSet it) = true) :
    PS X (.For tx it l [] pos) (liftS X.K G W fun D σ h => ti σ h (fun xs g h1 => forR tg tb g D xs σ h1) fun x h' => D.ex x σ h') :=
  PS.imp (ps_for po hc hi tok.pg hb (noSet hs X.env)) fun D σ H ⟨a, h, Z, rs, rh, ht, k⟩ => by
    refine ⟨a, h, _, _, rs, rh, ht, fun xs gd h1 J H1 fx1 rh1 wk hq => ?_, k.cx rs⟩
    refine ⟨fun i m σ' H' => m = xs.length - i ∧ i ≤ xs.length ∧ ∃ a' h', RS X.K G H' a' σ' ∧ RH X.K G H' h' ∧ Fx H1 h1 H' h' ∧ gdsOk h' gd ∧ forR tg tb gd Z (xs.drop i) a' h',
      ⟨xs.length, by simp, Nat.zero_le _, a, h1, rs.ext fx1.ext, rh1, Fx.refl, wk.ok, hq⟩, fun i m σ' H' ⟨em, hi, a', h', rs', rh', fx', gd', hw⟩ => ?_⟩
    by_cases hlt : i < xs.length
    · refine .inr ⟨(wk.go i H' h' hlt rh' fx' gd').1, fun σ2 H2 => ∃ m', m' < m ∧ (m' = xs.length - (i + 1) ∧ i + 1 ≤ xs.length ∧ ∃ a' h', RS X.K G H2 a' σ2 ∧ RH X.K G H2 h' ∧ Fx H1 h1 H2 h' ∧ gdsOk h' gd ∧ forR tg tb gd Z (xs.drop (i + 1)) a' h'),
        fun σ2 H2 hN => hN, fun x H2 hy => ?_⟩
      obtain ⟨d, ed, rd, rh2, fx2⟩ := (wk.go i H' h' hlt rh' fx' gd').2 x H2 hy
      have ex : xs.drop i = d :: xs.drop (i + 1) := by
        rw [List.drop_eq_getElem_cons hlt]
        rw [List.getElem?_eq_getElem hlt] at ed
        cases ed; rfl
      rw [ex] at hw
      have f2 := fx'.trans fx2
      have ff := fx1.trans f2
      refine tok.run d x a' σ' H2 _ _ _ rd (rs'.ext fx2.ext) rh2 hw fun a2 σ2 rs2 _ hb2 => ⟨a2, h', _, rs2, rh2, hb2, ?_⟩
      have next : ∀ a3 h3 σ3 H3, Fx H2 h' H3 h3 → RS X.K G H3 a3 σ3 → RH X.K G H3 h3 → (gdsOk h3 gd ∧ forR tg tb gd Z (xs.drop (i + 1)) a3 h3) →
          ∃ m', m' < m ∧ (m' = xs.length - (i + 1) ∧ i + 1 ≤ xs.length ∧ ∃ a' h', RS X.K G H3 a' σ3 ∧ RH X.K G H3 h' ∧ Fx H1 h1 H3 h' ∧ gdsOk h' gd ∧ forR tg tb gd Z (xs.drop (i + 1)) a' h') :=
        fun a3 h3 σ3 H3 fx3 rs3 rh3 ⟨g3, hz⟩ => ⟨xs.length - (i + 1), by omega, rfl, hlt, a3, h3, rs3, rh3, f2.trans fx3, g3, hz⟩
      exact ⟨next, fun d h3 v H3 fx3 => k.rt d h3 v H3 (ff.trans fx3), fun a3 h3 σ3 H3 fx3 rs3 rh3 hz => k.nx a3 h3 σ3 H3 (ff.trans fx3) rs3 rh3 hz, next, fun c' a3 h3 σ3 H3 fx3 => k.ex c' a3 h3 σ3 H3 (ff.trans fx3)⟩
    · have e : i = xs.length := by omega
      subst e
      rw [List.drop_length] at hw
      exact .inl ⟨wk.stop _ H' h' (Nat.le_refl _) rh' fx' gd', k.nx a' h' σ' H' (fx1.trans fx') rs' rh' hw⟩
theorem s_raise (co : Co X G W C c sc n) {x m : Str} {g j : Nat} {p p1 p2 : Pos} (h1 : gloB sc x = true) (h2 : (!odd x) = true) (h3 : c.cls.lookup x = some g) :
    PS X (.Raise (some (.Call (.Name x p) [.Constant (.str m) j p2] [] p1)) none pos) (liftS X.K G W fun D σ h => D.ex g σ h) := by
  obtain ⟨mg, E⟩ := co.gf.cls x g h3
  exact PS.imp (ps_raise co.calm co.tk (pmk_own PySem.F.excBase_ValueError E.ex mg E.kp (raises_own E.sub E.ty) (glo_ok co.env h1) (odd_no h2).1)) fun D σ H ⟨a, h, Z, rs, rh, ht, k⟩ => k.ex g a h σ H Fx.refl rs rh ht
end
end Nd
/-! Nd12: the soundness of the small syntax. -/
namespace Nd
open PySem PySem.Spec PyProof.Rows L2
section
variable {X : Cx} {G : Nat → Addr} {W : WX} {C : Ca} {c : Cf} {sc : Scope} {n : Nat}
/-! ### dict displays -/
theorem chkK_cons {k : Key} {ks : List Key} {o : Option Expr} {keys : List (Option Expr)} (h : chkKs (k :: ks) (o :: keys) = true) : (∃ e, o = some e ∧ PE X e (tC (kV k)) ∧ PyData.canLay0 .none = true) ∧ chkKs ks keys = true := by
  cases k with
  | inl i =>
    cases o with
    | none => cases h
    | some e => cases e with
      | Constant v j p => cases v with
        | int z =>
          have h' := Bool.and_eq_true_iff.mp (show (decide (i = z) && chkKs ks keys) = true from h)
          have e := of_decide_eq_true h'.1
          subst e
          exact ⟨⟨_, rfl, pe_int, rfl⟩, h'.2⟩
        | _ => cases h
      | _ => cases h
  | inr s =>
    cases o with
    | none => cases h
    | some e => cases e with
      | Constant v j p => cases v with
        | str z =>
          have h' := Bool.and_eq_true_iff.mp (show (decide (s = z) && chkKs ks keys) = true from h)
          have e := of_decide_eq_true h'.1
          subst e
          exact ⟨⟨_, rfl, pe_str, rfl⟩, h'.2⟩
        | _ => cases h
      | _ => cases h
theorem pp_nil (pos : Pos) (ks : List Key) (keys : List (Option Expr)) (h : chkKs ks keys = true) (l : ks.length = 0) : ∃ trs, PPs X pos keys [] trs ∧ ∀ σ H Q, liftA X.K G W (fun _ h q _ => q [] h) σ H (fun vs H' => Q ((ks.map kV).zip vs) H') → tPairs trs σ H Q := by
  cases ks with
  | cons _ _ => cases l
  | nil => cases keys with
    | cons o _ => cases o <;> cases h
    | nil => exact ⟨[], pps_nil, fun σ H Q ⟨a, hh, q, r, rs, rh, ht, k, kx⟩ => k [] hh [] H Fx.refl .nil rh ht⟩
theorem pp_cons {e : Expr} {l : List Expr} {te : TED} {t : TAD} (he : PE X e (lift X.K G W te)) (ih : ∀ (pos : Pos) (ks : List Key) (keys : List (Option Expr)), chkKs ks keys = true → ks.length = l.length → ∃ trs, PPs X pos keys l trs ∧ ∀ σ H Q, liftA X.K G W t σ H (fun vs H' => Q ((ks.map kV).zip vs) H') → tPairs trs σ H Q)
    (pos : Pos) (ks : List Key) (keys : List (Option Expr)) (h : chkKs ks keys = true) (hl : ks.length = l.length + 1) :
    ∃ trs, PPs X pos keys (e :: l) trs ∧ ∀ σ H Q, liftA X.K G W (fun σ h q x => te σ h (fun d h1 => t σ h1 (fun ds h2 => q (d :: ds) h2) x) x) σ H (fun vs H' => Q ((ks.map kV).zip vs) H') → tPairs trs σ H Q := by
  cases ks with
  | nil => cases hl
  | cons k ks => cases keys with
    | nil => cases k <;> cases h
    | cons o keys =>
      obtain ⟨⟨ke, rfl, pk, _⟩, h2⟩ := chkK_cons (X := X) h
      obtain ⟨trs, p1, p2⟩ := ih pos ks keys h2 (by simpa using hl)
      refine ⟨_, pps_cons pk he p1, fun σ H Q ⟨a, hh, q, r, rs, rh, ht, kk, kx⟩ => ?_⟩
      refine ⟨a, hh, _, r, rs, rh, ht, fun d h1 v1 H1 fx1 rd1 rh1 hq1 => p2 σ H1 _ ⟨a, h1, _, r, rs.ext fx1.ext, rh1, hq1, fun ds h2 vs H2 fx2 rd2 rh2 hq2 => ?_, kx.ext fx1⟩, kx⟩
      exact kk (d :: ds) h2 (v1 :: vs) H2 (fx1.trans fx2) (.cons (rd1.ext fx2.ext) rd2) rh2 hq2
theorem putK_new {kvs : List (Key × V)} {k : Key} {v : V} (h : k ∉ kvs.map (·.1)) : putK kvs k v = kvs ++ [(k, v)] := by
  unfold putK
  rw [if_neg]
  intro z
  rw [List.any_eq_true] at z
  obtain ⟨x, hx, e⟩ := z
  exact h (List.mem_map.mpr ⟨x, hx, of_decide_eq_true e⟩)
theorem merge_nd : ∀ (m kvs : List (Key × V)), ((kvs ++ m).map (·.1)).Nodup → mergeK kvs m = kvs ++ m
  | [], kvs, _ => by simp [mergeK]
  | (k, v) :: m, kvs, h => by
    show mergeK (putK kvs k v) m = _
    have hk : k ∉ kvs.map (·.1) := by
      rw [List.map_append, List.map_cons] at h
      exact fun z => (List.nodup_append.mp h).2.2 _ z _ List.mem_cons_self rfl
    rw [putK_new hk, merge_nd m _ (by rw [List.append_assoc]; exact h), List.append_assoc]; rfl
theorem zip_kv : ∀ (ks : List Key) (vs : List V), (ks.map kV).zip vs = (ks.zip vs).map fun kv => (kV kv.1, kv.2)
  | [], _ => by simp
  | _ :: _, [] => by simp
  | k :: ks, v :: vs => by simp [zip_kv ks vs]
theorem zip_fst {β : Type} : ∀ (ks : List Key) (vs : List β), ks.length = vs.length → (ks.zip vs).map (·.1) = ks
  | [], [], _ => rfl
  | [], _ :: _, h => by cases h
  | _ :: _, [], h => by cases h
  | k :: ks, v :: vs, h => by
    rw [List.zip_cons_cons, List.map_cons, zip_fst ks vs (by simpa using h)]
theorem zip_rk {K : PySem.W.Frag} {H : Hp} : ∀ (ks : List Key) {ds : List D} {vs : List V}, RDs K G H ds vs → RK K G H (ks.zip ds) (ks.zip vs)
  | [], _, _, _ => by simp only [List.zip_nil_left]; exact .nil
  | _ :: _, _, _, .nil => by simp only [List.zip_nil_right]; exact .nil
  | k :: ks, _, _, .cons h t => by
    rw [List.zip_cons_cons, List.zip_cons_cons]
    exact .cons ⟨rfl, h⟩ (zip_rk ks t)
theorem p_dic {ks : List Key} {keys : List (Option Expr)} {l : List Expr} {d : Dns} {pos : Pos} (hd : SndS X G W d l) (h1 : chkKs ks keys = true) (h2 : keys.length = l.length) (h3 : keys.length ≤ 15) (h4 : ks.Nodup) (h0 : keys ≠ []) :
    PE X (.Dict keys l pos) (lift X.K G W fun σ h q r => d.a σ h (fun ds h' => ks.length = ds.length ∧ ∀ p, h' p = none → q (.ref p) (hup h' p (.dic (ks.zip ds)))) r) := by
  have hlen : ∀ (ks : List Key) (keys : List (Option Expr)), chkKs ks keys = true → ks.length = keys.length ∧ keys.all (·.isSome) = true := by
    intro ks
    induction ks with
    | nil => intro keys h; cases keys with
      | nil => exact ⟨rfl, rfl⟩
      | cons o _ => cases o <;> cases h
    | cons k ks ih => intro keys h; cases keys with
      | nil => cases k <;> cases h
      | cons o keys =>
        obtain ⟨⟨e, rfl, _, _⟩, h2⟩ := chkK_cons (X := X) h
        obtain ⟨a, b⟩ := ih keys h2
        exact ⟨by simp [a], by simp [b]⟩
  obtain ⟨e1, e2⟩ := hlen ks keys h1
  obtain ⟨trs, p1, p2⟩ := hd.pp pos ks keys h1 (e1.trans h2)
  refine PE.imp (pe_disp p1 e2 h2 h0 h3) fun σ H Q ⟨a, h, q, r, rs, rh, ht, k, kx⟩ p np => ?_
  refine p2 σ _ _ ⟨a, h, _, r, rs.ext (Ext.new np), rh.hid np, ht, fun ds h1 vs H1 fx1 rd1 rh1 ⟨el, hq1⟩ => ?_, kx.ext (Fx.new np)⟩
  have np1 : h1 p = none := fx1.nw p (by rw [upd_same]; exact fun z => nomatch z) (rh.none_of np)
  have e5 : H1 p = some (.dK []) := fx1.st p _ upd_same (.inl (rh.none_of np))
  have lv : ks.length = vs.length := el.trans rd1.len
  have md : mergeK [] (ks.zip vs) = ks.zip vs := by
    rw [merge_nd _ _ (by rw [List.nil_append, zip_fst ks vs lv]; exact h4), List.nil_append]
  have lz : (ks.zip vs).length = ks.length := by rw [List.length_zip, ← lv, Nat.min_self]
  have lz2 : (ks.zip ds).length = ks.length := by rw [List.length_zip, ← el, Nat.min_self]
  refine ⟨e5, ks.zip vs, zip_kv ks vs, by rw [lz, e1]; exact h3, ?_⟩
  rw [md]
  have f : Fx H h (upd H1 p (.dK (ks.zip vs))) h1 := ((Fx.new np).trans fx1).hidw np
  refine k (.ref p) _ (.ref p) _ (fx_tell f np) (.ref p) (rh_tell (m := .dic (ks.zip ds)) (rh1.hidw e5 (fun z => z) np1) ⟨_, upd_same, by rw [lz2, e1, sizeLine_eq]; omega, (zip_rk ks rd1).ext (Ext.wr e5 (fun z => z))⟩) (hq1 p np1)
theorem p_dic0 {pos : Pos} : PE X (.Dict [] [] pos) (lift X.K G W fun _ h q _ => ([] : List Key).length = ([] : List D).length ∧ ∀ p, h p = none → q (.ref p) (hup h p (.dic (([] : List Key).zip ([] : List D))))) :=
  PE.imp pe_dnewK fun σ H Q ⟨a, h, q, r, rs, rh, ht, k, kx⟩ p np =>
    k (.ref p) _ (.ref p) _ (Fx.newM np) (.ref p) (rh.new (m := .dic []) np ⟨[], upd_same, Nat.zero_le _, .nil⟩) (ht.2 p (rh.none_of np))
/-! ### stores -/
theorem put_rk {K : PySem.W.Frag} {H : Hp} {kvs : List (Key × D)} {vs : List (Key × V)} {d : D} {v : V} (r : RK K G H kvs vs) (k : Key) (q : RD K G H d v) : RK K G H (putD kvs k d) (putK vs k v) := by
  have any : (kvs.any fun kv => decide (kv.1 = k)) = vs.any fun kv => decide (kv.1 = k) := by
    induction r with
    | nil => rfl
    | cons h t ih => rw [List.any_cons, List.any_cons, h.1, ih]
  have mp : RK K G H (kvs.map fun kv => if kv.1 = k then (kv.1, d) else kv) (vs.map fun kv => if kv.1 = k then (kv.1, v) else kv) := by
    clear any
    induction r with
    | nil => exact .nil
    | @cons x y l1 l2 h t ih =>
      rw [List.map_cons, List.map_cons]
      refine .cons ?_ ih
      by_cases e : x.1 = k
      · rw [if_pos e, if_pos (h.1 ▸ e)]; exact ⟨h.1, q⟩
      · rw [if_neg e, if_neg (fun z => e (h.1.trans z))]; exact h
  unfold putD putK
  rw [← any]
  split
  · exact mp
  · exact Paired.snoc r ⟨rfl, q⟩
theorem putD_len (kvs : List (Key × D)) (k : Key) (d : D) : (putD kvs k d).length ≤ kvs.length + 1 := by
  unfold putD
  split
  · rw [List.length_map]; omega
  · rw [List.length_append]; exact Nat.le_refl _
theorem s_setItem (hu : X.A.units + 1 < cLine) : PSet X (fun o i v H Q => ∃ x y d h q, RD X.K G H x o ∧ RD X.K G H y i ∧ RD X.K G H d v ∧ RH X.K G H h ∧ setV x y d h q ∧ ∀ h' H', Fx H h H' h' → RH X.K G H' h' → q h' → Q H') := by
  intro pins s σ H o i v ov iv u Q I ro ri rv ⟨x, y, d, h, q, rx, ry, rd, rh, hr, k⟩
  unfold setV at hr
  split at hr
  · rename_i a
    cases rx
    split at hr
    · rename_i kvs e
      split at hr
      · rename_i kk ek
        obtain ⟨vs, h1, h2, h3⟩ := rh a _ e
        have ev := key_of ry ek
        subst ev
        obtain rfl : ov = Value.ref a := ro
        have lv : kvs.length = vs.length := Paired.length h3
        exact d_setItem hu I (DPut.k (k := kk) h1 (by rw [← lv]; exact hr.1)) ri rv fun s' I' => ⟨_, I', k _ _ (Fx.wr e h1 fun z => z) (rh.wr (m := .dic (putD kvs kk d)) h1 (fun z => z) ⟨_, upd_same, Nat.le_trans (putD_len _ _ _) hr.1, (put_rk h3 kk rd).ext (Ext.wr h1 fun z => z)⟩) hr.2⟩
      · exact hr.elim
    · rename_i xs e
      split at hr
      · rename_i z
        split at hr
        · rename_i j ej
          obtain ⟨vs, h1, h2, h3⟩ := rh a _ e
          cases ry
          exact set_list pins s σ H _ _ v ov iv u Q I ro ri rv ⟨a, vs, z, j, rfl, rfl, h1, by rw [← h3.len]; exact ej, k _ _ (Fx.wr e h1 fun z => z) (rh.wrL h1 (fun z => z) (by rw [List.length_set]; exact h2) (h3.set j rd)) hr⟩
        · exact hr.elim
      · exact hr.elim
    · exact hr.elim
  · exact hr.elim
theorem s_setS (hu : X.A.units + 1 < cLine) {o i e : Expr} {to ti te : TED} {p2 pos : Pos} (hsl : (!isSlice i) = true) (he : PE X e (lift X.K G W te)) (ho : PE X o (lift X.K G W to)) (hi : PE X i (lift X.K G W ti)) :
    PS X (.Assign [.Subscript o i p2] e pos) (liftS X.K G W fun D σ h => te σ h (fun d h1 => to σ h1 (fun x h2 => ti σ h2 (fun y h3 => setV x y d h3 fun h4 => D.nx σ h4) fun x h' => D.ex x σ h') fun x h' => D.ex x σ h') fun x h' => D.ex x σ h') := by
  have hs : swapsWithSole [.Subscript o i p2] e pos.line X.env = pure false := by
    unfold swapsWithSole
    cases e <;> rfl
  refine PS.imp (ps_asg he (pg_sub ho hi (s_setItem hu) (by cases i <;> first | (intro v; rfl) | cases hsl)) hs (by cases e <;> rfl) rfl) fun D σ H ⟨a, h, Z, rs, rh, ht, k⟩ =>
    ⟨a, h, _, _, rs, rh, ht, fun d h1 v H1 fx1 rd1 rh1 hq1 => ⟨a, h1, _, _, rs.ext fx1.ext, rh1, hq1, fun x h2 v2 H2 fx2 rd2 rh2 hq2 => ⟨a, h2, _, _, rs.ext (fx1.trans fx2).ext, rh2, hq2, fun y h3 v3 H3 fx3 rd3 rh3 hq3 =>
      ⟨x, y, d, h3, _, rd2.ext fx3.ext, rd3, rd1.ext (fx2.trans fx3).ext, rh3, hq3, fun h4 H4 fx4 rh4 hz => k.nx a h4 σ H4 (fx1.trans (fx2.trans (fx3.trans fx4))) (rs.ext (fx1.trans (fx2.trans (fx3.trans fx4))).ext) rh4 hz⟩,
      (k.ext (fx1.trans fx2)).cx (rs.ext (fx1.trans fx2).ext)⟩, (k.ext fx1).cx (rs.ext fx1.ext)⟩, k.cx rs⟩
/-- x op= e -/
theorem s_iaug (op : Operator) : PIp X op (fun x y H Q => lop X.K G (augV op) x y H Q) := by
  intro pins s σ H x y v u Q I rx ry ⟨d, e, h, q, hd, he, hh, hr, k⟩
  unfold augV at hr
  split at hr
  · cases hd with
    | int => cases he with
      | int j => exact iop_add pins s σ H _ _ v u Q I rx ry ⟨_, j, rfl, rfl, k _ _ _ _ Fx.refl (.int _) hh hr⟩
      | _ => exact False.elim hr
  · cases hd with
    | str _ g => cases he with
      | str y g' => exact iop_add_str pins s σ H _ _ v u Q I rx ry ⟨_, y, rfl, rfl, hr.1, k _ _ _ _ Fx.refl (.str _ (strG_app g g' hr.1)) hh hr.2⟩
      | _ => exact False.elim hr
  · cases hd with
    | int i => cases he with
      | int j => exact iop_sub pins s σ H _ _ v u Q I rx ry ⟨i, j, rfl, rfl, k _ _ _ _ Fx.refl (.int _) hh hr⟩
      | _ => exact False.elim hr
    | _ => exact False.elim hr
  · exact hr.elim
theorem s_aug (co : Co X G W C c sc n) {i : Nat} {y : Str} {py pos : Pos} {op : Operator} {e : Expr} {te : TED} (h1 : c.N[i]? = some y) (h2 : locB sc y = true) (he : PE X e (lift X.K G W te)) :
    PS X (.AugAssign (.Name y py) op e pos) (liftS X.K G W fun D σ h => match (σ[i]?).join with
      | some d => te σ h (fun x h1 => augV op d x h1 fun y h2 => D.nx (σ.set i (some y)) h2) fun x h' => D.ex x σ h'
      | none => False) := by
  obtain ⟨l1, l2⟩ := loc_ok co.env h2
  refine PS.imp (ps_aug (i := i) co.nd (by rw [co.hN]; exact h1) l1 he (s_iaug (G := G) op) l2) fun D σ H ⟨a, h, Z, rs, rh, ht, k⟩ => ?_
  dsimp only at ht
  cases ea : a[i]? with
  | none => rw [ea] at ht; exact ht.elim
  | some o =>
    rw [ea] at ht
    cases o with
    | none => exact ht.elim
    | some d =>
      obtain ⟨v, e1, e2⟩ := rs.get ea
      exact ⟨v, e1, a, h, _, _, rs, rh, ht, fun x h1 v1 H1 fx1 rd1 rh1 hq1 => ⟨d, x, h1, _, e2.ext fx1.ext, rd1, rh1, hq1, fun z h2 v2 H2 fx2 rd2 rh2 hq2 =>
        k.nx _ h2 _ H2 (fx1.trans fx2) ((rs.ext (fx1.trans fx2).ext).set i rd2) rh2 hq2⟩, k.cx rs⟩
end
end Nd
/-! Ne1: try, an error caught by name and kept. -/
namespace Nd
open PySem PySem.Spec PyProof.Rows L2
section
variable {X : Cx} {pins : List (Addr × Obj)} {σ : L2.St} {H : Hp} {s : Shared}
/-- an error of ours is tracked from here on -/
theorem track {a : Addr} {oe : Obj} {vs : Array Value} {cls : Value} (I : L2.Inv X pins σ H s) (ha : s.heap.get? a = some oe) (hz : Zc cls none oe) (hd : oe.data = .fields vs) (na : H a = none) (n0 : X.s_0.heap.get? a = none)
    (np : ∀ p ∈ X.pn ++ pins, p.1 ≠ a) (nL : a ≠ X.env.locals) : L2.Inv X pins σ (upd H a (ExC cls a)) s := by
  have keep : ∀ {b : Addr} {o : HO}, H b = some o → upd H a (ExC cls a) b = some o := fun {b o} e => by rw [upd_ne (ne_of_none e na)]; exact e
  have new : ObjOk X.prog X.w (upd H a (ExC cls a)) s.heap a (ExC cls a) :=
    ⟨⟨oe, vs, ha, hz, hd⟩, ⟨oe, ha⟩, fun g g' ⟨o, v, q, r⟩ k => ⟨o, v, k o q, r⟩⟩
  refine { ok := I.ok, os := I.os, bare := I.bare, base := ?_, loc := I.loc, cell := I.cell, free := ?_, freeC := ?_, pin := ?_, hok := ?_, len := I.len }
  · exact { keep := I.base.keep, slot := I.base.slot, there := I.base.there
            free := fun b o e n hx => by rw [upd_ne (fun z => by rw [z, n0] at e; cases e)]; exact I.base.free b o e n hx
            tups := fun b xs e => keep (I.base.tups b xs e)
            frzs := fun b o u e => keep (I.base.frzs b o u e)
            tbls := fun b ps e => by obtain ⟨m, z⟩ := I.base.tbls b ps e; exact ⟨m, keep z⟩ }
  · rw [upd_ne (Ne.symm nL)]
    exact I.free
  · intro x c e
    have ne : c ≠ a := fun z => by
      obtain ⟨v, o, ho, hc⟩ := I.cell x c e
      rw [z, ha] at ho
      cases ho
      rw [hd] at hc
      cases hc
    rw [upd_ne ne]
    exact I.freeC x c e
  · intro p hp
    obtain ⟨p1, p2, p3⟩ := I.pin p hp
    refine ⟨p1, ?_, p3⟩
    rw [upd_ne (np p hp)]
    exact p2
  · intro b u e
    by_cases hb : b = a
    · subst hb
      rw [upd_same] at e
      cases e
      exact new
    · rw [upd_ne hb] at e
      exact (I.hok b u e).stay (fun _ _ _ q => q) (fun c q => keep q) fun c xs q => keep q
/-- what a kept error is -/
def wT (K : PySem.W.Frag) (c : Value) (i j : Nat) (Wout : WX) (D : Ends) : WX := fun cls d σ H =>
  ∃ b, PySem.W.exmOne K cls c = some b ∧ (b = true → d = none ∧ ∀ a, H a = none → D.nx ((σ.set j (some (.ref a))).set i none) (upd H a (ExC cls a))) ∧ (b = false → Wout cls d σ H)
theorem p_try {x n y : Str} {c : Value} {i j : Nat} {body : List Stmt} {np ap yp p2 pos pos' : Pos} {tb : WX → TS} {Wout : WX} (hs : X.stack = X.env :: X.outer) (hf : X.env.frame = some X.env.locals) (hex : X.ex = []) (hN : X.N.Nodup) (hi : X.N[i]? = some n) (hln : X.env.kindOf n = some .local)
    (hj : X.N[j]? = some y) (hlj : Loc X.env.scope y) (hfj : X.fn y = true ∨ X.env.scope.names.lookup y = some .local) (hij : i ≠ j) (hnd : (n == ("__debug__" : Str)) = false) (hnc : (n == ("__classdict__" : Str)) = false) (hc : Names X x c) (tk : Takes X Wout)
    (hb : ∀ (W : WX) (pn : List (Addr × Obj)) (xe : Value → Shared → Prop), Takes (X.tr pn xe) W → PassesOwn (model X.prog X.w) X.A X.env xe → PSs (X.tr pn xe) body (tb W)) :
    PS X (.Try body [.ExceptHandler (some (.Name x np)) (some n) [.Assign [.Name y yp] (.Name n ap) p2] pos'] [] [] pos) (fun D σ H => tb (wT X.K c i j Wout D) D σ H) := by
  refine ⟨fun pins s σ H D I h => ?_⟩
  have ok := I.ok
  have hfr : X.A.frames = some (X.env :: X.outer) := by rw [ok.frames, hs]
  let xeT : Value → Shared → Prop := fun e s₁ => wpAny (model X.prog X.w) X.A (noteFrame e X.env) (fun _ s₂ => wpAny (model X.prog X.w) X.A (setFlight e none) (fun _ s₃ =>
    wpAny (model X.prog X.w) X.A (handleBy e X.env [.ExceptHandler (some (.Name x np)) (some n) [.Assign [.Name y yp] (.Name n ap) p2] pos']) (SP X pins D) X.xe s₃) X.xe s₂) X.xe s₁
  have tkT : Takes (X.tr (X.pn ++ pins) xeT) (wT X.K c i j Wout D) := by
    rintro u s' ⟨a, B, sI, pins', σ', H', cls, d, rfl, J', nb, up, sky, na, os, ag, b, hb1, hyes, hno⟩
    have J : L2.Inv X pins σ' H' sI := J'.ofTry ok
    have sk : Sky B (X.env :: X.outer) a (Zc cls d) X.env.locals s'.heap := by rw [← hs]; exact sky
    have Ba : B.get? a = none := by
      rcases sk with ⟨_, z, _⟩ | ⟨_, z, _⟩ | ⟨_, z, _⟩ <;> exact z
    show wpAny (model X.prog X.w) X.A (noteFrame (.ref a) X.env) _ _ _
    refine Sky.land Zc.steady hfr hf sk fun g1 fl1 up1 => ?_
    have J1 : L2.Inv X pins σ' H' { s' with heap := g1 } := J.landed nb fl1.1 (up.trans up1) os ag
    obtain ⟨o1, v1, ho1, hz1, hd1⟩ := fl1.there
    have away : a ∉ frs (X.env :: X.outer) := fun hm => by
      obtain ⟨_, o', e', hnf⟩ := fl1.2.2.1.mem hm
      rw [ho1] at e'
      cases e'
      exact hnf _ hd1
    have nL : a ≠ X.env.locals := fun z => away (List.mem_filterMap.mpr ⟨X.env, List.mem_cons_self, by rw [hf, z]⟩)
    have nF : a ∉ X.fs := fun hm => by
      obtain ⟨e, he, q⟩ := List.mem_filterMap.mp hm
      exact away (List.mem_filterMap.mpr ⟨e, List.mem_cons_of_mem _ he, q⟩)
    have nI : sI.heap.get? a = none := by
      cases q : sI.heap.get? a with
      | none => rfl
      | some o =>
        have z := nb a o q (by show a ∉ frs X.stack; rw [hs]; exact away)
        rw [Ba] at z
        cases z
    have n0 : X.s_0.heap.get? a = none := by
      cases q : X.s_0.heap.get? a with
      | none => rfl
      | some o =>
        obtain ⟨o', z⟩ := J.base.there a o q (by rw [hex]; exact fun z => nomatch z)
        rw [nI] at z
        cases z
    have npn : ∀ p ∈ X.pn ++ pins, p.1 ≠ a := fun p hp e => by
      have z := (J.pin p hp).1
      rw [e, nI] at z
      cases z
    have S1 := J1.suite ho1 hd1 na nL nF
    refine wpAny_handleBy_cons (codeAny_handlers_test ?_) (by intro q; cases q)
    have LT : PySem.W.Looks (model X.prog X.w) g1 (typeOf (.ref a)) cls := fun A Q E s k q => wpAny_typeOf_ref (k _ _ ho1) (by rw [hz1.1]; exact q)
    have LM := PySem.W.exm_one (M := model X.prog X.w) (J1.kIn) LT hb1
    have look : ∀ {Q : Value → Shared → Prop} {E : Value → Shared → Prop}, Q c { s' with heap := g1 } → wpAny (model X.prog X.w) (X.A.mark (some (.ref a))) (eval (.Name x np) X.env) Q E { s' with heap := g1 } := fun {Q E} q => by
      obtain ⟨hg, hdb, hm | ⟨hm, hv, hnn⟩⟩ := hc
      · exact ld_glob (X := X.suite a ((a, o1) :: (X.pn ++ pins))) S1 hg hm q hdb
      · exact ld_blt (X := X.suite a ((a, o1) :: (X.pn ++ pins))) S1 hg hm hv q hnn hdb
    refine look (LM.here ?_)
    cases b with
    | true =>
      obtain ⟨rfl, hyes2⟩ := hyes rfl
      refine codeAny_handlers_suite_as ?_
      refine HandSPX.lands_againZ fl1 fun g2 fl2 up2 => ?_
      have J2 : L2.Inv X pins σ' H' { s' with heap := g2 } := J.landed nb fl2.1 ((up.trans up1).trans up2) os ag
      obtain ⟨o2, v2, ho2, hz2, hd2⟩ := fl2.there
      have S2 := J2.suite ho2 hd2 na nL nF
      have hi' : (X.suite a ((a, o2) :: (X.pn ++ pins))).N[i]? = some n := hi
      refine store_ok (X := X.suite a ((a, o2) :: (X.pn ++ pins))) (v := .ref a) S2 hN hi (.inl hln) rfl (fun s5 S5 => ?_) (.inr hln)
      have step : PSs (X.suite a ((a, o2) :: (X.pn ++ pins))) [.Assign [.Name y yp] (.Name n ap) p2] _ := pss_one (ps_set (i := j) hN hj hlj (pe_var (i := i) hi (.inl hln) hnd hnc) rfl hfj)
      have li : i < σ'.length := by rw [J2.len]; exact (List.getElem?_eq_some_iff.mp hi).1
      refine wpAny_mono (step.run [] s5 _ H' { nx := fun σ6 H6 => σ6 = (σ'.set i (some (.ref a))).set j (some (.ref a)) ∧ H6 = H', rt := fun _ _ => False } S5 ⟨.ref a, by rw [List.getElem?_set_self li], rfl, rfl⟩) (fun f s6 hsp => ?_) (fun _ _ z => False.elim z)
      cases f with
      | next =>
        obtain ⟨σ6, H6, S6, rfl, rfl⟩ := hsp
        have q6 := (S6.pin (a, o2) (List.mem_append_left _ List.mem_cons_self)).1
        have J6 : L2.Inv X pins _ H6 s6 := S6.unsuite ok
        have J7 := track J6 q6 hz2 hd2 na n0 npn nL
        refine gone_ok J7 hN hi hln fun s7 I7 => ⟨_, _, I7, ?_⟩
        have e : (((σ'.set i (some (V.ref a))).set j (some (V.ref a))).set i none) = (σ'.set j (some (V.ref a))).set i none := by
          rw [List.set_comm _ _ hij, List.set_set]
        rw [e]
        exact hyes2 a na
      | brk =>
        obtain ⟨_, _, _, z⟩ := hsp
        exact z.elim
      | cont =>
        obtain ⟨_, _, _, z⟩ := hsp
        exact z.elim
      | ret u =>
        obtain ⟨_, _, _, _, _, z⟩ := hsp
        exact z.elim
    | false =>
      show wpAny _ X.A (handleBy (.ref a) X.env []) _ _ _
      refine wpAny_handleBy_nil ?_
      obtain ⟨m1, m2, m3, ob, fv, tb', oT, us', e1, e2, e3, e4, e5⟩ := id fl1
      unfold PySem.passOn
      refine wpAny_bind (wpAny_field e1 e3 e4 ?_)
      rw [if_neg (by simp)]
      have go : wpAny (model X.prog X.w) X.A (setFlight (.ref a) X.env.frame) (fun _ s4 => wpAny (model X.prog X.w) X.A (throw (.ref a) : Sem Flow) (SP X pins D) X.xe s4) X.xe { s' with heap := g1 } := by
        rw [hf]
        refine HandSPX.setFlight_upZ fl1 fun g4 fl4 up4 => wpAny_throw (tk _ _ ⟨a, B, sI, pins, σ', H', cls, d, rfl, J, nb, (up.trans up1).trans up4, .inr (.inr ?_), na, os, ag, hno rfl⟩)
        rw [hs]
        exact fl4
      first
        | exact wpAny_bind go
        | exact wpAny_bind (wpAny_pure (wpAny_bind go))
  refine wpAny_Try_except (wpAny_mono ((hb (wT X.K c i j Wout D) (X.pn ++ pins) xeT tkT PassesOwn.looking).run [] s σ H D (I.toTry _) h) (fun f s1 hsp => ?_) fun e s1 he => he)
  cases f with
  | next =>
    obtain ⟨σ1, H1, J1, q⟩ := hsp
    exact wpAny_execs_nil ⟨σ1, H1, J1.ofTry ok, q⟩
  | brk =>
    obtain ⟨σ1, H1, J1, q⟩ := hsp
    exact ⟨σ1, H1, J1.ofTry ok, q⟩
  | cont =>
    obtain ⟨σ1, H1, J1, q⟩ := hsp
    exact ⟨σ1, H1, J1.ofTry ok, q⟩
  | ret u =>
    obtain ⟨v1, σ1, H1, J1, r1, q⟩ := hsp
    exact ⟨v1, σ1, H1, J1.ofTry ok, r1, q⟩
end
end Nd
/-! Ne2: more of lists, of three numbers. -/
namespace Nd
open PySem PySem.Spec PyProof.Rows L2
section
variable {X : Cx} {G : Nat → Addr} {W : WX} {C : Ca} {c : Cf} {sc : Scope} {n : Nat}
theorem vals_cons' {v : V} {vs : List V} {us : List Value} (r : Vals (v :: vs) us) : ∃ u ws, us = u :: ws ∧ RelV v u ∧ Vals vs ws := by
  cases r with
  | cons a r => exact ⟨_, _, rfl, a, r⟩
theorem c_max3 (hc : X.calm = true) : CallR X (.builtin "max") (lcall X.K G fun ds h q => biV C.exm .max3 ds h q) := by
  intro pins s σ H xs us Q I r ⟨ds, h, q, rd, rh, hr, k⟩
  match ds, rd, hr with
  | [.int i, .int j, .int m], rd, hr =>
    cases rd with
    | cons r1 rd2 =>
      obtain ⟨v, w, rfl, r2, r3⟩ := rds2 rd2
      cases r1
      cases r2
      cases r3
      obtain ⟨u1, us2, rfl, ⟨t1, rfl⟩, rr⟩ := vals_cons' r
      obtain ⟨u2, u3, rfl, ⟨t2, rfl⟩, ⟨t3, rfl⟩⟩ := vals2 rr
      refine max_three_ints (I.ok.hd hc) fun h' tk hk => ?_
      have I2 : L2.Inv X pins σ H { s with heap := h', toks := tk } := I.kept (t' := tk) hk
      have hq : q (.int (if j > i then (if m > j then m else j) else if m > i then m else i)) h := hr
      refine ⟨.int (if j > i then (if m > j then m else j) else if m > i then m else i), H, I2, ?_, k _ _ _ _ Fx.refl (.int _) rh hq⟩
      split <;> split <;> exact ⟨_, rfl⟩
/-- a method of lists of one argument that changes nothing -/
def lmt (K : PySem.W.Frag) (G : Nat → Addr) (r : D → List D → HD → VQ → Prop) : V → List V → Hp → VK → Prop := fun x xs H Q => ∃ d ds h q, RD K G H d x ∧ RDs K G H ds xs ∧ RH K G H h ∧ r d ds h q ∧ Cont K G H h q Q
theorem m_count (hu : X.A.units + 65 < cLine) : MtR X "list.count" (lmt X.K G fun d ds h q => bmV .count d ds h q) := by
  intro pins s σ H x xs v us Q I rx rxs ⟨d, ds, h, q, rd, rds, rh, hr, k⟩
  match d, ds, rd, rds, hr with
  | .ref a, [y], rd, rds, hr =>
    obtain ⟨w, rfl, ry⟩ := rds1 rds
    cases rd
    obtain ⟨u1, rfl, r1⟩ := vals1 rxs
    cases rx
    unfold bmV at hr
    dsimp only at hr
    split at hr
    · rename_i zs e
      obtain ⟨ps, p, h1, h2, h3, h4, h5, h6, hr⟩ := hr
      obtain ⟨vs, g1, g2, g3⟩ := rh a _ e
      obtain ⟨its, rv, pl, hz⟩ := I.list (.inl (.inl g1))
      have dp := Py.dp rh h2 ry
      have dps := Pys.dp rh h1 g3
      obtain ⟨as, q1⟩ := Dp.reads I p w u1 dp r1
      obtain ⟨bs, q2⟩ := Dp.readsAll I ps vs its dps rv
      refine PySem.SeqAt.count_list_data pl.isList (by simpa using q2) q1 h3 h4 (by omega) ⟨.int _, H, I.tok _, ⟨_, rfl⟩, k _ _ _ _ Fx.refl (.int _) rh hr⟩
    · exact hr.elim
theorem m_index (hu : X.A.units + 65 < cLine) : MtR X "list.index" (lmt X.K G fun d ds h q => bmV .index d ds h q) := by
  intro pins s σ H x xs v us Q I rx rxs ⟨d, ds, h, q, rd, rds, rh, hr, k⟩
  match d, ds, rd, rds, hr with
  | .ref a, [y], rd, rds, hr =>
    obtain ⟨w, rfl, ry⟩ := rds1 rds
    cases rd
    unfold bmV at hr
    dsimp only at hr
    split at hr
    · rename_i zs e
      obtain ⟨ps, p, j, z, h1, h2, h3, h4, h5, h6, h7, hr⟩ := hr
      exact mt_indexD hu pins s σ H _ _ v us Q I rx rxs ⟨a, w, p, ps, j, z, rfl, rfl, Py.dp rh (.lst e h1) (.ref a), Py.dp rh h2 ry, h3, h4, h5, h6, h7, k _ _ _ _ Fx.refl (.int _) rh hr⟩
    · exact hr.elim
theorem p_lm1 {m : BM} {f : Str} {f0 id : String} {o e : Expr} {to te : TED} {apos cpos : Pos} (hpl : PlainAttrs "list") (hsl : Slot "list" (Str.ofString (f0 : String)) id) (hf : f = Str.ofString f0) (hty : typeOf (.builtin id) = pure (.type "method_descriptor")) (hm : MtR X id (lmt X.K G fun d ds h q => bmV m d ds h q)) (hT : ∀ d h, bmT m d h → ∃ a xs, d = .ref a ∧ h a = some (.lst xs))
    (ho : PE X o (lift X.K G W to)) (he : PE X e (lift X.K G W te)) (hb : (!isCall0 o) = true) (hs : (!isStar e) = true) (hl : (apos.endLine == cpos.line) = true) :
    PE X (.Call (.Attribute o f apos) [e] [] cpos) (lift X.K G W fun σ h q x => to σ h (fun d h1 => bmT m d h1 ∧ te σ h1 (fun y h2 => bmV m d [y] h2 q) x) x) :=
  hf ▸ PE.imp (pe_bm hpl hsl hty hm ho (pa_cons he pa_nil (star1 hs _ _)) (base_no hb _ _ _) (few_ok (by show ((!isStar e) && true) = true; rw [hs]; rfl) (by show 1 < 30; decide)) hl (star1 hs _ _) rfl)
    fun σ H Q ⟨a, h, q, x, rs, rh, ht, k, kx⟩ => ⟨a, h, _, x, rs, rh, ht, fun d h1 v1 H1 fx1 rd1 rh1 ⟨hq0, hq1⟩ => by
      obtain ⟨l, xs, rfl, e0⟩ := hT d h1 hq0
      cases rd1
      obtain ⟨vs0, g1, _⟩ := rh1 l _ e0
      exact ⟨.inl ⟨rfl, vs0, .inl (.inl g1)⟩, a, h1, _, x, rs.ext fx1.ext, rh1, hq1, fun y h2 v2 H2 fx2 rd2 rh2 hq2 => ⟨.ref l, [y], h2, q, .ref l, .cons rd2 .nil, rh2, hq2, k.ext (fx1.trans fx2)⟩, kx.ext fx1⟩, kx⟩
end
end Nd
/-! Nf1: zip of three tuples, zip of a text and a tuple. -/
namespace Nd
open PySem PySem.Spec PyProof.Rows L2
/-- three tuples side by side, m turns -/
def Iz3 (K : PySem.W.Frag) (a b c : Addr) (m : Nat) : It :=
  ⟨fun i H => ∃ xs ys zs : List V, SqT K H a xs ∧ SqT K H b ys ∧ SqT K H c zs ∧ min (min xs.length ys.length) zs.length = m ∧ i < m,
   fun i H v H' => ∃ (T : Addr) (x y z : V), v = .ref T ∧ H T = none ∧ H' = upd H T (.tup [x, y, z]) ∧ (∀ xs, SqT K H a xs → xs[i]? = some x) ∧ (∀ ys, SqT K H b ys → ys[i]? = some y) ∧ ∀ zs, SqT K H c zs → zs[i]? = some z,
   fun i H => ∃ xs ys zs : List V, SqT K H a xs ∧ SqT K H b ys ∧ SqT K H c zs ∧ min (min xs.length ys.length) zs.length = m ∧ m ≤ i⟩
section
variable {P : Program} {w : World} {K : PySem.W.Frag} {el : List Expr} {kk : Nat} {tp : Pos}
theorem tupIt_obj {h : Heap} {i t : Addr} {n : Nat} (st : h.IsTupleIter i t n) : ∃ o, h.get? i = some o ∧ ∀ v, o.data ≠ .cell v := by
  obtain ⟨o, e, _, d⟩ := st
  exact ⟨o, e, fun v q => by rw [d] at q; cases q⟩
theorem vals_back {xs : List V} {us : List Value} {i : Nat} {u : Value} (r : Vals xs us) (h : us[i]? = some u) : ∃ x, xs[i]? = some x ∧ RelV x u := by
  have hl := r.length
  have hi : i < xs.length := by
    have := (List.getElem?_eq_some_iff.mp h).1
    omega
  have e := List.getElem?_eq_getElem hi
  obtain ⟨u', e2, r2⟩ := r.get e
  rw [h] at e2
  cases e2
  exact ⟨_, e, r2⟩
theorem turn_z3 {a b c z ti to i1 i2 i3 : Addr} {m : Nat} (S : ZipSep3 z ti to i1 i2 i3 [i1, a] [i2, b] [i3, c]) (n1 : a ≠ i1) (n2 : b ≠ i2) (n3 : c ≠ i3) :
    Turn P w K (.Tuple el kk tp) (Iz3 K a b c m) [z, ti, to, i1, i2, i3] z fun i h => i ≤ m ∧ IsZip h z ti to .none ∧ IsTupOf3 h ti (.ref i1) (.ref i2) (.ref i3) ∧ (∃ x y u, IsTupOf3 h to x y u) ∧ h.IsTupleIter i1 a i ∧ h.IsTupleIter i2 b i ∧ h.IsTupleIter i3 c i where
  mem := by simp
  obj := by
    rintro i h ⟨_, q1, q2, ⟨x, y, u, q3⟩, q4, q5, q6⟩ b' hb'
    simp only [List.mem_cons, List.not_mem_nil, or_false] at hb'
    rcases hb' with e | e | e | e | e | e <;> rw [e]
    · exact ⟨_, q1, fun v q => nomatch q⟩
    · exact ⟨_, q2, fun v q => nomatch q⟩
    · exact ⟨_, q3, fun v q => nomatch q⟩
    · exact tupIt_obj q4
    · exact tupIt_obj q5
    · exact tupIt_obj q6
  keep := by
    rintro i h h' ⟨q0, q1, q2, ⟨x, y, u, q3⟩, q4, q5, q6⟩ k
    exact ⟨q0, k z (by simp) _ q1, k ti (by simp) _ q2, ⟨x, y, u, k to (by simp) _ q3⟩, q4.at fun o q => k i1 (by simp) o q, q5.at fun o q => k i2 (by simp) o q, q6.at fun o q => k i3 (by simp) o q⟩
  item := by
    intro X hP hw hK hc i pins s σ H E I hf st hg
    subst hP hw hK
    obtain ⟨q0, q1, q2, q3, q4, q5, q6⟩ := id st
    obtain ⟨xs, ys, zs, t1, t2, t3, hm, hi⟩ := hg
    obtain ⟨us, r1, p1, _⟩ := I.tuple t1
    obtain ⟨vs, r2, p2, _⟩ := I.tuple t2
    obtain ⟨ws, r3, p3, _⟩ := I.tuple t3
    have l1 := r1.length
    have l2 := r2.length
    have l3 := r3.length
    have hd : X.A.in1.handled = none := I.ok.hd hc
    have W := GoesN.zip3 (prog := X.prog) (w := X.w) (A := X.A) (elts := el) (x1 := kk) (pos := tp) S (Draws.tuple hd i1 a n1 us.toArray) (Draws.tuple hd i2 b n2 vs.toArray) (Draws.tuple hd i3 c n3 ws.toArray)
    refine W.goes i s _ _ (by simp only [List.size_toArray]; omega) ⟨q1, q2, q3, ⟨q4, p1⟩, ⟨q5, p2⟩, ⟨q6, p3⟩⟩ fun v h' tk hY st2 hk htk => ?_
    obtain ⟨T, x, y, u, rfl, hT, hx, hy, hu, ht⟩ := hY
    obtain ⟨st3, st4, st5, st6, st7, st8⟩ := st2
    have hx : us[i]? = some x := by simpa using hx
    have hy : vs[i]? = some y := by simpa using hy
    have hu : ws[i]? = some u := by simpa using hu
    obtain ⟨x', ex, rx⟩ := vals_back r1 hx
    obtain ⟨y', ey, ry⟩ := vals_back r2 hy
    obtain ⟨z', ez, rz⟩ := vals_back r3 hu
    have new : ObjOk X.prog X.w (upd H T (.tup [x', y', z'])) h' T (.tup [x', y', z']) :=
      ⟨by show 3 ≤ sizeLine; decide, [x, y, u], .cons rx (.cons ry (.cons rz .nil)), ht⟩
    have I1 : Inv X pins σ (upd H T (.tup [x', y', z'])) { s with heap := h', toks := tk } :=
      I.turnedNew (ch := [z, ti, to, i1, i2, i3]) (fun b o hb e => hk b o (fun q => hb (by simp only [List.mem_cons, List.not_mem_nil, or_false] at q ⊢; rcases q with q | q | q | q | q <;> simp [q])) e) hf hT new
    refine ⟨.ref T, _, I1, rfl, ⟨T, x', y', z', rfl, I.hok.fresh hT, rfl, fun l hl => by rw [I.tuple_inj hl t1]; exact ex, fun l hl => by rw [I.tuple_inj hl t2]; exact ey, fun l hl => by rw [I.tuple_inj hl t3]; exact ez⟩,
      ⟨by omega, st3, st4, st5, st6.1, st7.1, st8.1⟩, fun b hb => ?_⟩
    have hlt : b < s.heap.objs.size := by
      obtain ⟨x0, y0, u0, q3⟩ := q3
      simp only [List.mem_cons, List.not_mem_nil, or_false] at hb
      rcases hb with e | e | e | e | e | e <;> rw [e]
      · exact Heap.lt_size q1
      · exact Heap.lt_size q2
      · exact Heap.lt_size q3
      · exact Heap.lt_size (tupIt_obj q4).choose_spec.1
      · exact Heap.lt_size (tupIt_obj q5).choose_spec.1
      · exact Heap.lt_size (tupIt_obj q6).choose_spec.1
    rw [upd_ne (Nat.ne_of_lt (Nat.lt_of_lt_of_le hlt hT))]
    exact (hf b hb).1
  done := by
    intro X hP hw hK hc i pins s σ H E I hf st hg
    subst hP hw hK
    obtain ⟨q0, q1, q2, q3, q4, q5, q6⟩ := id st
    obtain ⟨xs, ys, zs, t1, t2, t3, hm, hi⟩ := hg
    obtain ⟨us, r1, p1, _⟩ := I.tuple t1
    obtain ⟨vs, r2, p2, _⟩ := I.tuple t2
    obtain ⟨ws, r3, p3, _⟩ := I.tuple t3
    have l1 := r1.length
    have l2 := r2.length
    have l3 := r3.length
    have hd : X.A.in1.handled = none := I.ok.hd hc
    have W := GoesN.zip3 (prog := X.prog) (w := X.w) (A := X.A) (elts := el) (x1 := kk) (pos := tp) S (Draws.tuple hd i1 a n1 us.toArray) (Draws.tuple hd i2 b n2 vs.toArray) (Draws.tuple hd i3 c n3 ws.toArray)
    have en : i = min (min us.toArray.size vs.toArray.size) ws.toArray.size := by simp only [List.size_toArray]; omega
    refine W.stops s _ _ ?_ fun h' tk hk htk => ?_
    · rw [← en]
      exact ⟨q1, q2, q3, ⟨q4, p1⟩, ⟨q5, p2⟩, ⟨q6, p3⟩⟩
    · exact I.turnedL (t' := tk) (ch := [z, ti, to, i1, i2, i3]) (fun b o hb e => hk b o (fun q => hb (by simp only [List.mem_cons, List.not_mem_nil, or_false] at q ⊢; rcases q with q | q | q | q | q <;> simp [q])) e) hf
  self := fun _ _ _ _ _ st h => wpAny_pyIter_zip st.2.1 h
end
end Nd
/-! Nf2: zip of three tuples begins; a text beside a tuple. -/
namespace Nd
open PySem PySem.Spec PyProof.Rows L2
section
variable {X : Cx} {e e2 e3 : Expr} {ta : TA} {p pos tpos : Pos} {el : List Expr} {kk : Nat}
theorem vals_split {v : V} {vs : List V} {us : List Value} (r : Vals (v :: vs) us) : ∃ u ws, us = u :: ws ∧ RelV v u ∧ Vals vs ws := by
  cases r with
  | cons a r => exact ⟨_, _, rfl, a, r⟩
theorem fp_new {pins : List (Addr × Obj)} {σ : L2.St} {H : Hp} {s : Shared} (I : Inv X pins σ H s) {l : List Addr} (h : ∀ b ∈ l, s.heap.objs.size ≤ b) : ∀ b ∈ l, FpOk X pins H b := fun b hb => I.fpOk (h b hb) (I.hok.fresh (h b hb))
def iZ3 (K : PySem.W.Frag) (ta : TA) : TI := fun σ H R => ta σ H fun vs H1 => ∃ (a b c : Addr) (xs ys zs : List V), vs = [.ref a, .ref b, .ref c] ∧ SqT K H1 a xs ∧ SqT K H1 b ys ∧ SqT K H1 c zs ∧ R (Iz3 K a b c (min (min xs.length ys.length) zs.length)) H1
theorem pi_z3 (hg : Gl X "zip") (hm : X.mg "zip" = none) (ha : PA X [e, e2, e3] ta) (hs : starEach [e, e2, e3] X.env = (false, eval e X.env) :: starEach [e2, e3] X.env) (hpl : (backTo pos (starEach [e2, e3] X.env)).any (·.1) = false) :
    PI X (.Tuple el kk tpos) (.Call (.Name "zip" p) [e, e2, e3] [] pos) (iZ3 X.K ta) := by
  refine ⟨fun pins s σ H R I h => ?_⟩
  refine Call_ (ld_blt I hg hm PyProof.Rows.boot_zip ?_)
  refine PyProof.Rows.callWith_type1 (thn (ha.run pos pins s σ H _ I h) fun us s1 ⟨vs, H1, I1, r1, q1⟩ => ?_) hs hpl
  obtain ⟨a, b, c, xs, ys, zs, rfl, t1, t2, t3, q⟩ := q1
  obtain ⟨u1, us1, rfl, w1, rr⟩ := vals_split r1
  obtain ⟨u2, us2, rfl, w2, rr⟩ := vals_split rr
  obtain ⟨u3, us3, rfl, w3, rr⟩ := vals_split rr
  cases rr
  obtain rfl : u1 = Value.ref a := w1
  obtain rfl : u2 = Value.ref b := w2
  obtain rfl : u3 = Value.ref c := w3
  case _ =>
    obtain ⟨us, rv1, p1, _⟩ := I1.tuple t1
    obtain ⟨vs, rv2, p2, _⟩ := I1.tuple t2
    obtain ⟨ws, rv3, p3, _⟩ := I1.tuple t3
    have sz : ∀ {x : Addr} {its : Array Value}, s1.heap.IsTuple x its → x < s1.heap.objs.size := fun ⟨o, ho, _⟩ => Heap.lt_size ho
    have la := sz (its := us.toArray) p1
    have lb := sz (its := vs.toArray) p2
    have lc := sz (its := ws.toArray) p3
    refine zip_begins3 (begins_tuple a us.toArray) (begins_tuple b vs.toArray) (begins_tuple c ws.toArray) p1 p2 p3 fun h' hz hI hO g1 g2 g3 hsz hk => wpAny_pyIter_zip hz ?_
    have I2 : Inv X pins σ H1 { s1 with heap := h' } := I1.kept (t' := s1.toks) hk
    refine ⟨s1.heap.objs.size + 5, [s1.heap.objs.size + 5, s1.heap.objs.size + 3, s1.heap.objs.size + 4, s1.heap.objs.size, s1.heap.objs.size + 1, s1.heap.objs.size + 2], _, _, H1, rfl, I2,
      turn_z3 (zip_sep3 (fun x hx => by rw [List.mem_singleton.mp hx]; exact la) (fun x hx => by rw [List.mem_singleton.mp hx]; exact lb) (fun x hx => by rw [List.mem_singleton.mp hx]; exact lc)) (Nat.ne_of_lt la) (Nat.ne_of_lt (Nat.lt_succ_of_lt lb)) (Nat.ne_of_lt (Nat.lt_succ_of_lt (Nat.lt_succ_of_lt lc))),
      ⟨Nat.zero_le _, hz, hI, ⟨_, _, _, hO⟩, ⟨_, g1, rfl, rfl⟩, ⟨_, g2, rfl, rfl⟩, ⟨_, g3, rfl, rfl⟩⟩, fp_new I1 fun b hb => ?_, q⟩
    simp only [List.mem_cons, List.not_mem_nil, or_false] at hb
    rcases hb with z | z | z | z | z | z <;> rw [z] <;> first | exact Nat.le_refl _ | exact Nat.le_add_right _ _
/-- a text's signs beside a tuple's items -/
def Izs (K : PySem.W.Frag) (x : Str) (b : Addr) (m : Nat) : It :=
  ⟨fun i H => ∃ ys : List V, SqT K H b ys ∧ min x.cps.size ys.length = m ∧ i < m,
   fun i H v H' => ∃ (T : Addr) (c : Nat) (y : V), v = .ref T ∧ H T = none ∧ H' = upd H T (.tup [.str ⟨#[c]⟩, y]) ∧ x.cps[i]? = some c ∧ ∀ ys, SqT K H b ys → ys[i]? = some y,
   fun i H => ∃ ys : List V, SqT K H b ys ∧ min x.cps.size ys.length = m ∧ m ≤ i⟩
theorem strIt_obj {h : Heap} {i : Addr} {T : String} {x : Str} {t : Tok} {n : Nat} (st : h.IsStrIter i T x t n) : ∃ o, h.get? i = some o ∧ ∀ v, o.data ≠ .cell v := by
  obtain ⟨o, e, _, d⟩ := st
  exact ⟨o, e, fun v q => by rw [d] at q; cases q⟩
theorem turn_zs {P : Program} {w : World} {K : PySem.W.Frag} {tp : Pos} {x : Str} {t : Tok} {b z ti to i1 i2 : Addr} {m : Nat} (S : ZipSep2 z ti to i1 i2 [i1] [i2, b]) (n2 : b ≠ i2) :
    Turn P w K (.Tuple el kk tp) (Izs K x b m) [z, ti, to, i1, i2] z fun i h => i ≤ m ∧ IsZip h z ti to .none ∧ IsTupOf2 h ti (.ref i1) (.ref i2) ∧ (∃ x y, IsTupOf2 h to x y) ∧ h.IsStrIter i1 (strIterType x) x t i ∧ h.IsTupleIter i2 b i where
  mem := by simp
  obj := by
    rintro i h ⟨_, q1, q2, ⟨x, y, q3⟩, q4, q5⟩ b' hb'
    simp only [List.mem_cons, List.not_mem_nil, or_false] at hb'
    rcases hb' with e | e | e | e | e <;> rw [e]
    · exact ⟨_, q1, fun v q => nomatch q⟩
    · exact ⟨_, q2, fun v q => nomatch q⟩
    · exact ⟨_, q3, fun v q => nomatch q⟩
    · exact strIt_obj q4
    · exact tupIt_obj q5
  keep := by
    rintro i h h' ⟨q0, q1, q2, ⟨x, y, q3⟩, q4, q5⟩ k
    obtain ⟨o, g1, g2, g3⟩ := q4
    exact ⟨q0, k z (by simp) _ q1, k ti (by simp) _ q2, ⟨x, y, k to (by simp) _ q3⟩, ⟨o, k i1 (by simp) _ g1, g2, g3⟩, q5.at fun o q => k i2 (by simp) o q⟩
  item := by
    intro X hP hw hK hc i pins s σ H E I hf st hg
    subst hP hw hK
    obtain ⟨q0, q1, q2, q3, q4, q5⟩ := id st
    obtain ⟨ys, t2, hm, hi⟩ := hg
    obtain ⟨vs, r2, p2, _⟩ := I.tuple t2
    have l2 := r2.length
    have hd : X.A.in1.handled = none := I.ok.hd hc
    have W := GoesN.zip2 (prog := X.prog) (w := X.w) (A := X.A) (elts := el) (x1 := kk) (pos := tp) S (Draws.text hd i1 x t) (Draws.tuple hd i2 b n2 vs.toArray)
    refine W.goes i s _ _ (by simp only [List.size_toArray]; omega) ⟨q1, q2, q3, q4, ⟨q5, p2⟩⟩ fun v h' tk hY st2 hk htk => ?_
    obtain ⟨T, _, y, rfl, hT, ⟨c, u, hx, rfl⟩, hy, ht⟩ := hY
    obtain ⟨st3, st4, st5, st6, st7⟩ := st2
    have hy : vs[i]? = some y := by simpa using hy
    obtain ⟨y', ey, ry⟩ := vals_back r2 hy
    have new : ObjOk X.prog X.w (upd H T (.tup [.str ⟨#[c]⟩, y'])) h' T (.tup [.str ⟨#[c]⟩, y']) :=
      ⟨by show 2 ≤ sizeLine; decide, [.str ⟨#[c]⟩ u, y], .cons ⟨_, rfl⟩ (.cons ry .nil), ht⟩
    have I1 : Inv X pins σ (upd H T (.tup [.str ⟨#[c]⟩, y'])) { s with heap := h', toks := tk } :=
      I.turnedNew (ch := [z, ti, to, i1, i2]) (fun b o hb e => hk b o (fun q => hb (by simp only [List.mem_cons, List.not_mem_nil, or_false] at q ⊢; rcases q with q | q | q | q <;> simp [q])) e) hf hT new
    refine ⟨.ref T, _, I1, rfl, ⟨T, c, y', rfl, I.hok.fresh hT, rfl, hx, fun l hl => by rw [I.tuple_inj hl t2]; exact ey⟩, ⟨by omega, st3, st4, st5, st6, st7.1⟩, fun b hb => ?_⟩
    have hlt : b < s.heap.objs.size := by
      obtain ⟨x0, y0, q3⟩ := q3
      simp only [List.mem_cons, List.not_mem_nil, or_false] at hb
      rcases hb with e | e | e | e | e <;> rw [e]
      · exact Heap.lt_size q1
      · exact Heap.lt_size q2
      · exact Heap.lt_size q3
      · exact Heap.lt_size (strIt_obj q4).choose_spec.1
      · exact Heap.lt_size (tupIt_obj q5).choose_spec.1
    rw [upd_ne (Nat.ne_of_lt (Nat.lt_of_lt_of_le hlt hT))]
    exact (hf b hb).1
  done := by
    intro X hP hw hK hc i pins s σ H E I hf st hg
    subst hP hw hK
    obtain ⟨q0, q1, q2, q3, q4, q5⟩ := id st
    obtain ⟨ys, t2, hm, hi⟩ := hg
    obtain ⟨vs, r2, p2, _⟩ := I.tuple t2
    have l2 := r2.length
    have hd : X.A.in1.handled = none := I.ok.hd hc
    have W := GoesN.zip2 (prog := X.prog) (w := X.w) (A := X.A) (elts := el) (x1 := kk) (pos := tp) S (Draws.text hd i1 x t) (Draws.tuple hd i2 b n2 vs.toArray)
    have en : i = min x.cps.size vs.toArray.size := by simp only [List.size_toArray]; omega
    refine W.stops s _ _ ?_ fun h' tk hk htk => ?_
    · rw [← en]
      exact ⟨q1, q2, q3, q4, ⟨q5, p2⟩⟩
    · exact I.turnedL (t' := tk) (ch := [z, ti, to, i1, i2]) (fun b o hb e => hk b o (fun q => hb (by simp only [List.mem_cons, List.not_mem_nil, or_false] at q ⊢; rcases q with q | q | q | q <;> simp [q])) e) hf
  self := fun _ _ _ _ _ st h => wpAny_pyIter_zip st.2.1 h
def iZs (K : PySem.W.Frag) (ta : TA) : TI := fun σ H R => ta σ H fun vs H1 => ∃ (x : Str) (b : Addr) (ys : List V), vs = [.str x, .ref b] ∧ SqT K H1 b ys ∧ R (Izs K x b (min x.cps.size ys.length)) H1
theorem pi_zs (hg : Gl X "zip") (hm : X.mg "zip" = none) (ha : PA X [e, e2] ta) (hs : starEach [e, e2] X.env = (false, eval e X.env) :: starEach [e2] X.env) (hpl : (backTo pos (starEach [e2] X.env)).any (·.1) = false) :
    PI X (.Tuple el kk tpos) (.Call (.Name "zip" p) [e, e2] [] pos) (iZs X.K ta) := by
  refine ⟨fun pins s σ H R I h => ?_⟩
  refine Call_ (ld_blt I hg hm PyProof.Rows.boot_zip ?_)
  refine PyProof.Rows.callWith_type1 (thn (ha.run pos pins s σ H _ I h) fun us s1 ⟨vs, H1, I1, r1, q1⟩ => ?_) hs hpl
  obtain ⟨x, b, ys, rfl, t2, q⟩ := q1
  obtain ⟨u1, us1, rfl, w1, rr⟩ := vals_split r1
  obtain ⟨u2, us2, rfl, w2, rr⟩ := vals_split rr
  cases rr
  obtain ⟨t, rfl⟩ := w1
  obtain rfl : u2 = Value.ref b := w2
  obtain ⟨vs, rv2, p2, _⟩ := I1.tuple t2
  have sz : ∀ {x : Addr} {its : Array Value}, s1.heap.IsTuple x its → x < s1.heap.objs.size := fun ⟨o, ho, _⟩ => Heap.lt_size ho
  have lb := sz (its := vs.toArray) p2
  refine zip_begins2 (begins_text x t) (begins_tuple b vs.toArray) trivial p2 fun h' hz hI hO g1 g2 hsz hk => wpAny_pyIter_zip hz ?_
  have I2 : Inv X pins σ H1 { s1 with heap := h' } := I1.kept (t' := s1.toks) hk
  refine ⟨s1.heap.objs.size + 4, [s1.heap.objs.size + 4, s1.heap.objs.size + 2, s1.heap.objs.size + 3, s1.heap.objs.size, s1.heap.objs.size + 1], _, _, H1, rfl, I2,
    turn_zs (t := t) (zip_sep2 (fp1 := []) (fun x hx => nomatch hx) (fun x hx => by rw [List.mem_singleton.mp hx]; exact lb)) (Nat.ne_of_lt (Nat.lt_succ_of_lt lb)),
    ⟨Nat.zero_le _, hz, hI, ⟨_, _, hO⟩, ⟨_, g1, rfl, rfl⟩, ⟨_, g2, rfl, rfl⟩⟩, fp_new I1 fun b hb => ?_, q⟩
  simp only [List.mem_cons, List.not_mem_nil, or_false] at hb
  rcases hb with z | z | z | z | z <;> rw [z] <;> first | exact Nat.le_refl _ | exact Nat.le_add_right _ _
end
end Nd
/-! Nf3: repr of data. -/
namespace Nd
open PySem PySem.Spec PyProof.Rows L2
theorem smPs_all : ∀ {xs : List PyData}, smPs xs = true ↔ ∀ x ∈ xs, smP x = true
  | [] => ⟨(fun _ x hx => nomatch hx), fun _ => rfl⟩
  | x :: xs => by
    show (smP x && smPs xs) = true ↔ _
    rw [Bool.and_eq_true, smPs_all, List.forall_mem_cons]
theorem int_len {i : Int} (h : i.natAbs < 10 ^ 40) : (PyData.shown (.int i)).length ≤ 42 := by
  have e := int_text_length_le10 (k := 40) (by decide) h
  show (Str.ofString (toString i)).length ≤ 42
  rw [PySem.ofString_length]
  omega
theorem log_small {i : Int} (h : i.natAbs < 10 ^ 40) : i.natAbs.log2 < 1920 := by
  by_cases z : i.natAbs = 0
  · rw [z]; decide
  · rw [Nat.log2_lt z]
    exact Nat.lt_trans h (by decide)
mutual
theorem sm_show : ∀ p : PyData, smP p = true → p.showable = true
  | .none, _ => rfl
  | .bool _, _ => rfl
  | .str _, _ => rfl
  | .int i, h => decide_eq_true (log_small (of_decide_eq_true h))
  | .list xs, h => sm_shows xs h
  | .tuple xs, h => sm_shows xs h
  | .dict _, h => nomatch (show false = true from h)
theorem sm_shows : ∀ xs : List PyData, smPs xs = true → PyData.showableAll xs = true
  | [], _ => rfl
  | x :: xs, h => by
    obtain ⟨h1, h2⟩ := Bool.and_eq_true_iff.mp (show (smP x && smPs xs) = true from h)
    show (_ && _) = true
    rw [sm_show x h1, sm_shows xs h2]; rfl
end
mutual
theorem sm_short : ∀ p : PyData, smP p = true → p.canLay0 = true → p.leavesShort 42 = true
  | .none, _, _ => rfl
  | .bool _, _, _ => rfl
  | .str x, _, c => by
    have c : PyData.strOk x = true := c
    show (x.cps.toList.all fun c => decide (c < 16 ^ 8)) = true
    unfold PyData.strOk at c
    rw [← Array.all_toList] at c
    rw [List.all_eq_true] at c ⊢
    intro y hy
    have := of_decide_eq_true (c y hy)
    exact decide_eq_true (Nat.lt_trans this (by decide))
  | .int i, h, _ => decide_eq_true (int_len (of_decide_eq_true h))
  | .list xs, h, c => sm_shorts xs h c
  | .tuple xs, h, c => sm_shorts xs h c
  | .dict _, h, _ => nomatch (show false = true from h)
theorem sm_shorts : ∀ xs : List PyData, smPs xs = true → PyData.canLayAll0 xs = true → PyData.leavesShortAll 42 xs = true
  | [], _, _ => rfl
  | x :: xs, h, c => by
    obtain ⟨h1, h2⟩ := Bool.and_eq_true_iff.mp (show (smP x && smPs xs) = true from h)
    obtain ⟨c1, c2⟩ := Bool.and_eq_true_iff.mp (show (PyData.canLay0 x && PyData.canLayAll0 xs) = true from c)
    show (_ && _) = true
    rw [sm_short x h1 c1, sm_shorts xs h2 c2]; rfl
end
/-! ### its signs -/
theorem ok_iff {x : Str} : PyData.strOk x = true ↔ ∀ c ∈ x.cps.toList, c < 0x110000 := by
  unfold PyData.strOk
  rw [← Array.all_toList, List.all_eq_true]
  exact ⟨fun h c hc => of_decide_eq_true (h c hc), fun h c hc => decide_eq_true (h c hc)⟩
theorem ok_app {x y : Str} (a : PyData.strOk x = true) (b : PyData.strOk y = true) : PyData.strOk (x ++ y) = true := by
  rw [ok_iff] at a b ⊢
  intro c hc
  have hc : c ∈ (x.cps ++ y.cps).toList := hc
  rw [Array.toList_append] at hc
  exact (List.mem_append.mp hc).elim (a c) (b c)
theorem ok_of (s : String) : PyData.strOk (Str.ofString s) = true := by
  rw [ok_iff]
  intro c hc
  have hc : c ∈ (s.toList.map Char.toNat) := by
    rw [← signs_ofString]
    exact hc
  obtain ⟨d, _, rfl⟩ := List.mem_map.mp hc
  have := d.valid
  rcases this with h | ⟨_, h⟩
  · exact Nat.lt_trans h (by decide)
  · exact h
theorem ok_from : ∀ (ts : List Str) (k : Nat) (acc : Str), (∀ t ∈ ts, PyData.strOk t = true) → PyData.strOk acc = true → PyData.strOk (textFrom k acc ts) = true
  | [], _, _, _, h => h
  | t :: ts, k, acc, h, ha => by
    refine ok_from ts (k + 1) _ (fun u hu => h u (List.mem_cons_of_mem _ hu)) (ok_app (ok_app ha (ok_of _)) (h t List.mem_cons_self))
theorem ok_join : ∀ (ts : List Str), (∀ t ∈ ts, PyData.strOk t = true) → PyData.strOk (Str.join ", " ts) = true
  | [], _ => by decide +kernel
  | [t], h => h t List.mem_cons_self
  | t :: u :: ts, h => by
    have ih := ok_join (u :: ts) fun v hv => h v (List.mem_cons_of_mem _ hv)
    exact ok_app (ok_app (h t List.mem_cons_self) (ok_of _)) ih
theorem ok_chr {q c : Nat} (hq : q < 0x110000) (hc : c < 0x110000) : ∀ d ∈ Builtin.Str.reprChar q c, d < 0x110000 := by
  have hex : ∀ (n : Nat) (d : Nat), d ∈ (List.replicate (n - ((Nat.toDigits 16 c).map Char.toNat).length) 48 ++ (Nat.toDigits 16 c).map Char.toNat) → d < 0x110000 := by
    intro n d hd
    rcases List.mem_append.mp hd with z | z
    · rw [(List.mem_replicate.mp z).2]; decide
    · obtain ⟨e, _, rfl⟩ := List.mem_map.mp z
      rcases e.valid with h | ⟨_, h⟩
      · exact Nat.lt_trans h (by decide)
      · exact h
  intro d hd
  unfold Builtin.Str.reprChar at hd
  simp only at hd
  split at hd
  · simp at hd; omega
  split at hd
  · simp at hd; omega
  split at hd
  · simp at hd; omega
  split at hd
  · simp at hd; omega
  split at hd
  · simp at hd; omega
  have two : ∀ (a b n : Nat), a < 0x110000 → b < 0x110000 → d ∈ ([a, b] ++ (List.replicate (n - ((Nat.toDigits 16 c).map Char.toNat).length) 48 ++ (Nat.toDigits 16 c).map Char.toNat)) → d < 0x110000 := by
    intro a b n ha hb h
    rcases List.mem_append.mp h with z | z
    · simp at z; omega
    · exact hex n d z
  split at hd
  · exact two _ _ 2 (by decide) (by decide) hd
  split at hd
  · exact two _ _ 4 (by decide) (by decide) hd
  · exact two _ _ 8 (by decide) (by decide) hd
theorem ok_text {x : Str} (h : PyData.strOk x = true) : PyData.strOk (reprText x) = true := by
  have hq : reprQuote x < 0x110000 := by
    unfold reprQuote
    split <;> decide
  have fold : ∀ (l : List Nat) (acc : Array Nat), (∀ c ∈ l, c < 0x110000) → (∀ c ∈ acc.toList, c < 0x110000) → ∀ c ∈ (l.foldl (fun out c => out ++ (Builtin.Str.reprChar (reprQuote x) c).toArray) acc).toList, c < 0x110000 := by
    intro l
    induction l with
    | nil => exact fun acc _ h => h
    | cons a l ih =>
      intro acc h1 h2
      refine ih _ (fun c hc => h1 c (List.mem_cons_of_mem _ hc)) fun c hc => ?_
      rw [Array.toList_append] at hc
      rcases List.mem_append.mp hc with z | z
      · exact h2 c z
      · exact ok_chr hq (h1 a List.mem_cons_self) c (by simpa using z)
  rw [ok_iff] at h ⊢
  intro c hc
  unfold reprText at hc
  rw [← Array.foldl_toList] at hc
  have hc : c ∈ (Array.push _ (reprQuote x)).toList := hc
  rw [Array.toList_push] at hc
  rcases List.mem_append.mp hc with z | z
  · exact fold _ _ h (fun d hd => by simp at hd; rw [hd]; exact hq) c z
  · rw [List.mem_singleton.mp z]; exact hq
mutual
theorem ok_shown : ∀ p : PyData, p.canLay0 = true → PyData.strOk p.shown = true
  | .none, _ => by rw [PyData.shown_none]; exact ok_of _
  | .bool b, _ => by rw [PyData.shown_bool]; cases b <;> exact ok_of _
  | .int i, _ => by rw [PyData.shown_int]; exact ok_of _
  | .str x, h => by rw [PyData.shown_str]; exact ok_text h
  | .list xs, h => by
    rw [PyData.shown_list]
    exact ok_app (ok_app (ok_of _) (ok_join _ (ok_showns xs h))) (ok_of _)
  | .tuple xs, h => by
    rw [PyData.shown_tuple]
    exact ok_app (ok_app (ok_of _) (ok_join _ (ok_showns xs h))) (ok_of _)
  | .dict _, h => by cases h
theorem ok_showns : ∀ xs : List PyData, PyData.canLayAll0 xs = true → ∀ t ∈ PyData.shownAll xs, PyData.strOk t = true
  | [], _, t, ht => by rw [PyData.shownAll_nil] at ht; cases ht
  | x :: xs, h, t, ht => by
    obtain ⟨h1, h2⟩ := Bool.and_eq_true_iff.mp (show (PyData.canLay0 x && PyData.canLayAll0 xs) = true from h)
    rw [PyData.shownAll_cons] at ht
    rcases List.mem_cons.mp ht with e | ht
    · rw [e]; exact ok_shown x h1
    · exact ok_showns xs h2 t ht
end
theorem sm_size {p : PyData} (h : smP p = true) (c : p.canLay0 = true) (w : p.weight ≤ 300000) : p.shown.length ≤ sizeLine := by
  have e := PyData.shown_le 42 (by decide) p (sm_short p h c)
  have : (42 + 2) * p.weight ≤ 44 * 300000 := Nat.mul_le_mul (by decide) w
  have z : sizeLine = 16777216 := rfl
  omega
end Nd
/-! Nf5: enumerate of a tuple. -/
namespace Nd
open PySem PySem.Spec PyProof.Rows L2
theorem meets_enum1 {v : Value} {o : Obj} {H : Heap → Prop} (B : Begins v o H) :
    Meets (Builtin.«enumerate.__new__» ⟨[.type "enumerate", v], []⟩) (fun _ R s => H s.heap ∧
      R (.ok (.ret (.ref (s.heap.push o).objs.size))) { s with heap := (s.heap.push o).push { cls := .type "enumerate", data := .fields #[.none, .bool false, .ref s.heap.objs.size, rawInt 0, .none, .none] } }) :=
  .of_wp fun prog w A R s h => by
    obtain ⟨hp, g, d, tk, os⟩ := s
    obtain ⟨w1, h⟩ := h
    have hsub := sub_enumerate
    have it1 : ∀ {A' : Around} {E : Value → Shared → Prop} {Q : Value → Shared → Prop}, Q (.ref hp.objs.size) ⟨hp.push o, g, d, tk, os⟩ → wpAny (model prog w) A' (pyIter v) Q E ⟨hp, g, d, tk, os⟩ :=
      fun q => B.iter prog w _ _ ⟨hp, g, d, tk, os⟩ _ w1 q
    wp_walk using it1
    refine wpAny_stack_any fun st => wpAny_pure ?_
    split
    · rename_i c _ _ _ _ _
      cases (c == Value.type "enumerate")
      all_goals (wp_walk using it1; exact ⟨_, rfl, h⟩)
    · wp_walk using it1
      exact ⟨_, rfl, h⟩
theorem enum_new {prog : Program} {w : World} {A : Around} {E : Value → Shared → Prop} {s : Shared} {v : Value} {o : Obj} {H : Heap → Prop} {Q : Value → Shared → Prop} (B : Begins v o H) (h1 : H s.heap)
    (h : ∀ h', IsEnum h' (s.heap.objs.size + 1) s.heap.objs.size 0 .none → h'.get? s.heap.objs.size = some o → h'.objs.size = s.heap.objs.size + 2 → (∀ b o, s.heap.get? b = some o → h'.get? b = some o) → Q (.ref (s.heap.objs.size + 1)) { s with heap := h' }) :
    wpAny (model prog w) A (call (.type "enumerate") [v]) Q E s := by
  refine callType_new F.called_enumerate (by decide) (F.typeCall_enumerate_1 _) (F.newCall_enumerate_1 _) (fun obj => F.args_object_init_2 obj _) F.entry_enumerate_new (meets_enum1 B) ⟨h1, ?_⟩
  have z : (s.heap.push o).objs.size = s.heap.objs.size + 1 := Heap.size_push ..
  show _ ∧ _
  rw [z]
  have at1 := Heap.get?_push_size (s.heap.push o) (o := { cls := .type "enumerate", data := .fields #[.none, .bool false, .ref s.heap.objs.size, rawInt 0, .none, .none] }) rfl
  rw [z] at at1
  have he : IsEnum ((s.heap.push o).push { cls := .type "enumerate", data := .fields #[.none, .bool false, .ref s.heap.objs.size, rawInt 0, .none, .none] }) (s.heap.objs.size + 1) s.heap.objs.size 0 .none := at1
  exact ⟨⟨_, he, rfl⟩, h _ he (Heap.get?_push_of_some _ (Heap.get?_push_size _ B.free)) (by rw [Heap.size_push, z]) fun b o x => Heap.get?_push_of_some _ (Heap.get?_push_of_some _ x)⟩
/-- a tuple's items with their numbers, m of them -/
def Iet (K : PySem.W.Frag) (b : Addr) (m : Nat) : It :=
  ⟨fun i H => ∃ ys : List V, SqT K H b ys ∧ ys.length = m ∧ i < m,
   fun i H v H' => ∃ (T : Addr) (y : V), v = .ref T ∧ H T = none ∧ H' = upd H T (.tup [.int (i : Nat), y]) ∧ ∀ ys, SqT K H b ys → ys[i]? = some y,
   fun i H => ∃ ys : List V, SqT K H b ys ∧ ys.length = m ∧ m ≤ i⟩
section
variable {el : List Expr} {kk : Nat}
theorem turn_et {P : Program} {w : World} {K : PySem.W.Frag} {tp : Pos} {b e it : Addr} {m : Nat} (n1 : e ≠ it) (n2 : e ∉ [it, b]) (n3 : b ≠ it) :
    Turn P w K (.Tuple el kk tp) (Iet K b m) [e, it] e fun i h => i ≤ m ∧ (∃ old, IsEnum h e it (0 + (i : Int)) old) ∧ h.IsTupleIter it b i where
  mem := by simp
  obj := by
    rintro i h ⟨_, ⟨old, q1⟩, q2⟩ b' hb'
    simp only [List.mem_cons, List.not_mem_nil, or_false] at hb'
    rcases hb' with z | z <;> rw [z]
    · exact ⟨_, q1, fun v q => nomatch q⟩
    · exact tupIt_obj q2
  keep := by
    rintro i h h' ⟨q0, ⟨old, q1⟩, q2⟩ k
    exact ⟨q0, ⟨old, k e (by simp) _ q1⟩, q2.at fun o q => k it (by simp) o q⟩
  item := by
    intro X hP hw hK hc i pins s σ H E I hf st hg
    subst hP hw hK
    obtain ⟨q0, q1, q2⟩ := id st
    obtain ⟨ys, t2, hm, hi⟩ := hg
    obtain ⟨vs, r2, p2, _⟩ := I.tuple t2
    have l2 := r2.length
    have hd : X.A.in1.handled = none := I.ok.hd hc
    have W := GoesN.enumFrom (prog := X.prog) (w := X.w) (A := X.A) (elts := el) (x1 := kk) (pos := tp) 0 (Draws.tuple hd it b n3 vs.toArray) e n1 n2 (by simp)
    refine W.goes i s _ _ (by simp only [List.size_toArray]; omega) ⟨q1, q2, p2⟩ fun v h' tk hY st2 hk htk => ?_
    obtain ⟨T, t, y, rfl, hT, hy, ht⟩ := hY
    obtain ⟨st3, st4⟩ := st2
    have hy : vs[i]? = some y := by simpa using hy
    obtain ⟨y', ey, ry⟩ := vals_back r2 hy
    have ei : (0 : Int) + (i : Int) = ((i : Nat) : Int) := by omega
    rw [ei] at ht
    have new : ObjOk X.prog X.w (upd H T (.tup [.int (i : Nat), y'])) h' T (.tup [.int (i : Nat), y']) :=
      ⟨by show 2 ≤ sizeLine; decide, [.int (i : Nat) t, y], .cons ⟨_, rfl⟩ (.cons ry .nil), ht⟩
    have I1 : Inv X pins σ (upd H T (.tup [.int (i : Nat), y'])) { s with heap := h', toks := tk } := I.turnedNew (ch := [e, it]) hk hf hT new
    refine ⟨.ref T, _, I1, rfl, ⟨T, y', rfl, I.hok.fresh hT, rfl, fun l hl => by rw [I.tuple_inj hl t2]; exact ey⟩, ⟨by omega, st3, st4.1⟩, fun b hb => ?_⟩
    have hlt : b < s.heap.objs.size := by
      obtain ⟨old, q1⟩ := q1
      simp only [List.mem_cons, List.not_mem_nil, or_false] at hb
      rcases hb with z | z <;> rw [z]
      · exact Heap.lt_size q1
      · exact Heap.lt_size (tupIt_obj q2).choose_spec.1
    rw [upd_ne (Nat.ne_of_lt (Nat.lt_of_lt_of_le hlt hT))]
    exact (hf b hb).1
  done := by
    intro X hP hw hK hc i pins s σ H E I hf st hg
    subst hP hw hK
    obtain ⟨q0, q1, q2⟩ := id st
    obtain ⟨ys, t2, hm, hi⟩ := hg
    obtain ⟨vs, r2, p2, _⟩ := I.tuple t2
    have l2 := r2.length
    have hd : X.A.in1.handled = none := I.ok.hd hc
    have W := GoesN.enumFrom (prog := X.prog) (w := X.w) (A := X.A) (elts := el) (x1 := kk) (pos := tp) 0 (Draws.tuple hd it b n3 vs.toArray) e n1 n2 (by simp)
    have en : i = vs.toArray.size := by simp only [List.size_toArray]; omega
    refine W.stops s _ _ ?_ fun h' tk hk htk => I.turnedL (t' := tk) (ch := [e, it]) hk hf
    rw [← en]
    exact ⟨q1, q2, p2⟩
  self := fun _ _ _ _ _ st h => by
    obtain ⟨_, ⟨old, he⟩, _⟩ := st
    exact wpAny_pyIter_enum he h
variable {X : Cx} {e : Expr} {ta : TA} {p pos tpos : Pos}
def iEt (K : PySem.W.Frag) (ta : TA) : TI := fun σ H R => ta σ H fun vs H1 => ∃ (b : Addr) (ys : List V), vs = [.ref b] ∧ SqT K H1 b ys ∧ R (Iet K b ys.length) H1
theorem pi_et (hg : Gl X "enumerate") (hm : X.mg "enumerate" = none) (ha : PA X [e] ta) (hs : starEach [e] X.env = (false, eval e X.env) :: starEach [] X.env) :
    PI X (.Tuple el kk tpos) (.Call (.Name "enumerate" p) [e] [] pos) (iEt X.K ta) := by
  refine ⟨fun pins s σ H R I h => ?_⟩
  refine Call_ (ld_blt I hg hm (u := .type "enumerate") (by decide +kernel) ?_)
  refine PyProof.Rows.callWith_type1 (thn (ha.run pos pins s σ H _ I h) fun us s1 ⟨vs, H1, I1, r1, q1⟩ => ?_) hs rfl
  obtain ⟨b, ys, rfl, t2, q⟩ := q1
  obtain ⟨u1, us1, rfl, w1, rr⟩ := vals_split r1
  cases rr
  obtain rfl : u1 = Value.ref b := w1
  obtain ⟨vs, rv2, p2, _⟩ := I1.tuple t2
  have sz : ∀ {x : Addr} {its : Array Value}, s1.heap.IsTuple x its → x < s1.heap.objs.size := fun ⟨o, ho, _⟩ => Heap.lt_size ho
  have lb := sz (its := vs.toArray) p2
  refine enum_new (begins_tuple b vs.toArray) p2 fun h' he g1 hsz hk => wpAny_pyIter_enum he ?_
  have I2 : Inv X pins σ H1 { s1 with heap := h' } := I1.kept (t' := s1.toks) hk
  refine ⟨s1.heap.objs.size + 1, [s1.heap.objs.size + 1, s1.heap.objs.size], _, _, H1, rfl, I2,
    turn_et (Nat.ne_of_gt (Nat.lt_succ_self _)) (fun z => ?_) (Nat.ne_of_lt lb), ⟨Nat.zero_le _, ⟨_, he⟩, ⟨_, g1, rfl, rfl⟩⟩, fp_new I1 fun b hb => ?_, q⟩
  · simp only [List.mem_cons, List.not_mem_nil, or_false] at z
    rcases z with z | z
    · exact absurd z (Nat.ne_of_gt (Nat.lt_succ_self _))
    · rw [← z] at lb
      exact absurd (Nat.lt_of_succ_lt lb) (Nat.lt_irrefl _)
  · simp only [List.mem_cons, List.not_mem_nil, or_false] at hb
    rcases hb with z | z <;> rw [z] <;> first | exact Nat.le_refl _ | exact Nat.le_add_right _ _
end
end Nd
/-! Nf4: repr, zip of three, zip of a text, xs[::-1] as parts of the small syntax. -/
namespace Nd
open PySem PySem.Spec PyProof.Rows L2
section
variable {X : Cx} {G : Nat → Addr} {W : WX} {C : Ca} {c : Cf} {sc : Scope} {n : Nat}
theorem c_repr (hg : X.A.guards = some []) (hu : X.A.units + 70 < cLine) : CallR X (.builtin "repr") (lcall X.K G fun ds h q => biV C.exm .repr1 ds h q) := by
  intro pins s σ H xs us Q I r ⟨ds, h, q, rd, rh, hr, k⟩
  match ds, rd, hr with
  | [d], rd, hr =>
    obtain ⟨v, rfl, r1⟩ := rds1 rd
    obtain ⟨p, hp, ⟨hrp, hs⟩, hw, hd, hq⟩ := (show ∃ p, Py h d p ∧ (rpP p = true ∧ smP p = true) ∧ p.weight ≤ 300000 ∧ p.depth ≤ 64 ∧ q (.str p.shown) h from hr)
    obtain ⟨u, rfl, ru⟩ := vals1 r
    have lay := Py.lay rh hp r1
    have sg : StrG p.shown := ⟨sm_size hs lay hw, ok_shown p lay⟩
    obtain ⟨as, rr⟩ := Dp.reads I p v u (Py.dp rh hp r1) ru
    have hsm : p.hasDict = true → sysModules ∉ as := PyData.noDict_hsm (PyData.hasDict_of_canLay p lay)
    have hsh := sm_show p hs
    have fin : ∀ h' tk t, (∀ b o, s.heap.get? b = some o → h'.get? b = some o) → EP X pins σ Q (.str p.shown t) { s with heap := h', toks := tk } := fun h' tk t hk =>
      ⟨.str p.shown, H, I.kept hk, ⟨t, rfl⟩, k _ _ _ _ Fx.refl (.str _ sg) rh hq⟩
    cases hp with
    | int i =>
      cases r1
      obtain ⟨t, rfl⟩ := ru
      exact PySem.P.repr_of_int (log_small (of_decide_eq_true hs)) (fin s.heap _ _ fun _ _ e => e)
    | str x =>
      cases r1
      obtain ⟨t, rfl⟩ := ru
      exact PySem.P.repr_of_str (by have e := fin s.heap (s.toks + 1) s.toks fun _ _ e => e; rw [PyData.shown_str] at e; exact e) (by have := sg.1; rw [PyData.shown_str] at this; exact this)
    | tup z =>
      cases r1
      obtain rfl : u = Value.ref _ := ru
      exact repr_of_reads' rr hsh hsm hg (by omega) (fun _ _ e => e) (fun h' t tk hk => fin h' tk t hk) sg.1
    | lst e z =>
      cases r1
      obtain rfl : u = Value.ref _ := ru
      exact repr_of_reads' rr hsh hsm hg (by omega) (fun _ _ e => e) (fun h' t tk hk => fin h' tk t hk) sg.1
    | kls z =>
      cases r1
      obtain rfl : u = Value.ref _ := ru
      exact repr_of_reads' rr hsh hsm hg (by omega) (fun _ _ e => e) (fun h' t tk hk => fin h' tk t hk) sg.1
    | non => cases hrp
    | bl b => cases hrp
theorem rds3 {K : PySem.W.Frag} {H : Hp} {d e f : D} {vs : List V} (r : RDs K G H [d, e, f] vs) : ∃ u v w, vs = [u, v, w] ∧ RD K G H d u ∧ RD K G H e v ∧ RD K G H f w := by
  cases r with
  | cons a r => cases r with
    | cons b r => cases r with
      | cons c r => cases r; exact ⟨_, _, _, rfl, a, b, c⟩
theorem zipL3_len {xs ys zs : List D} : (zipL3 xs ys zs).length = min (min xs.length ys.length) zs.length := by
  unfold zipL3
  rw [List.length_map, List.length_zip, List.length_zip]
  omega
theorem zipL3_get {xs ys zs : List D} {i : Nat} {x y z : D} (hx : xs[i]? = some x) (hy : ys[i]? = some y) (hz : zs[i]? = some z) : (zipL3 xs ys zs)[i]? = some (.tup [x, y, z]) := by
  unfold zipL3
  have e2 : (ys.zip zs)[i]? = some (y, z) := List.getElem?_zip_eq_some.mpr ⟨hy, hz⟩
  have e : (xs.zip (ys.zip zs))[i]? = some (x, y, z) := List.getElem?_zip_eq_some.mpr ⟨hx, e2⟩
  rw [List.getElem?_map, e]
  rfl
theorem triple_new {K : PySem.W.Frag} {H : Hp} {h : HD} {T : Addr} {x y z : V} {d e f : D} (hT : H T = none) (rh : RH K G H h) (r1 : RD K G H d x) (r2 : RD K G H e y) (r3 : RD K G H f z) :
    RD K G (upd H T (.tup [x, y, z])) (.tup [d, e, f]) (.ref T) ∧ RH K G (upd H T (.tup [x, y, z])) h ∧ Fx H h (upd H T (.tup [x, y, z])) h :=
  ⟨.tup (.inl upd_same) (by show 3 ≤ sizeLine; decide) (.cons (r1.ext (Ext.new hT)) (.cons (r2.ext (Ext.new hT)) (.cons (r3.ext (Ext.new hT)) .nil))), rh.hid hT, Fx.new hT⟩
theorem wk_z3 {K : PySem.W.Frag} {a b c : Addr} {xs ys zs : List D} {us vs ws : List V} {H0 : Hp} {h0 : HD} (t1 : TupAt K H0 a us) (r1 : RDs K G H0 xs us) (t2 : TupAt K H0 b vs) (r2 : RDs K G H0 ys vs) (t3 : TupAt K H0 c ws) (r3 : RDs K G H0 zs ws) :
    Wk K G (Iz3 K a b c (min (min us.length vs.length) ws.length)) (zipL3 xs ys zs) [] H0 h0 where
  ok := g0
  go := fun i H h hi rh fx g => by
    rw [zipL3_len] at hi
    have s1 := (t1.ext fx.ext).sq
    have s2 := (t2.ext fx.ext).sq
    have s3 := (t3.ext fx.ext).sq
    have q1 := r1.ext fx.ext
    have q2 := r2.ext fx.ext
    have q3 := r3.ext fx.ext
    have l1 := r1.len
    have l2 := r2.len
    have l3 := r3.len
    have hx := List.getElem?_eq_getElem (l := xs) (i := i) (by omega)
    have hy := List.getElem?_eq_getElem (l := ys) (i := i) (by omega)
    have hz := List.getElem?_eq_getElem (l := zs) (i := i) (by omega)
    obtain ⟨v1, e1, w1⟩ := q1.get hx
    obtain ⟨v2, e2, w2⟩ := q2.get hy
    obtain ⟨v3, e3, w3⟩ := q3.get hz
    refine ⟨⟨us, vs, ws, s1, s2, s3, rfl, by omega⟩, ?_⟩
    rintro z H' ⟨T, x, y, u, rfl, hT, rfl, f1, f2, f3⟩
    have f1 := f1 us s1
    have f2 := f2 vs s2
    have f3 := f3 ws s3
    rw [e1] at f1
    rw [e2] at f2
    rw [e3] at f3
    cases f1
    cases f2
    cases f3
    exact ⟨_, zipL3_get hx hy hz, triple_new hT rh w1 w2 w3⟩
  stop := fun i H h hi rh fx g => by
    rw [zipL3_len] at hi
    have l1 := r1.len
    have l2 := r2.len
    have l3 := r3.len
    exact ⟨us, vs, ws, (t1.ext fx.ext).sq, (t2.ext fx.ext).sq, (t3.ext fx.ext).sq, rfl, by omega⟩
theorem i_zip3 {a b c0 : Expr} {el : List Expr} {kk : Nat} {t : TAD} {p pos tpos : Pos} (hg : Gl X "zip") (hm : X.mg "zip" = none) (ha : PA X [a, b, c0] (liftA X.K G W t)) (hs : (!isStar a) = true) (hs' : (!isStar b) = true) (hs2 : (!isStar c0) = true) :
    PI X (.Tuple el kk tpos) (.Call (.Name "zip" p) [a, b, c0] [] pos) (liftP X.K G W fun σ h q r => t σ h (fun ds h1 => itK .zip3 ds h1 q) r) := by
  refine ⟨fun pins s σ H R I ⟨a, h, q, r, rs, rh, ht, k, kx⟩ => (pi_z3 hg hm ha (by rw [star1 hs, star1 hs', star1 hs2]) (by rw [star1 hs', star1 hs2]; rfl)).run pins s σ H R I ⟨a, h, _, r, rs, rh, ht, fun ds h1 vs H1 fx1 rd1 rh1 hq1 => ?_, kx⟩⟩
  match ds, rd1, hq1 with
  | [.tup xs, .tup ys, .tup zs], rd1, hq1 =>
    obtain ⟨v1, v2, v3, rfl, r1, r2, r3⟩ := rds3 rd1
    cases r1 with
    | tup t1 l1 q1 => cases r2 with
      | tup t2 l2 q2 => cases r3 with
        | tup t3 l3 q3 => exact ⟨_, _, _, _, _, _, rfl, t1.sq, t2.sq, t3.sq, k _ _ _ _ _ fx1 rh1 (wk_z3 t1 q1 t2 q2 t3 q3) hq1⟩
theorem chars_get {s : Str} {i c : Nat} (h : s.cps[i]? = some c) : (chars s)[i]? = some (.str ⟨#[c]⟩) := by
  unfold chars
  rw [List.getElem?_map, Array.getElem?_toList, h]
  rfl
theorem chars_len {s : Str} : (chars s).length = s.cps.size := by
  unfold chars
  rw [List.length_map, Array.length_toList]
theorem sign_ok {s : Str} {c i : Nat} (h : PyData.strOk s = true) (e : s.cps[i]? = some c) : StrG ⟨#[c]⟩ := by
  refine ⟨by show 1 ≤ sizeLine; decide, ?_⟩
  rw [ok_iff] at h ⊢
  intro d hd
  have hd : d ∈ [c] := hd
  rw [List.mem_singleton.mp hd]
  exact h c (by
    rw [← Array.getElem?_toList] at e
    exact List.mem_of_getElem? e)
theorem wk_zs {K : PySem.W.Frag} {s : Str} {b : Addr} {ys : List D} {vs : List V} {H0 : Hp} {h0 : HD} (hs : PyData.strOk s = true) (t2 : TupAt K H0 b vs) (r2 : RDs K G H0 ys vs) : Wk K G (Izs K s b (min s.cps.size vs.length)) (zipL (chars s) ys) [] H0 h0 where
  ok := g0
  go := fun i H h hi rh fx g => by
    rw [zipL_len, chars_len] at hi
    have s2 := (t2.ext fx.ext).sq
    have q2 := r2.ext fx.ext
    have l2 := r2.len
    have hy := List.getElem?_eq_getElem (l := ys) (i := i) (by omega)
    obtain ⟨v2, e2, w2⟩ := q2.get hy
    refine ⟨⟨vs, s2, rfl, by omega⟩, ?_⟩
    rintro z H' ⟨T, c, y, rfl, hT, rfl, f1, f2⟩
    have f2 := f2 vs s2
    rw [e2] at f2
    cases f2
    exact ⟨_, zipL_get (chars_get f1) hy, pair_new hT rh (.str _ (sign_ok hs f1)) w2⟩
  stop := fun i H h hi rh fx g => by
    rw [zipL_len, chars_len] at hi
    have l2 := r2.len
    exact ⟨vs, (t2.ext fx.ext).sq, rfl, by omega⟩
theorem i_zipS {a b : Expr} {el : List Expr} {kk : Nat} {t : TAD} {p pos tpos : Pos} (hg : Gl X "zip") (hm : X.mg "zip" = none) (ha : PA X [a, b] (liftA X.K G W t)) (hs : (!isStar a) = true) (hs' : (!isStar b) = true) :
    PI X (.Tuple el kk tpos) (.Call (.Name "zip" p) [a, b] [] pos) (liftP X.K G W fun σ h q r => t σ h (fun ds h1 => itK .zipS ds h1 q) r) := by
  refine ⟨fun pins s σ H R I ⟨a, h, q, r, rs, rh, ht, k, kx⟩ => (pi_zs hg hm ha (by rw [star1 hs, star1 hs']) (by rw [star1 hs']; rfl)).run pins s σ H R I ⟨a, h, _, r, rs, rh, ht, fun ds h1 vs H1 fx1 rd1 rh1 hq1 => ?_, kx⟩⟩
  match ds, rd1, hq1 with
  | [.str s, .tup ys], rd1, hq1 =>
    obtain ⟨v1, v2, rfl, r1, r2⟩ := rds2 rd1
    cases r1 with
    | str _ g => cases r2 with
      | tup t2 l2 q2 => exact ⟨_, _, _, rfl, t2.sq, k _ _ _ _ _ fx1 rh1 (wk_zs g.2 t2 q2) hq1⟩
theorem enumL_len {xs : List D} : (enumL xs).length = xs.length := by
  unfold enumL
  rw [List.length_map, List.length_zipIdx]
theorem enumL_get {xs : List D} {i : Nat} {x : D} (h : xs[i]? = some x) : (enumL xs)[i]? = some (.tup [.int (i : Nat), x]) := by
  unfold enumL
  rw [List.getElem?_map, List.getElem?_zipIdx, h]
  simp
theorem wk_et {K : PySem.W.Frag} {b : Addr} {ys : List D} {vs : List V} {H0 : Hp} {h0 : HD} (t2 : TupAt K H0 b vs) (r2 : RDs K G H0 ys vs) : Wk K G (Iet K b vs.length) (enumL ys) [] H0 h0 where
  ok := g0
  go := fun i H h hi rh fx g => by
    rw [enumL_len] at hi
    have s2 := (t2.ext fx.ext).sq
    have q2 := r2.ext fx.ext
    have l2 := r2.len
    have hy := List.getElem?_eq_getElem (l := ys) (i := i) (by omega)
    obtain ⟨v2, e2, w2⟩ := q2.get hy
    refine ⟨⟨vs, s2, rfl, by omega⟩, ?_⟩
    rintro z H' ⟨T, y, rfl, hT, rfl, f2⟩
    have f2 := f2 vs s2
    rw [e2] at f2
    cases f2
    exact ⟨_, enumL_get hy, pair_new hT rh (.int _) w2⟩
  stop := fun i H h hi rh fx g => by
    rw [enumL_len] at hi
    have l2 := r2.len
    exact ⟨vs, (t2.ext fx.ext).sq, rfl, by omega⟩
theorem i_enumT {a : Expr} {el : List Expr} {kk : Nat} {t : TAD} {p pos tpos : Pos} (hg : Gl X "enumerate") (hm : X.mg "enumerate" = none) (ha : PA X [a] (liftA X.K G W t)) (hs : (!isStar a) = true) :
    PI X (.Tuple el kk tpos) (.Call (.Name "enumerate" p) [a] [] pos) (liftP X.K G W fun σ h q r => t σ h (fun ds h1 => itK .enumT ds h1 q) r) := by
  refine ⟨fun pins s σ H R I ⟨a, h, q, r, rs, rh, ht, k, kx⟩ => (pi_et hg hm ha (by rw [star1 hs])).run pins s σ H R I ⟨a, h, _, r, rs, rh, ht, fun ds h1 vs H1 fx1 rd1 rh1 hq1 => ?_, kx⟩⟩
  match ds, rd1, hq1 with
  | [.tup ys], rd1, hq1 =>
    obtain ⟨v1, rfl, r1⟩ := rds1 rd1
    cases r1 with
    | tup t2 l2 q2 => exact ⟨_, _, rfl, t2.sq, k _ _ _ _ _ fx1 rh1 (wk_et t2 q2) hq1⟩
/-! ### xs[::-1] -/
theorem p_rvs {a : Expr} {te : TED} {k : Nat} {p1 p2 p3 pos : Pos} (ha : PE X a (lift X.K G W te)) : PE X (.Subscript a (.Slice none none (some (.UnaryOp .USub (.Constant (.int 1) k p1) p2)) p3) pos) (lift X.K G W fun σ h q r => te σ h (fun x h1 => rvsV x h1 q) r) :=
  PE.imp (pe_revL ha) fun σ H Q ⟨a, h, q, r, rs, rh, ht, k, kx⟩ => ⟨a, h, _, r, rs, rh, ht, fun d h1 v1 H1 fx1 rd1 rh1 hq1 => by
    cases rd1 with
    | ref a =>
      unfold rvsV at hq1
      dsimp only at hq1
      split at hq1
      · rename_i xs e
        obtain ⟨vs, g1, g2, g3⟩ := rh1 a _ e
        refine ⟨a, vs, rfl, .inl (.inl g1), fun p np => k (.ref p) _ (.ref p) _ (fx1.trans (Fx.newM np)) (.ref p) (rh1.newL np (by rw [List.length_reverse]; exact g2) g3.rev) (hq1 p (rh1.none_of np))⟩
      · exact hq1.elim
    | _ => exact False.elim hq1, kx⟩
end
end Nd
/-! Nd13: the induction over the small syntax. -/
namespace Nd
open PySem PySem.Spec PyProof.Rows L2
section
variable {X : Cx} {G : Nat → Addr} {W : WX} {C : Ca} {c : Cf} {sc : Scope} {n : Nat}
theorem and2 {a b : Bool} (h : (a && b) = true) : a = true ∧ b = true := Bool.and_eq_true_iff.mp h
theorem opR_no {f : Value → Value → Sem Value} : OpR X f (lop X.K G fun _ _ _ _ => False) := fun _ _ _ _ _ _ _ _ _ _ _ _ ⟨_, _, _, _, _, _, _, f, _⟩ => f.elim
theorem opR_ok (o : Operator) : OpR X (binaryOp o) (lop X.K G (opV o)) := by
  cases o with
  | Add => exact s_add
  | Sub => exact s_sub
  | Mult => exact s_mul
  | FloorDiv => exact s_div
  | Mod => exact s_mod
  | Pow => exact s_pow
  | _ => exact opR_no
theorem cmR_ok (hu : X.A.units + 65 < cLine) (o : CmpOp) : OpR X (compareOp o) (lop X.K G (cmV o)) := by
  have h1 : X.A.units + 64 < cLine := by omega
  cases o with
  | Eq => exact s_eq h1
  | NotEq => exact s_ne h1
  | Lt => exact s_lt h1
  | LtE => exact s_le h1
  | Gt => exact s_gt h1
  | GtE => exact s_ge h1
  | Is => exact s_is
  | IsNot => exact s_isn
  | In => exact s_in hu
  | NotIn => exact s_nin hu
theorem Co.u65 (co : Co X G W C c sc n) : X.A.units + 65 < cLine := by
  have := co.room.un
  omega
theorem Co.u70 (co : Co X G W C c sc n) : X.A.units + 70 < cLine := by
  have := co.room.un
  omega
theorem boot_ty {m : String} (h : tyS m = true) : bootBuiltins (Str.ofString m) = some (.type m) := by
  unfold tyS at h
  simp only [Bool.or_eq_true, beq_iff_eq] at h
  rcases h with (((((h | h) | h) | h) | h) | h) | h <;> (subst h; decide +kernel)
theorem bi_no {x : Str} {l : List Expr} {p pos : Pos} {d : TED} (h : ∀ σ h q r, ¬ d σ h q r) : Snd X G W (Dn.of d) (.Call (.Name x p) l [] pos) :=
  snd_of (pe_false fun _ _ _ ⟨_, _, _, _, _, _, f, _⟩ => h _ _ _ _ f) rfl
theorem snd_bi (co : Co X G W C c sc n) {b : BI} {x : Str} {l : List Expr} {d : Dns} {p pos : Pos} (h1 : bltB c sc x (biN b) = true) (hd : SndS X G W d l) (h2 : l.length = biA b) :
    Snd X G W (Dn.of fun σ h q r => d.a σ h (fun ds h1 => biV C.exm b ds h1 q) r) (.Call (.Name x p) l [] pos) := by
  obtain ⟨e, gl, mg, o1, o2⟩ := blt_ok co h1
  cases l with
  | nil => cases b <;> cases h2
  | cons e0 es =>
    refine snd_of ?_ rfl
    cases b with
    | isi => exact p_biB (c_isi co.gf.exm) gl mg (by rw [e]; decide +kernel) hd.a o2 o1 hd.ns
    | len => exact p_biB c_len gl mg (by rw [e]; decide +kernel) hd.a o2 o1 hd.ns
    | abs => exact p_biB c_abs gl mg (by rw [e]; decide +kernel) hd.a o2 o1 hd.ns
    | int1 => exact p_biT c_int1 gl mg (by rw [e]; decide +kernel) hd.a o2 o1 hd.ns
    | max2 => exact p_biB (c_max2 co.calm) gl mg (by rw [e]; decide +kernel) hd.a o2 o1 hd.ns
    | min2 => exact p_biB (c_min2 co.calm) gl mg (by rw [e]; decide +kernel) hd.a o2 o1 hd.ns
    | max3 => exact p_biB (c_max3 co.calm) gl mg (by rw [e]; decide +kernel) hd.a o2 o1 hd.ns
    | str1 => exact p_biT c_str1 gl mg (by rw [e]; decide +kernel) hd.a o2 o1 hd.ns
    | repr1 => exact p_biB (c_repr co.gd co.u70) gl mg (by rw [e]; decide +kernel) hd.a o2 o1 hd.ns
    | bool1 => exact p_biT (r := biV C.exm .bool1) (id := "bool") (fun _ _ _ _ _ _ _ _ _ ⟨ds, _, _, _, _, hr, _⟩ => by cases ds <;> exact False.elim hr) gl mg (by rw [e]; decide +kernel) hd.a o2 o1 hd.ns
theorem lct_no {f : Value} {r : List D → Gd → HD → VQ → Prop} (h : ∀ xs g h q, ¬ r xs g h q) : CallR X f (lct X.K G r) := fun _ _ _ _ _ _ _ _ _ ⟨_, _, _, _, _, _, _, _, hr, _⟩ => absurd hr (h _ _ _ _)
theorem snd_bl (co : Co X G W C c sc n) {b : BL} {x : Str} {e0 : Expr} {d : Dn} {p pos : Pos} (h1 : bltB c sc x (blN b) = true) (hd : Snd X G W d e0) (h2 : (!isStar e0) = true) :
    Snd X G W (Dn.of fun σ h q r => d.i σ h (fun xs g h1 => blV b xs g h1 q) r) (.Call (.Name x p) [e0] [] pos) := by
  obtain ⟨e, gl, mg, o1, o2⟩ := blt_ok co h1
  refine snd_of ?_ rfl
  cases b with
  | tuple => exact p_blT c_tuple gl mg (by rw [e]; decide +kernel) hd.i o2 o1 h2
  | list => exact p_blT c_list gl mg (by rw [e]; decide +kernel) hd.i o2 o1 h2
  | sum => exact p_blB (c_sum co.calm) gl mg (by rw [e]; decide +kernel) hd.i o2 o1 h2
  | max => exact p_blB (c_max co.calm) gl mg (by rw [e]; decide +kernel) hd.i o2 o1 h2
  | min => exact p_blB (c_min co.calm) gl mg (by rw [e]; decide +kernel) hd.i o2 o1 h2
  | all => exact p_blB (c_all co.calm) gl mg (by rw [e]; decide +kernel) hd.i o2 o1 h2
  | any => exact p_blB (c_any co.calm) gl mg (by rw [e]; decide +kernel) hd.i o2 o1 h2
  | sorted => exact p_blB (c_sorted co.u65 co.u70) gl mg (by rw [e]; decide +kernel) hd.i o2 o1 h2
  | dict => exact p_blT (id := "dict") (lct_no fun _ _ _ _ z => z) gl mg (by rw [e]; decide +kernel) hd.i o2 o1 h2
theorem snd_src (co : Co X G W C c sc n) {k : ItK} {d : Dns} {it tx : Expr} {es : Es} (h : srcOk (fun m => chkEs c sc es m) c sc k tx it = true) (hs : ∀ l, chkEs c sc es l = true → SndS X G W d l) : PI X tx it (liftP X.K G W (srcV k d)) := by
  by_cases hk : k = .seq
  · subst hk
    have s := hs [it] h
    obtain ⟨d', s', e, _⟩ := s.one it rfl
    show PI X tx it (liftP X.K G W fun σ h q r => d.i σ h (fun xs g h1 => g.all Gd.walk = true ∧ q xs g h1) r)
    rw [e]
    exact i_seq s'.i
  · cases it with
    | Call f m ks p => cases f with
      | Name y p2 => cases ks with
        | nil =>
          have h : (bltB c sc y (itN k) && chkEs c sc es m && decide (itA k = some m.length) && (!itT k || isTup tx)) = true := by
            cases k <;> first | exact absurd rfl hk | exact h
          obtain ⟨h, h4⟩ := and2 h
          obtain ⟨h, h3⟩ := and2 h
          obtain ⟨h1, h2⟩ := and2 h
          have s := hs m h2
          have ns := s.ns
          obtain ⟨e, gl, mg, o1, o2⟩ := blt_ok co h1
          have h3 := of_decide_eq_true h3
          cases k with
          | rng1 =>
            match m, h3, s, ns with
            | [a], _, s, ns => subst e; exact i_rng1 gl mg s.a (and2 ns).1
          | rng2 =>
            match m, h3, s, ns with
            | [a, b], _, s, ns => subst e; exact i_rng2 gl mg s.a (and2 ns).1 (and2 (and2 ns).2).1
          | rng3 =>
            match m, h3, s, ns with
            | [a, b, c], _, s, ns => subst e; exact i_rng3 gl mg s.a (and2 ns).1 (and2 (and2 ns).2).1 (and2 (and2 (and2 ns).2).2).1
          | zip2 =>
            cases tx with
            | Tuple el kk tp =>
              match m, h3, s, ns with
              | [a, b], _, s, ns => subst e; exact i_zip2 gl mg s.a (and2 ns).1 (and2 (and2 ns).2).1
            | _ => cases h4
          | zip3 =>
            cases tx with
            | Tuple el kk tp =>
              match m, h3, s, ns with
              | [a, b, c], _, s, ns => subst e; exact i_zip3 gl mg s.a (and2 ns).1 (and2 (and2 ns).2).1 (and2 (and2 (and2 ns).2).2).1
            | _ => cases h4
          | zipS =>
            cases tx with
            | Tuple el kk tp =>
              match m, h3, s, ns with
              | [a, b], _, s, ns => subst e; exact i_zipS gl mg s.a (and2 ns).1 (and2 (and2 ns).2).1
            | _ => cases h4
          | enumT =>
            cases tx with
            | Tuple el kk tp =>
              match m, h3, s, ns with
              | [a], _, s, ns => subst e; exact i_enumT gl mg s.a (and2 ns).1
            | _ => cases h4
          | enum =>
            cases tx with
            | Tuple el kk tp =>
              match m, h3, s, ns with
              | [a], _, s, ns => subst e; exact i_enum gl mg s.a (and2 ns).1
            | _ => cases h4
          | rev =>
            match m, h3, s, ns with
            | [a], _, s, ns =>
              subst e
              obtain ⟨d', s', _, e'⟩ := s.one a rfl
              exact i_rev (te := d'.v) gl mg s'.v e' (and2 ns).1
          | _ => cases h3
        | cons _ _ => cases k <;> first | exact absurd rfl hk | cases h
      | _ => cases k <;> first | exact absurd rfl hk | cases h
    | _ => cases k <;> first | exact absurd rfl hk | cases h
end
end Nd
/-! Nd14: the induction over the small syntax. -/
namespace Nd
open PySem PySem.Spec PyProof.Rows L2
section
variable {C : Ca} {c : Cf}
theorem nno {b : Bool} (h : (!b) = true) : b = false := by cases b <;> first | rfl | cases h
mutual
theorem snd_E : ∀ (t : E) (e : Expr) {X : Cx} {G : Nat → Addr} {W : WX} {sc : Scope} {n : Nat} (co : Co X G W C c sc n), chkE c sc t e = true → Snd X G W (den C t) e
  | .var i, e, X, G, W, sc, n, co, h => by
    cases e with
    | Name x p =>
      obtain ⟨h, h3⟩ := and2 (show (decide (c.N[i]? = some x) && visB sc x && !odd x) = true from h)
      obtain ⟨h1, h2⟩ := and2 h
      exact snd_of (p_var co (of_decide_eq_true h1) h2 h3) rfl
    | _ => cases h
  | .cst d, e, X, G, W, sc, n, co, h => by
    cases e with
    | Constant v k p =>
      cases d with
      | non => cases v with
        | none => exact snd_of (p_con pe_non fun _ => .non) rfl
        | _ => cases h
      | bl b => cases v with
        | bool b' =>
          have e := beq_iff_eq.mp (show (b == b') = true from h)
          subst e
          exact snd_of (p_con pe_bl fun _ => .bl b) rfl
        | _ => cases h
      | int b => cases v with
        | int b' =>
          have e := beq_iff_eq.mp (show (b == b') = true from h)
          subst e
          exact snd_of (p_con pe_int fun _ => .int b) rfl
        | _ => cases h
      | str b => cases v with
        | str b' =>
          obtain ⟨h, h3⟩ := and2 (show (decide (b = b') && decide (b.length ≤ sizeLine) && PyData.strOk b) = true from h)
          obtain ⟨h1, h2⟩ := and2 h
          have e := of_decide_eq_true h1
          subst e
          exact snd_of (p_con pe_str fun _ => .str b ⟨of_decide_eq_true h2, h3⟩) rfl
        | _ => cases h
      | _ => cases h
    | _ => cases d <;> cases h
  | .gl y d, e, X, G, W, sc, n, co, h => by
    cases e with
    | Name x p =>
      obtain ⟨h, h4⟩ := and2 (show (decide (x = y) && gloB sc x && !odd x && (match c.consts.lookup x with
        | some e => dEq d e
        | none => false)) = true from h)
      obtain ⟨h, h3⟩ := and2 h
      obtain ⟨h1, h2⟩ := and2 h
      split at h4
      · rename_i e' he
        have e := dEq_ok h4
        subst e
        exact snd_of (p_gl co h2 h3 he) rfl
      · cases h4
    | _ => cases h
  | .ty m, e, X, G, W, sc, n, co, h => by
    cases e with
    | Name x p =>
      obtain ⟨h1, h2⟩ := and2 (show (tyS m && bltB c sc x (Str.ofString m)) = true from h)
      obtain ⟨e, gl, mg, o1, o2⟩ := blt_ok co h2
      exact snd_of (p_con (pe_bltn (v := .ty m) gl mg (by rw [e]; exact boot_ty h1) rfl o2 o1) fun _ => .ty m) rfl
    | _ => cases h
  | .tup es, e, X, G, W, sc, n, co, h => by
    cases e with
    | Tuple l k p => exact snd_of (p_tup (snd_Es es l co h).a) rfl
    | _ => cases h
  | .lst es, e, X, G, W, sc, n, co, h => by
    cases e with
    | List l p =>
      have s := (snd_Es es l co h).a
      exact ⟨p_lst s, snd_t (p_lst s) rfl, i_lst s⟩
    | _ => cases h
  | .dic ks vs, e, X, G, W, sc, n, co, h => by
    cases e with
    | Dict l m p =>
      obtain ⟨h, h5⟩ := and2 (show (chkKs ks l && chkEs c sc vs m && decide (l.length = m.length) && decide (l.length ≤ 15) && decide (ks.Nodup)) = true from h)
      obtain ⟨h, h4⟩ := and2 h
      obtain ⟨h, h3⟩ := and2 h
      obtain ⟨h1, h2⟩ := and2 h
      by_cases h0 : l = []
      · subst h0
        have hm : m = [] := List.eq_nil_of_length_eq_zero (of_decide_eq_true h3).symm
        subst hm
        cases ks with
        | cons k ks => cases k <;> cases h1
        | nil => cases vs with
          | nil => exact snd_of p_dic0 rfl
          | cons _ _ => cases h2
      · exact snd_of (p_dic (snd_Es vs m co h2) h1 (of_decide_eq_true h3) (of_decide_eq_true h4) (of_decide_eq_true h5) h0) rfl
    | _ => cases h
  | .bin o a b, e, X, G, W, sc, n, co, h => by
    cases e with
    | BinOp x o' y p =>
      obtain ⟨h, h3⟩ := and2 (show (decide (o = o') && chkE c sc a x && chkE c sc b y) = true from h)
      obtain ⟨h1, h2⟩ := and2 h
      have e := of_decide_eq_true h1
      subst e
      exact snd_of (p_bin (snd_E a x co h2).v (snd_E b y co h3).v (opR_ok o)) rfl
    | _ => cases h
  | .neg a, e, X, G, W, sc, n, co, h => by
    cases e with
    | UnaryOp o x p => cases o with
      | USub => exact snd_of (p_neg (snd_E a x co h).v) rfl
      | _ => cases h
    | _ => cases h
  | .cmp o a b, e, X, G, W, sc, n, co, h => by
    cases e with
    | Compare x os ys p =>
      match os, ys, h with
      | [o'], [y], h =>
        obtain ⟨h, h4⟩ := and2 (show (decide (o = o') && chkE c sc a x && chkE c sc b y && !isSet y) = true from h)
        obtain ⟨h, h3⟩ := and2 h
        obtain ⟨h1, h2⟩ := and2 h
        have e := of_decide_eq_true h1
        subst e
        have s1 := (snd_E a x co h2).v
        have s2 := (snd_E b y co h3).v
        exact ⟨p_cmp s1 s2 (cmR_ok co.u65 o) h4, t_cmp s1 s2 (cmR_ok co.u65 o) h4, i_no⟩
    | _ => cases h
  | .chn o o2 a b d, e, X, G, W, sc, n, co, h => by
    cases e with
    | Compare x os ys p =>
      match os, ys, h with
      | [o', p'], [y, z], h =>
        obtain ⟨h, h7⟩ := and2 (show (decide (o = o') && decide (o2 = p') && chkE c sc a x && chkE c sc b y && chkE c sc d z && !isSet y && !isSet z) = true from h)
        obtain ⟨h, h6⟩ := and2 h
        obtain ⟨h, h5⟩ := and2 h
        obtain ⟨h, h4⟩ := and2 h
        obtain ⟨h, h3⟩ := and2 h
        obtain ⟨h1, h2⟩ := and2 h
        have e := of_decide_eq_true h1
        have e' := of_decide_eq_true h2
        subst e e'
        have s1 := (snd_E a x co h3).v
        have s2 := (snd_E b y co h4).v
        have s3 := (snd_E d z co h5).v
        exact ⟨p_chn s1 s2 s3 (cmR_ok co.u65 o) (cmR_ok co.u65 o2) h7, t_chn s1 s2 s3 (cmR_ok co.u65 o) (cmR_ok co.u65 o2) h7, i_no⟩
    | _ => cases h
  | .nt a, e, X, G, W, sc, n, co, h => by
    cases e with
    | UnaryOp o x p => cases o with
      | Not =>
        have s := snd_E a x co h
        exact ⟨p_not s.v, t_not s.t, i_no⟩
      | _ => cases h
    | _ => cases h
  | .an es, e, X, G, W, sc, n, co, h => by
    cases e with
    | BoolOp o l p => cases o with
      | And =>
        obtain ⟨h1, h2⟩ := and2 (show (chkEs c sc es l && decide (2 ≤ l.length)) = true from h)
        have s := snd_Es es l co h1
        have hl := of_decide_eq_true h2
        have ne : l ≠ [] := fun z => by subst z; cases hl
        exact ⟨s.an ne p, (s.ant ne p).pt, s.ani hl p⟩
      | Or => cases h
    | _ => cases h
  | .or es, e, X, G, W, sc, n, co, h => by
    cases e with
    | BoolOp o l p => cases o with
      | And => cases h
      | Or =>
        obtain ⟨h1, h2⟩ := and2 (show (chkEs c sc es l && decide (2 ≤ l.length)) = true from h)
        have s := snd_Es es l co h1
        have hl := of_decide_eq_true h2
        have ne : l ≠ [] := fun z => by subst z; cases hl
        exact ⟨s.or ne p, (s.ort ne p).pt, s.ori hl p⟩
    | _ => cases h
  | .ife t a b, e, X, G, W, sc, n, co, h => by
    cases e with
    | IfExp x y z p =>
      obtain ⟨h, h3⟩ := and2 (show (chkE c sc t x && chkE c sc a y && chkE c sc b z) = true from h)
      obtain ⟨h1, h2⟩ := and2 h
      have v := p_ife (pos := p) (snd_E t x co h1).t (snd_E a y co h2).v (snd_E b z co h3).v
      exact ⟨v, pt_false fun _ _ _ ⟨_, _, _, _, _, _, f, _⟩ => f, snd_i v⟩
    | _ => cases h
  | .sub a i, e, X, G, W, sc, n, co, h => by
    cases e with
    | Subscript x y p =>
      have h : (chkE c sc a x && chkE c sc i y && !isSlice y) = true := h
      obtain ⟨h, h3⟩ := and2 h
      obtain ⟨h1, h2⟩ := and2 h
      exact snd_of (p_sub (by have := co.u65; omega) (snd_E a x co h1).v (snd_E i y co h2).v h3) rfl
    | _ => cases h
  | .sl0 a, e, X, G, W, sc, n, co, h => by
    cases e with
    | Subscript x y p => cases y with
      | Slice l u s p2 => cases l with
        | none => cases u with
          | none => cases s with
            | none => exact snd_of (p_sl0 (snd_E a x co h).v) rfl
            | some _ => cases h
          | some _ => cases s <;> cases h
        | some _ => cases u <;> cases s <;> cases h
      | _ => cases h
    | _ => cases h
  | .slL a lo, e, X, G, W, sc, n, co, h => by
    cases e with
    | Subscript x y p => cases y with
      | Slice l u s p2 => cases l with
        | none => cases u <;> cases s <;> cases h
        | some l => cases u with
          | none => cases s with
            | none =>
              obtain ⟨h1, h2⟩ := and2 (show (chkE c sc a x && chkE c sc lo l) = true from h)
              exact snd_of (p_slL (snd_E a x co h1).v (snd_E lo l co h2).v) rfl
            | some _ => cases h
          | some _ => cases s <;> cases h
      | _ => cases h
    | _ => cases h
  | .slU a hi, e, X, G, W, sc, n, co, h => by
    cases e with
    | Subscript x y p => cases y with
      | Slice l u s p2 => cases l with
        | some _ => cases u <;> cases s <;> cases h
        | none => cases u with
          | some u => cases s with
            | none =>
              obtain ⟨h1, h2⟩ := and2 (show (chkE c sc a x && chkE c sc hi u) = true from h)
              exact snd_of (p_slU (snd_E a x co h1).v (snd_E hi u co h2).v) rfl
            | some _ => cases h
          | none => cases s <;> cases h
      | _ => cases h
    | _ => cases h
  | .slB a lo hi, e, X, G, W, sc, n, co, h => by
    cases e with
    | Subscript x y p => cases y with
      | Slice l u s p2 => cases l with
        | none => cases u <;> cases s <;> cases h
        | some l => cases u with
          | some u => cases s with
            | none =>
              obtain ⟨h, h3⟩ := and2 (show (chkE c sc a x && chkE c sc lo l && chkE c sc hi u) = true from h)
              obtain ⟨h1, h2⟩ := and2 h
              exact snd_of (p_slB (snd_E a x co h1).v (snd_E lo l co h2).v (snd_E hi u co h3).v) rfl
            | some _ => cases h
          | none => cases s <;> cases h
      | _ => cases h
    | _ => cases h
  | .rvs a, e, X, G, W, sc, n, co, h => by
    cases e with
    | Subscript x y p =>
      match y, h with
      | .Slice none none (some (.UnaryOp .USub (.Constant (.int k) j p1) p2)) p3, h =>
        obtain ⟨h1, h2⟩ := and2 (show (decide (k = 1) && chkE c sc a x) = true from h)
        have h1 := of_decide_eq_true h1
        subst h1
        exact snd_of (p_rvs (snd_E a x co h2).v) rfl
    | _ => cases h
  | .attr a f, e, X, G, W, sc, n, co, h => snd_bad
  | .call f es, e, X, G, W, sc, n, co, h => by
    cases e with
    | Call g l ks p => cases g with
      | Name x p2 => cases ks with
        | nil =>
          have h : (gloB sc x && !odd x && decide (c.fns.lookup x = some f) && chkEs c sc es l) = true := h
          obtain ⟨h, h4⟩ := and2 h
          obtain ⟨h, h3⟩ := and2 h
          obtain ⟨h1, h2⟩ := and2 h
          have s := snd_Es es l co h4
          cases l with
          | nil =>
            cases es with
            | nil => exact snd_of (p_call0 co h1 h2 (of_decide_eq_true h3)) rfl
            | cons _ _ => cases h4
          | cons e0 l => exact snd_of (p_call co h1 h2 (of_decide_eq_true h3) s.a s.ns) rfl
        | cons _ _ => cases h
      | _ => cases h
    | _ => cases h
  | .callv i es, e, X, G, W, sc, n, co, h => by
    cases e with
    | Call g l ks p => cases g with
      | Name x p2 => cases ks with
        | nil =>
          have h : (decide (c.N[i]? = some x) && visB sc x && !odd x && decide (1 ≤ l.length) && chkEs c sc es l) = true := h
          obtain ⟨h, h5⟩ := and2 h
          obtain ⟨h, h4⟩ := and2 h
          obtain ⟨h, h3⟩ := and2 h
          obtain ⟨h1, h2⟩ := and2 h
          have s := snd_Es es l co h5
          cases l with
          | nil => exact absurd (of_decide_eq_true h4) (by decide)
          | cons e0 l => exact snd_of (p_callv co (of_decide_eq_true h1) h2 h3 s.a s.ns) rfl
        | cons _ _ => cases h
      | _ => cases h
    | _ => cases h
  | .mk k es, e, X, G, W, sc, n, co, h => snd_bad
  | .meth o m es, e, X, G, W, sc, n, co, h => snd_bad
  | .bi b es, e, X, G, W, sc, n, co, h => by
    cases e with
    | Call g l ks p => cases g with
      | Name x p2 => cases ks with
        | nil =>
          have h : (bltB c sc x (biN b) && chkEs c sc es l && decide (l.length = biA b)) = true := h
          obtain ⟨h, h3⟩ := and2 h
          obtain ⟨h1, h2⟩ := and2 h
          exact snd_bi co h1 (snd_Es es l co h2) (of_decide_eq_true h3)
        | cons _ _ => cases h
      | _ => cases h
    | _ => cases h
  | .bl b a, e, X, G, W, sc, n, co, h => by
    cases e with
    | Call g l ks p => cases g with
      | Name x p2 =>
        match l, ks, h with
        | [z], [], h =>
          have h : (bltB c sc x (blN b) && chkE c sc a z && !isStar z) = true := h
          obtain ⟨h, h3⟩ := and2 h
          obtain ⟨h1, h2⟩ := and2 h
          exact snd_bl co h1 (snd_E a z co h2) h3
      | _ => cases h
    | _ => cases h
  | .lset b a, e, X, G, W, sc, n, co, h => snd_bad
  | .bm m o es, e, X, G, W, sc, n, co, h => by
    cases e with
    | Call g l ks p => cases g with
      | Attribute x f ap => cases ks with
        | nil =>
          have h : (bmOk m && decide (f = bmN m) && chkE c sc o x && chkEs c sc es l && decide (l.length = bmA m) && (ap.endLine == p.line) && !isCall0 x) = true := h
          obtain ⟨h, h7⟩ := and2 h
          obtain ⟨h, h6⟩ := and2 h
          obtain ⟨h, h5⟩ := and2 h
          obtain ⟨h, h4⟩ := and2 h
          obtain ⟨h, h3⟩ := and2 h
          obtain ⟨h1, h2⟩ := and2 h
          have so := (snd_E o x co h3).v
          have ss := snd_Es es l co h4
          have h5 := of_decide_eq_true h5
          have h2 := of_decide_eq_true h2
          cases m with
          | append =>
            subst h2
            match l, h5, h4, ss with
            | [e1], _, h4, ss =>
              cases es with
              | nil => cases h4
              | cons t ts => cases ts with
                | cons _ _ => exact absurd (and2 h4).2 (fun z => by cases z)
                | nil =>
                  obtain ⟨q, _⟩ := and2 (show (chkE c sc t e1 && !isStar e1 && chkEs c sc .nil []) = true from h4)
                  obtain ⟨q1, q2⟩ := and2 q
                  exact snd_of (p_append so (snd_E t e1 co q1).v h7 q2 h6) rfl
          | count =>
            subst h2
            match l, h5, h4, ss with
            | [e1], _, h4, ss =>
              cases es with
              | nil => cases h4
              | cons t ts => cases ts with
                | cons _ _ => exact absurd (and2 h4).2 (fun z => by cases z)
                | nil =>
                  obtain ⟨q, _⟩ := and2 (show (chkE c sc t e1 && !isStar e1 && chkEs c sc .nil []) = true from h4)
                  obtain ⟨q1, q2⟩ := and2 q
                  exact snd_of (p_lm1 PySem.F.plainAttrs_list PySem.F.slot_list_count rfl PySem.F.type_list_count (m_count co.u65) (fun d h z => by
                    unfold bmT at z
                    split at z <;> first | contradiction | skip
                    all_goals (first | (split at z <;> first | contradiction | exact ⟨_, _, rfl, by assumption⟩) | exact z.elim)) so (snd_E t e1 co q1).v h7 q2 h6) rfl
          | index =>
            subst h2
            match l, h5, h4, ss with
            | [e1], _, h4, ss =>
              cases es with
              | nil => cases h4
              | cons t ts => cases ts with
                | cons _ _ => exact absurd (and2 h4).2 (fun z => by cases z)
                | nil =>
                  obtain ⟨q, _⟩ := and2 (show (chkE c sc t e1 && !isStar e1 && chkEs c sc .nil []) = true from h4)
                  obtain ⟨q1, q2⟩ := and2 q
                  exact snd_of (p_lm1 PySem.F.plainAttrs_list PySem.F.slot_list_index rfl PySem.F.type_list_index (m_index co.u65) (fun d h z => by
                    unfold bmT at z
                    split at z <;> first | contradiction | skip
                    all_goals (first | (split at z <;> first | contradiction | exact ⟨_, _, rfl, by assumption⟩) | exact z.elim)) so (snd_E t e1 co q1).v h7 q2 h6) rfl
          | pop0 =>
            subst h2
            match l, h5, h4, ss with
            | [], _, h4, ss =>
              cases es with
              | cons _ _ => cases h4
              | nil => exact snd_of (p_pop0 so h7 h6) rfl
          | _ => cases h1
        | cons _ _ => cases h
      | _ => cases h
    | _ => cases h
  | .comp k es tg own ifs a, e, X, G, W, sc, n, co, h => by
    cases e with
    | ListComp x gs scope p =>
      match gs, h with
      | [⟨t, it, l, 0⟩], h =>
        obtain ⟨h, h8⟩ := and2 (show (blkC c.N sc scope (ownOf c own) && (tgSlots tg).all (fun i => decide (i ∈ own)) && chkTg c scope tg t && chkEs c scope ifs l && decide (l.length ≤ 1) && chkE c scope a x && !isSet it && srcOk (fun m => chkEs c sc es m) c sc k t it) = true from h)
        obtain ⟨h, h7⟩ := and2 h
        obtain ⟨h, h6⟩ := and2 h
        obtain ⟨h, h5⟩ := and2 h
        obtain ⟨h, h4⟩ := and2 h
        obtain ⟨h, h3⟩ := and2 h
        obtain ⟨h1, h2⟩ := and2 h
        refine snd_comp co ⟨snd_src co h8 fun l hl => snd_Es es l co hl, blk_ok co h1, fun i hi => of_decide_eq_true (List.all_eq_true.mp h2 i hi), ?_, ?_, ?_, ?_, h7⟩
        · exact tgG_run tg
        · exact fun s H C' cl fp => (tg_okG (co_blk co scope s H C' cl fp) h3).pg
        · exact fun s H C' cl fp => (snd_Es ifs l (co_blk co scope s H C' cl fp) h4).pts (of_decide_eq_true h5)
        · exact fun s H C' cl fp => (snd_E a x (co_blk co scope s H C' cl fp) h6).v
    | _ => cases h
theorem snd_Es : ∀ (t : Es) (l : List Expr) {X : Cx} {G : Nat → Addr} {W : WX} {sc : Scope} {n : Nat} (co : Co X G W C c sc n), chkEs c sc t l = true → SndS X G W (dens C t) l
  | .nil, l, X, G, W, sc, n, co, h => by
    cases l with
    | nil => exact ⟨rfl, a_nil, fun z => absurd rfl z, fun z => absurd rfl z, fun z => absurd rfl z, fun z => absurd rfl z, fun z => absurd z (by decide), fun z => absurd z (by decide),
        fun _ => ⟨fun pins s σ H Q I ⟨a, hh, q, r, rs, rh, ht, k, kx⟩ => pts_nil.run pins s σ H Q I (k _ _ _ Fx.refl rh ht)⟩, fun pos ks keys h1 h2 => pp_nil pos ks keys h1 h2, fun e z => nomatch z⟩
    | cons _ _ => cases h
  | .cons t .nil, l, X, G, W, sc, n, co, h => by
    cases l with
    | nil => cases h
    | cons e l => cases l with
      | cons _ _ => exact absurd (and2 h).2 (fun z => by cases z)
      | nil =>
        obtain ⟨h, _⟩ := and2 (show (chkE c sc t e && !isStar e && chkEs c sc .nil []) = true from h)
        obtain ⟨h1, h2⟩ := and2 h
        have s := snd_E t e co h1
        refine ⟨by show ((!isStar e) && true) = true; rw [h2]; rfl, a_cons s.v a_nil h2, fun _ _ => pe_one s.v, fun _ _ => pw_and1 s.t, fun _ _ => pe_one s.v, fun _ _ => pw_or1 s.t, fun z => absurd z (by show ¬ (2 ≤ 1); omega), fun z => absurd z (by show ¬ (2 ≤ 1); omega),
          fun _ => pts_one s.t, fun pos ks keys h1 h2 => pp_cons s.v (fun pos ks keys h1 h2 => pp_nil pos ks keys h1 h2) pos ks keys h1 h2, fun e' z => ?_⟩
        cases z
        exact ⟨_, s, rfl, rfl⟩
  | .cons t (.cons t2 ts), l, X, G, W, sc, n, co, h => by
    cases l with
    | nil => cases h
    | cons e l =>
      obtain ⟨h, h3⟩ := and2 (show (chkE c sc t e && !isStar e && chkEs c sc (.cons t2 ts) l) = true from h)
      obtain ⟨h1, h2⟩ := and2 h
      have s := snd_E t e co h1
      have ss := snd_Es (.cons t2 ts) l co h3
      cases l with
      | nil => cases h3
      | cons e2 l =>
        have ne : (e2 :: l) ≠ [] := fun z => nomatch z
        exact ⟨by show ((!isStar e) && noStar (e2 :: l)) = true; rw [h2, ss.ns]; rfl, a_cons s.v ss.a h2, fun _ pos => p_and s.v (ss.an ne pos), fun _ pos => w_and s.t (ss.ant ne pos), fun _ pos => p_or s.v (ss.or ne pos), fun _ pos => w_or s.t (ss.ort ne pos),
          fun _ pos => i_no, fun _ pos => i_no, fun z => absurd z (by show ¬ (l.length + 1 + 1 ≤ 1); omega), fun pos ks keys h1 h2 => pp_cons s.v ss.pp pos ks keys h1 (by simpa using h2), fun e' z => nomatch z⟩
end
end
end Nd
/-! Nd15: statements, whole programs. -/
namespace Nd
open PySem PySem.Spec PyProof.Rows L2
section
variable {C : Ca} {c : Cf}
/-- a body's frame -/
structure Bo (X : Cx) : Prop where
  po : PassesOwn (model X.prog X.w) X.A X.env X.xe
  hs : X.stack = X.env :: X.outer
  hf : X.env.frame = some X.env.locals
  hex : X.ex = []
  blk : X.env.blockKind = .function
theorem Co.tr {X : Cx} {G : Nat → Addr} {W W' : WX} {sc : Scope} {n : Nat} (co : Co X G W C c sc n) {pn : List (Addr × Obj)} {xe : Value → Shared → Prop} (tk : Takes (X.tr pn xe) W') : Co (X.tr pn xe) G W' C c sc n where
  hN := co.hN
  nd := co.nd
  env := ⟨co.env.loc, co.env.cell, co.env.free, co.env.glo⟩
  calm := co.calm
  room := co.room
  gd := co.gd
  tk := tk
  gf := ⟨co.gf.blt, co.gf.consts, fun x f h => ⟨(co.gf.fns x f h).1, (co.gf.fns x f h).2.ok, (co.gf.fns x f h).2.kp⟩, fun x g h => ⟨(co.gf.cls x g h).1, (co.gf.cls x g h).2.ex, (co.gf.cls x g h).2.kp, (co.gf.cls x g h).2.sub, (co.gf.cls x g h).2.ty⟩, co.gf.exm, fun g h => ⟨(co.gf.fv g h).ok, (co.gf.fv g h).kp⟩⟩
theorem s_try {X : Cx} {G : Nat → Addr} {W : WX} {sc : Scope} {n : Nat} (co : Co X G W C c sc n) (bo : Bo X) {x m y : Str} {g i j : Nat} {body : List Stmt} {tb : TSD} {np ap yp p2 pos pos' : Pos} (h1 : gloB sc x = true) (h2 : (!odd x) = true) (h3 : c.cls.lookup x = some g)
    (h4 : c.N[i]? = some m) (h5 : onlyLoc sc m = true) (h6 : (!odd m) = true) (h7 : c.N[j]? = some y) (h8 : locB sc y = true) (h9 : i ≠ j) (hg : g ≠ 1000000)
    (hb : ∀ (W' : WX) (pn : List (Addr × Obj)) (xe : Value → Shared → Prop), Takes (X.tr pn xe) W' → PassesOwn (model X.prog X.w) X.A X.env xe → PSs (X.tr pn xe) body (liftS X.K G W' tb)) :
    PS X (.Try body [.ExceptHandler (some (.Name x np)) (some m) [.Assign [.Name y yp] (.Name m ap) p2] pos'] [] [] pos)
      (liftS X.K G W fun D σ h => tb { D with ex := fun c σ' h' => exmK (C.exm c g) (fun _ => ∀ a, h' a = none → D.nx ((σ'.set j (some (.exc c a))).set i none) h') fun _ => D.ex c σ' h' } σ h) := by
  obtain ⟨l1, l2⟩ := loc_ok co.env h8
  have hm : X.env.kindOf m = some .local := by
    unfold onlyLoc at h5
    split at h5
    · rename_i q; exact co.env.loc m q
    · cases h5
  refine PS.imp (p_try (i := i) (j := j) (tb := fun W' => liftS X.K G W' tb) bo.hs bo.hf bo.hex co.nd (by rw [co.hN]; exact h4) hm (by rw [co.hN]; exact h7) l1 l2 h9 (odd_no h6).1 (odd_no h6).2.1 ⟨glo_ok co.env h1, (odd_no h2).1, .inl (co.gf.cls x g h3).1⟩ co.tk hb) ?_
  rintro D σ H ⟨a, h, Z, rs, rh, ht, k⟩
  refine ⟨a, h, _, rs, rh, ht, k.nx, k.rt, k.bk, k.ct, fun e a' h' σ' H' fx rs' rh' z => ?_⟩
  rcases exmK_cases (o := C.exm e g) (y := fun _ => ∀ p, h' p = none → Z.nx ((a'.set j (some (.exc e p))).set i none) h') (n := fun _ => Z.ex e a' h') z with ⟨ee, z⟩ | ⟨ee, z⟩
  · obtain ⟨_, _, q⟩ := co.gf.exm _ _ _ ee
    exact ⟨true, (q hg).2, fun _ => ⟨rfl, fun p np => k.nx _ h' _ _ (fx.trans (Fx.new np)) (((rs'.ext (Ext.new np)).set j (.exc upd_same)).clr i) (rh'.hid np) (z p (rh'.none_of np))⟩, fun q => by cases q⟩
  · obtain ⟨_, _, q⟩ := co.gf.exm _ _ _ ee
    exact ⟨false, (q hg).2, (fun q => by cases q), fun _ => k.ex e a' h' σ' H' fx rs' rh' z⟩
theorem s_par {X : Cx} {G : Nat → Addr} {W : WX} {sc : Scope} {n : Nat} (co : Co X G W C c sc n) (bo : Bo X) {x y : Str} {px py pt pt2 pos : Pos} {kt k2 i j : Nat} {a b : Expr} {ta tb : TED} (h1 : c.N[i]? = some x) (h2 : c.N[j]? = some y) (h3 : i ≠ j) (ho : parOk sc x y px py a b = true)
    (ha : PE X a (lift X.K G W ta)) (hb : PE X b (lift X.K G W tb)) : PS X (.Assign [.Tuple [.Name x px, .Name y py] kt pt] (.Tuple [a, b] k2 pt2) pos)
      (liftS X.K G W fun D σ h => ta σ h (fun d h1 => tb σ h1 (fun e h2 => D.nx ((σ.set i (some d)).set j (some e)) h2) fun x h' => D.ex x σ h') fun x h' => D.ex x σ h') := by
  have loc : ∀ z, onlyLoc sc z = true → X.env.scope.names.lookup z = some .local := fun z hz => by
    unfold onlyLoc at hz
    split at hz
    · rename_i q; exact co.env.loc z q
    · cases hz
  have ho' := ho
  unfold parOk at ho'
  simp only [Bool.and_eq_true] at ho'
  obtain ⟨⟨⟨⟨⟨⟨⟨o1, o2⟩, _⟩, _⟩, o5⟩, o6⟩, _⟩, _⟩ := ho'
  refine PS.imp (ps_par (i := i) (j := j) co.calm co.nd (by rw [co.hN]; exact h1) (by rw [co.hN]; exact h2) h3 (loc x o1) (loc y o2) (a_cons ha (a_cons hb a_nil o6) o5) (sw_par bo.blk (loc x o1) (loc y o2) ho)) ?_
  rintro D σ H ⟨s, h, Z, rs, rh, ht, k⟩
  refine ⟨s, h, (fun ds h2 => match ds with
    | [d, e] => Z.nx ((s.set i (some d)).set j (some e)) h2
    | _ => False), _, rs, rh, ht, fun ds h1 vs H1 fx rd rh1 hq => ?_, k.cx rs⟩
  match ds, rd, hq with
  | [d, e], rd, hq =>
    obtain ⟨v, w, rfl, r1, r2⟩ := rds2 rd
    exact ⟨v, w, rfl, k.nx _ _ _ _ fx (((rs.ext fx.ext).set i r1).set j r2) rh1 hq⟩
theorem ps_false {X : Cx} {G : Nat → Addr} {W : WX} {st : Stmt} : PS X st (liftS X.K G W fun _ _ _ => False) := ⟨fun _ _ _ _ _ _ ⟨_, _, _, _, _, f, _⟩ => f.elim⟩
mutual
theorem snd_S : ∀ (t : S) (st : Stmt) {X : Cx} {G : Nat → Addr} {W : WX} {sc : Scope} {n : Nat} (co : Co X G W C c sc n) (bo : Bo X), chkS c sc t st = true → PS X st (liftS X.K G W (denS C t))
  | .pass, st, X, G, W, sc, n, co, bo, h => by cases st <;> first | exact s_pass | cases h
  | .doc, st, X, G, W, sc, n, co, bo, h => by
    cases st with
    | Expr e p => cases e with
      | Constant v k p2 => cases v with
        | str x => exact s_doc
        | _ => cases h
      | _ => cases h
    | _ => cases h
  | .brk, st, X, G, W, sc, n, co, bo, h => by cases st <;> first | exact s_brk | cases h
  | .cnt, st, X, G, W, sc, n, co, bo, h => by cases st <;> first | exact s_cnt | cases h
  | .ex e, st, X, G, W, sc, n, co, bo, h => by
    cases st with
    | Expr x p =>
      obtain ⟨h1, h2⟩ := and2 (show (chkE c sc e x && !isComp x) = true from h)
      exact s_ex (snd_E e x co h1).v h2
    | _ => cases h
  | .ret e, st, X, G, W, sc, n, co, bo, h => by
    cases st with
    | Return x p => cases x with
      | none => cases h
      | some x => exact s_ret (snd_E e x co h).v
    | _ => cases h
  | .retN, st, X, G, W, sc, n, co, bo, h => by
    cases st with
    | Return x p => cases x with
      | none => exact s_retN
      | some x => cases h
    | _ => cases h
  | .set i e, st, X, G, W, sc, n, co, bo, h => by
    cases st with
    | Assign ts x p =>
      match ts, h with
      | [.Name y py], h =>
        obtain ⟨h, h4⟩ := and2 (show (decide (c.N[i]? = some y) && locB sc y && chkE c sc e x && setOk sc y py x) = true from h)
        obtain ⟨h, h3⟩ := and2 h
        obtain ⟨h1, h2⟩ := and2 h
        have h1 := of_decide_eq_true h1
        by_cases hc : isComp x = true
        · cases x with
          | ListComp x0 gs scope xp =>
            obtain ⟨h4, k3⟩ := and2 (show (onlyLoc sc y && (py.line == xp.line) && !(scope.names.any fun (n, k) => n == y && (k == .local || k == .cell))) = true from h4)
            obtain ⟨k1, k2⟩ := and2 h4
            clear h4
            cases e with
            | comp k es tg own ifs a =>
              match gs, h3 with
              | [⟨t, it, l, 0⟩], h3 =>
                obtain ⟨h, g8⟩ := and2 (show (blkC c.N sc scope (ownOf c own) && (tgSlots tg).all (fun i => decide (i ∈ own)) && chkTg c scope tg t && chkEs c scope ifs l && decide (l.length ≤ 1) && chkE c scope a x0 && !isSet it && srcOk (fun m => chkEs c sc es m) c sc k t it) = true from h3)
                obtain ⟨h, g7⟩ := and2 h
                obtain ⟨h, g6⟩ := and2 h
                obtain ⟨h, g5⟩ := and2 h
                obtain ⟨h, g4⟩ := and2 h
                obtain ⟨h, g3⟩ := and2 h
                obtain ⟨g1, g2⟩ := and2 h
                exact s_setC co h1 k1 ⟨snd_src co g8 fun l hl => snd_Es es l co hl, blk_ok co g1, fun i hi => of_decide_eq_true (List.all_eq_true.mp g2 i hi), tgG_run tg, fun s H C' cl fp => (tg_okG (co_blk co scope s H C' cl fp) g3).pg,
                  fun s H C' cl fp => (snd_Es ifs l (co_blk co scope s H C' cl fp) g4).pts (of_decide_eq_true g5), fun s H C' cl fp => (snd_E a x0 (co_blk co scope s H C' cl fp) g6).v, g7⟩ k2 (nno k3)
            | cst d => cases d <;> cases h3
            | _ => cases h3
          | SetComp a b sc' d => cases h4
          | DictComp a b c' d e' => cases h4
          | _ => cases hc
        · have hc : (!isComp x) = true := by rw [Bool.not_eq_true] at hc; rw [hc]; rfl
          exact s_set co h1 h2 (snd_E e x co h3).v hc
    | _ => cases h
  | .setT l e, st, X, G, W, sc, n, co, bo, h => by
    cases st with
    | Assign ts x p =>
      match ts, h with
      | [.Tuple es k q], h =>
        obtain ⟨h, h4⟩ := and2 (show (chkTg c sc l (.Tuple es k q) && chkE c sc e x && !isComp x && (!isTup x || cellIn sc es)) = true from h)
        obtain ⟨h, h3⟩ := and2 h
        obtain ⟨h1, h2⟩ := and2 h
        exact s_setT co h1 (snd_E e x co h2).v h3 h4
    | _ => cases h
  | .par i j a b, st, X, G, W, sc, n, co, bo, h => by
    have k0 : (match parP st with
      | some (x, px, y, py, e1, e2) => decide (c.N[i]? = some x) && decide (c.N[j]? = some y) && decide (i ≠ j) && parOk sc x y px py e1 e2 && chkE c sc a e1 && chkE c sc b e2
      | none => false) = true := h
    cases e : parP st with
    | none => rw [e] at k0; cases k0
    | some q =>
      obtain ⟨x, px, y, py, e1, e2⟩ := q
      rw [e] at k0
      obtain ⟨kt, pt, k2, pt2, pos, rfl⟩ := parP_ok e
      obtain ⟨k0, k6⟩ := and2 k0
      obtain ⟨k0, k5⟩ := and2 k0
      obtain ⟨k0, k4⟩ := and2 k0
      obtain ⟨k0, k3⟩ := and2 k0
      obtain ⟨k1, k2'⟩ := and2 k0
      exact s_par co bo (of_decide_eq_true k1) (of_decide_eq_true k2') (of_decide_eq_true k3) k4 (snd_E a e1 co k5).v (snd_E b e2 co k6).v
  | .setS o i e, st, X, G, W, sc, n, co, bo, h => by
    cases st with
    | Assign ts z p =>
      match ts, h with
      | [.Subscript x y q], h =>
        obtain ⟨h, h4⟩ := and2 (show (chkE c sc e z && chkE c sc o x && chkE c sc i y && !isSlice y) = true from h)
        obtain ⟨h, h3⟩ := and2 h
        obtain ⟨h1, h2⟩ := and2 h
        exact s_setS (by have := co.u65; omega) h4 (snd_E e z co h1).v (snd_E o x co h2).v (snd_E i y co h3).v
    | _ => cases h
  | .setA o f e, st, X, G, W, sc, n, co, bo, h => by cases st <;> cases h
  | .aug i op e, st, X, G, W, sc, n, co, bo, h => by
    cases st with
    | AugAssign t o x p => cases t with
      | Name y q =>
        obtain ⟨h, h4⟩ := and2 (show (decide (op = o) && decide (c.N[i]? = some y) && locB sc y && chkE c sc e x) = true from h)
        obtain ⟨h, h3⟩ := and2 h
        obtain ⟨h1, h2⟩ := and2 h
        have e1 := of_decide_eq_true h1
        subst e1
        exact s_aug co (of_decide_eq_true h2) h3 (snd_E e x co h4).v
      | _ => cases h
    | _ => cases h
  | .ite t a b, st, X, G, W, sc, n, co, bo, h => by
    cases st with
    | If x l m p =>
      obtain ⟨h, h3⟩ := and2 (show (chkE c sc t x && chkB c sc a l && chkB c sc b m) = true from h)
      obtain ⟨h1, h2⟩ := and2 h
      exact s_ite (snd_E t x co h1).t (snd_B a l co bo h2) (snd_B b m co bo h3)
    | _ => cases h
  | .whl t b, st, X, G, W, sc, n, co, bo, h => by
    cases st with
    | While x l m p => cases m with
      | nil =>
        obtain ⟨h1, h2⟩ := and2 (show (chkE c sc t x && chkB c sc b l) = true from h)
        exact s_whl bo.po (snd_E t x co h1).t (snd_B b l co bo h2)
      | cons _ _ => cases h
    | _ => cases h
  | .for_ k es tg b, st, X, G, W, sc, n, co, bo, h => by
    cases st with
    | For t it l m p => cases m with
      | nil =>
        obtain ⟨h, h4⟩ := and2 (show (chkTg c sc tg t && chkB c sc b l && !isSet it && srcOk (fun m => chkEs c sc es m) c sc k t it) = true from h)
        obtain ⟨h, h3⟩ := and2 h
        obtain ⟨h1, h2⟩ := and2 h
        exact s_for bo.po co.calm (tg_okG co h1) (snd_src co h4 fun l hl => snd_Es es l co hl) (snd_B b l co bo h2) h3
      | cons _ _ => cases h
    | _ => cases h
  | .try_ b g i j, st, X, G, W, sc, n, co, bo, h => by
    have k0 : (match tryP st with
      | some (body, x, n, y) => chkB c sc b body && (gloB sc x && !odd x && decide (c.cls.lookup x = some g)) && (decide (c.N[i]? = some n) && onlyLoc sc n && !odd n) && (decide (c.N[j]? = some y) && locB sc y && decide (i ≠ j) && decide (g ≠ 1000000))
      | none => false) = true := h
    cases e : tryP st with
    | none => rw [e] at k0; cases k0
    | some q =>
      obtain ⟨body, x, m, y⟩ := q
      rw [e] at k0
      obtain ⟨np, yp, ap, p2, pos', pos, rfl⟩ := tryP_ok e
      obtain ⟨k0, k3⟩ := and2 k0
      obtain ⟨k0, k2⟩ := and2 k0
      obtain ⟨hB, k1⟩ := and2 k0
      obtain ⟨k1, a3⟩ := and2 k1
      obtain ⟨a1, a2⟩ := and2 k1
      obtain ⟨k2, b3⟩ := and2 k2
      obtain ⟨b1, b2⟩ := and2 k2
      obtain ⟨k3, c4⟩ := and2 k3
      obtain ⟨k3, c3⟩ := and2 k3
      obtain ⟨c1, c2⟩ := and2 k3
      exact s_try co bo a1 a2 (of_decide_eq_true a3) (of_decide_eq_true b1) b2 b3 (of_decide_eq_true c1) c2 (of_decide_eq_true c3) (of_decide_eq_true c4) fun W' pn xe tk po' => snd_B b body (co.tr tk) ⟨po', bo.hs, bo.hf, bo.hex, bo.blk⟩ hB
  | .raise g, st, X, G, W, sc, n, co, bo, h => by
    cases st with
    | Raise e ca p =>
      match e, ca, h with
      | some (.Call (.Name x p1) [.Constant (.str m) j p2] [] p3), none, h =>
        obtain ⟨h, h3⟩ := and2 (show (gloB sc x && !odd x && decide (c.cls.lookup x = some g)) = true from h)
        obtain ⟨h1, h2⟩ := and2 h
        exact s_raise co h1 h2 (of_decide_eq_true h3)
    | _ => cases h
theorem snd_B : ∀ (t : B) (l : List Stmt) {X : Cx} {G : Nat → Addr} {W : WX} {sc : Scope} {n : Nat} (co : Co X G W C c sc n) (bo : Bo X), chkB c sc t l = true → PSs X l (liftS X.K G W (denB C t))
  | .nil, l, X, G, W, sc, n, co, bo, h => by
    cases l with
    | nil => exact b_nil
    | cons _ _ => cases h
  | .cons s .nil, l, X, G, W, sc, n, co, bo, h => by
    cases l with
    | nil => cases h
    | cons st l => cases l with
      | cons _ _ => exact absurd (and2 h).2 (fun z => by cases z)
      | nil => exact b_one (snd_S s st co bo (and2 (show (chkS c sc s st && chkB c sc .nil []) = true from h)).1)
  | .cons s (.cons s2 b), l, X, G, W, sc, n, co, bo, h => by
    cases l with
    | nil => cases h
    | cons st l =>
      obtain ⟨h1, h2⟩ := and2 (show (chkS c sc s st && chkB c sc (.cons s2 b) l) = true from h)
      exact b_cons (t := denS C s) (u := denB C (.cons s2 b)) (snd_S s st co bo h1) (snd_B (.cons s2 b) l co bo h2)
end
end
/-! ### whole programs -/
/-- one def -/
structure Fd where
  at_ : Str × Option Str
  name : Str
  qual : Str
  params : Arguments
  stmts : List Stmt
  scope : Scope
  ps : List Str
  N : List Str
  body : B
/-- a program -/
structure Pr where
  fns : List (Nat × Fd)
  consts : List (Str × D)
  names : List (Str × Nat)
  cls : List (Str × Nat)
  blt : List Str
  gl : List (Nat × (Str × Option Str))
  exl : List ((Nat × Nat) × Bool)
def Pr.exm (P : Pr) (c g : Nat) : Option Bool := P.exl.lookup (c, g)
def Pr.ca (P : Pr) (call : Nat → List D → HD → VQ → XQ → Prop) : Ca := { call := call, exm := P.exm, fv := fun g => (P.fns.lookup g).isSome }
def Pr.cf (P : Pr) (f : Fd) : Cf := { N := f.N, consts := P.consts, fns := P.names, cls := P.cls, blt := P.blt }
/-- things that one no more looks at may be left -/
def dq (q : VQ) : VQ := fun d h => ∃ h', Sub h' h ∧ q d h'
def dx (r : XQ) : XQ := fun c h => ∃ h', Sub h' h ∧ r c h'
/-- what a def does, of n calls' depth at most -/
def Pr.call (P : Pr) : Nat → Nat → List D → HD → VQ → XQ → Prop
  | 0, _, _, _, _, _ => False
  | n + 1, i, ds, h, q, r => match P.fns.lookup i with
    | some f => ds.length = f.ps.length ∧ denB (P.ca (P.call n)) f.body { nx := fun _ h' => dq q .non h', rt := dq q, bk := fun _ _ => False, ct := fun _ _ => False, ex := fun c _ h' => dx r c h' } (ds.map some ++ List.replicate (f.N.length - ds.length) none) h
    | none => False
/-- the names of a def's parameters, where it has no others -/
def plainPs (a : Arguments) : Option (List Str) := match a with
  | ⟨[], as, none, [], [], none, []⟩ => some (as.map (·.arg))
  | _ => none
def scopeB (N P : List Str) (sc : Scope) : Bool := (match sc.kind with | .function => true | _ => false) && !sc.isCoroutine && !sc.isGenerator && decide N.Nodup && decide (N.take P.length = P) &&
  (P.all fun x => locB sc x) && sc.names.all fun y => match y.2 with | .free => false | _ => true
theorem scopeB_ok {N P : List Str} {sc : Scope} (h : scopeB N P sc = true) : FnScope N P sc := by
  obtain ⟨h, h7⟩ := and2 h
  obtain ⟨h, h6⟩ := and2 h
  obtain ⟨h, h5⟩ := and2 h
  obtain ⟨h, h4⟩ := and2 h
  obtain ⟨h, h3⟩ := and2 h
  obtain ⟨h1, h2⟩ := and2 h
  refine ⟨?_, nno h2, nno h3, of_decide_eq_true h4, of_decide_eq_true h5, fun x hx => ?_, fun y hy e => ?_⟩
  · split at h1
    · assumption
    · cases h1
  · have := List.all_eq_true.mp h6 x hx
    unfold locB at this
    split at this
    · rename_i q; exact .inl q
    · rename_i q; exact .inr q
    · cases this
  · have := List.all_eq_true.mp h7 y hy
    rw [e] at this
    cases this
def chkFd (P : Pr) (f : Fd) : Bool := decide (plainPs f.params = some f.ps) && decide (f.ps.length ≤ 7) && scopeB f.N f.ps f.scope && chkB (P.cf f) f.scope f.body f.stmts
def Pr.okB (P : Pr) : Bool := (P.names.all fun q => decide (P.gl.lookup q.2 = some (q.1, none)) && (P.fns.lookup q.2).isSome) && (P.cls.all fun q => decide (P.gl.lookup q.2 = some (q.1, none))) && P.fns.all fun q => decide (P.gl.lookup q.1 = some q.2.at_) && chkFd P q.2
theorem memN {α : Type} {x : Nat} {v : α} : ∀ {l : List (Nat × α)}, l.lookup x = some v → (x, v) ∈ l
  | [], h => nomatch h
  | (y, u) :: l, h => by
    have h : (match x == y with | true => some u | false => l.lookup x) = some v := h
    split at h
    · rename_i q
      cases h
      rw [beq_iff_eq.mp q]
      exact List.mem_cons_self
    · exact List.mem_cons_of_mem _ (memN h)
end Nd
/-! Nd16: what a def does is what Pr.call says; the module's facts as a Hook. -/
namespace Nd
open PySem PySem.Spec PyProof.Rows L2
theorem fm_congr {α β : Type} {f g : α → Option β} : ∀ {l : List α}, (∀ n ∈ l, f n = g n) → l.filterMap f = l.filterMap g
  | [], _ => rfl
  | a :: l, h => by
    rw [List.filterMap_cons, List.filterMap_cons, h a List.mem_cons_self, fm_congr (l := l) fun n hn => h n (List.mem_cons_of_mem _ hn)]
theorem filt_none {A : List Str} {us : List Value} (h : us.length = A.length) (x : Str) (hx : x ∈ A) : ((A.zip us).lookup x).isNone = false := by
  induction A generalizing us with
  | nil => cases hx
  | cons a A ih =>
    cases us with
    | nil => cases h
    | cons u us =>
      show (match x == a with | true => some u | false => (A.zip us).lookup x).isNone = false
      split
      · rfl
      · rename_i q
        rcases List.mem_cons.mp hx with e | e
        · rw [e, beq_self_eq_true] at q; cases q
        · exact ih (Nat.succ.inj h) e
theorem filt_zip {A : List Str} {us : List Value} (h : us.length = A.length) (nd : A.Nodup) : (A.filterMap fun n => ((A.zip us).lookup n).map (n, ·)) = A.zip us := by
  induction A generalizing us with
  | nil => rfl
  | cons a A ih =>
    cases us with
    | nil => cases h
    | cons u us =>
      have e : ((a :: A).zip (u :: us)).lookup a = some u := by
        show (match a == a with | true => some u | false => (A.zip us).lookup a) = some u
        rw [beq_self_eq_true]
      rw [List.filterMap_cons, e]
      show (a, u) :: _ = (a, u) :: A.zip us
      congr 1
      have : ∀ n ∈ A, ((((a :: A).zip (u :: us)).lookup n).map (n, ·)) = (((A.zip us).lookup n).map (n, ·)) := fun n hn => by
        have ne : (n == a) = false := by
          refine Bool.eq_false_iff.mpr fun q => ?_
          rw [beq_iff_eq] at q; subst q
          exact (List.nodup_cons.mp nd).1 hn
        show (match n == a with | true => some u | false => (A.zip us).lookup n).map _ = _
        rw [ne]
      rw [fm_congr this]
      exact ih (Nat.succ.inj h) (List.nodup_cons.mp nd).2
theorem bind_plain {x qual : Str} {params : Arguments} {body : List Stmt} {scope : Scope} {ps : List Str} (h : plainPs params = some ps) (nd : ps.Nodup) (kV doc pm : Value) (an : Option Addr) (cdv ct : Value) (us : List Value) (hu : us.length = ps.length) :
    bindArgs (PySem.W.fnOf x qual params body scope .none kV doc pm an cdv ct) ⟨us, []⟩ = pure (ps.zip us) := by
  obtain ⟨po, as, va, ko, kd, kw, df⟩ := params
  unfold plainPs at h
  split at h
  · rename_i as' e
    cases e
    cases h
    unfold bindArgs
    simp [PySem.W.fnOf, seqItems?, notAStandIn, hu]
    have e1 : (List.filter (fun n => (List.lookup n ((as.map (·.arg)).zip us)).isNone) (List.take ((List.map (fun x : Arg => x.arg) [] ++ List.map (fun x : Arg => x.arg) as).length - (List.drop ((#[] : Array Value).size - (List.map (fun x : Arg => x.arg) [] ++ List.map (fun x : Arg => x.arg) as).length) ([] : List Value)).length) (List.map (fun x : Arg => x.arg) [] ++ List.map (fun x : Arg => x.arg) as))) = [] := by
      rw [List.filter_eq_nil_iff]
      intro n hn
      have hn := List.mem_of_mem_take hn
      rw [filt_none hu n (by simpa using hn)]
      exact Bool.false_ne_true
    have e2 := filt_zip hu nd
    rw [List.filterMap_map] at e2
    refine (if_neg ?_).trans (congrArg pure e2)
    rw [e1]
    exact Bool.false_ne_true
  · cases h
theorem scope_nd {N ps : List Str} {sc : Scope} (S : FnScope N ps sc) : ps.Nodup := by
  rw [← S.pre]
  exact S.nd.sublist (List.take_sublist _ _)
theorem RDs.length {K : PySem.W.Frag} {G : Nat → Addr} {H : Hp} : ∀ {ds : List D} {vs : List V}, RDs K G H ds vs → ds.length = vs.length
  | _, _, .nil => rfl
  | _, _, .cons _ t => congrArg Nat.succ t.length
theorem rs_none {K : PySem.W.Frag} {G : Nat → Addr} {H : Hp} : ∀ n : Nat, RS K G H (List.replicate n none) (List.replicate n none)
  | 0 => .nil
  | n + 1 => .cons (fun _ z => nomatch z) (rs_none n)
theorem rs_start {K : PySem.W.Frag} {G : Nat → Addr} {H : Hp} (n : Nat) : ∀ {ds : List D} {vs : List V}, RDs K G H ds vs → RS K G H (ds.map some ++ List.replicate n none) (vs.map some ++ List.replicate n none)
  | _, _, .nil => rs_none n
  | _, _, .cons h t => .cons (fun x z => by cases z; exact ⟨_, rfl, h⟩) (rs_start n t)
/-- what is so of the module -/
structure PF (P : Pr) (G : Nat → Addr) (K : PySem.W.Frag) (mg : Str → Option Value) : Prop where
  blt : ∀ x ∈ P.blt, mg x = none
  consts : ∀ x d, P.consts.lookup x = some d → ∃ u v, mg x = some u ∧ RelV v u ∧ ∀ H, RD K G H d v
  names : ∀ x f, P.names.lookup x = some f → mg x = some (.ref (G f)) ∧ ∃ fd, P.fns.lookup f = some fd
  cls : ∀ x g, P.cls.lookup x = some g → mg x = some (.ref (G g)) ∧ ∀ X : Cx, X.K = K → ExcAt X (G g)
  exm : ∀ c g b, P.exm c g = some b → ExcC K (G c) ∧ (g = 1000000 → PySem.W.kitOne K (.ref (G c)) (.type "ValueError") = some b) ∧ (g ≠ 1000000 → PySem.W.kitOne K (.ref (G c)) (.ref (G g)) = some b ∧ PySem.W.exmOne K (.ref (G c)) (.ref (G g)) = some b)
  defs : ∀ i f, P.fns.lookup i = some f → chkFd P f = true ∧ ∃ fd, FunD K f.name f.qual f.params f.stmts f.scope [] [] (G i) fd
section
variable {P : Pr} {G : Nat → Addr} {K : PySem.W.Frag} {mg : Str → Option Value} {prog : Program} {w : World} {base : Heap}
theorem fn_ok (F : PF P G K mg) : ∀ (n i : Nat) (f : Fd), P.fns.lookup i = some f → ∃ fd, FunD K f.name f.qual f.params f.stmts f.scope [] [] (G i) fd ∧ FnG prog w K mg base (CX prog w) n (G i) fd f.ps (spOf K G (P.call n i)) ∧ Binds K fd f.ps []
  | 0, i, f, e => by
    obtain ⟨c, fd, D⟩ := F.defs i f e
    obtain ⟨c, _⟩ := and2 c
    obtain ⟨c, c3⟩ := and2 c
    obtain ⟨c1, c2⟩ := and2 c
    refine ⟨fd, D, ⟨?_, ?_⟩, D.bindsN (bind_plain (of_decide_eq_true c1) (scope_nd (scopeB_ok c3)))⟩
    · rintro vs H Q E ⟨_, _, _, _, _, _, z, _⟩
      exact z.elim
    · rintro A _ _ outer s H args us vs Q E _ _ _ ⟨_, _, _, _, _, _, z, _⟩
      exact z.elim
  | n + 1, i, f, e => by
    obtain ⟨c, fd, D⟩ := F.defs i f e
    obtain ⟨c, c4⟩ := and2 c
    obtain ⟨c, c3⟩ := and2 c
    obtain ⟨c1, c2⟩ := and2 c
    have S := scopeB_ok c3
    refine ⟨fd, D, fnG_of D S ?_ ?_, D.bindsN (bind_plain (of_decide_eq_true c1) (scope_nd (scopeB_ok c3)))⟩
    · rintro vs H Q E ⟨ds, h, q, r, rds, rh, z, _⟩
      have z : (match P.fns.lookup i with
        | some f => ds.length = f.ps.length ∧ denB (P.ca (P.call n)) f.body { nx := fun _ h' => dq q .non h', rt := dq q, bk := fun _ _ => False, ct := fun _ _ => False, ex := fun c _ h' => dx r c h' } (ds.map some ++ List.replicate (f.N.length - ds.length) none) h
        | none => False) := z
      rw [e] at z
      rw [← rds.length]
      exact z.1
    · rintro cdv A hgd outer s H vs Q E hr ⟨ds, h, q, r, rds, rh, z, k, kx⟩
      have z : (match P.fns.lookup i with
        | some f => ds.length = f.ps.length ∧ denB (P.ca (P.call n)) f.body { nx := fun _ h' => dq q .non h', rt := dq q, bk := fun _ _ => False, ct := fun _ _ => False, ex := fun c _ h' => dx r c h' } (ds.map some ++ List.replicate (f.N.length - ds.length) none) h
        | none => False) := z
      rw [e] at z
      let X : Cx := cxOf (CX prog w) prog w K mg base f.N f.qual f.scope (G i) cdv A outer s H E
      have tk : Takes X (fun cls d _ H => E cls d H) := takes_of (X := X) rfl rfl rfl rfl
      have co : Co X G (fun cls d _ H => E cls d H) (P.ca (P.call n)) (P.cf f) f.scope n := {
        hN := rfl
        nd := S.nd
        env := ⟨fun _ h => h, fun _ h => ⟨h, rfl⟩, fun _ h => .inl h, fun _ h => h⟩
        calm := rfl
        room := hr
        gd := hgd
        tk := tk
        gf := {
          blt := F.blt
          consts := F.consts
          fns := fun x g hx => by
            obtain ⟨m, f', e'⟩ := F.names x g hx
            obtain ⟨fd', D', ok, bd⟩ := fn_ok F n g f' e'
            exact ⟨m, ⟨⟨fd', f'.ps, ok, bd⟩, D'.kp⟩⟩
          cls := fun x g hx => ⟨(F.cls x g hx).1, (F.cls x g hx).2 X rfl⟩
          exm := F.exm
          fv := fun g hg => by
            cases e' : P.fns.lookup g with
            | none =>
              have hg : (P.fns.lookup g).isSome = true := hg
              rw [e'] at hg; cases hg
            | some f' =>
              obtain ⟨fd', D', ok, bd⟩ := fn_ok F n g f' e'
              exact ⟨⟨fd', f'.ps, ok, bd⟩, D'.kp⟩ } }
      have bo : Bo X := ⟨passes_of rfl, rfl, rfl, rfl, by show (if f.scope.kind.isAnnotationScope then ScopeKind.function else f.scope.kind) = .function; rw [S.kind]; rfl⟩
      refine ⟨_, snd_B f.body f.stmts co bo c4, _, h, _, ?_, rh, z.2, ?_⟩
      · have := rs_start (K := K) (G := G) (H := H) (f.N.length - ds.length) rds
        show RS K G H _ (L2.start f.N vs)
        unfold L2.start
        rw [← rds.length]
        exact this
      · refine ⟨?_, ?_, fun _ _ _ _ _ _ _ z => z.elim, fun _ _ _ _ _ _ _ z => z.elim, ?_⟩
        · rintro a' h' σ' H' fx _ rh' ⟨h2, sb, hq⟩
          exact k .non h2 .non H' (fx.trans (Fx.sub sb)) .non (rh'.sub sb) hq
        · rintro d h' v H' fx rd rh' ⟨h2, sb, hq⟩
          exact k d h2 v H' (fx.trans (Fx.sub sb)) rd (rh'.sub sb) hq
        · rintro c a' h' σ' H' fx _ rh' ⟨h2, sb, hq⟩
          exact kx c h2 H' (fx.trans (Fx.sub sb)) (rh'.sub sb) hq
end
end Nd
/-! Nd17: the module's facts as a Hook, the law's end. -/
namespace Nd
open PySem PySem.Spec PyProof.Rows L2
section
variable (K : PySem.W.Frag) (G : Nat → Addr)
mutual
/-- the value u of the module stands for d -/
def dB : D → Value → Bool
  | .non, .none => true
  | .bl a, .bool b => a == b
  | .int i, .int j _ => decide (i = j)
  | .str s, .str t _ => decide (s = t) && (decide (s.length ≤ sizeLine) && PyData.strOk s)
  | .tup xs, .ref a => match K.lookup a with
    | some ⟨.type c, _, .seq its _, _⟩ => decide (c = "tuple") && (decide (its.size ≤ sizeLine) && dBs xs its.toList)
    | _ => false
  | .kls xs, .ref a => match K.lookup a with
    | some ⟨.type c, none, .seq its _, _⟩ => decide (c = "list") && (decide (its.size ≤ sizeLine) && dBs xs its.toList)
    | _ => false
  | .glo g, .ref a => decide (a = G g)
  | _, _ => false
def dBs : List D → List Value → Bool
  | [], [] => true
  | d :: ds, u :: us => dB d u && dBs ds us
  | _, _ => false
end
end
section
variable {K : PySem.W.Frag} {G : Nat → Addr}
mutual
theorem dB_ok : ∀ {d : D} {u : Value}, dB K G d u = true → ∃ v, RelV v u ∧ ∀ H, RD K G H d v
  | .non, u, h => by cases u <;> first | exact ⟨.non, rfl, fun _ => .non⟩ | cases h
  | .bl a, u, h => by
    cases u <;> first | cases h | skip
    rename_i b
    have e := eq_of_beq (show (a == b) = true from h)
    exact ⟨.bl b, rfl, fun _ => e ▸ .bl _⟩
  | .int i, u, h => by
    cases u <;> first | cases h | skip
    rename_i j t
    have e := of_decide_eq_true (show decide (i = j) = true from h)
    exact ⟨.int i, ⟨t, by rw [e]⟩, fun _ => .int _⟩
  | .str s, u, h => by
    cases u <;> first | cases h | skip
    rename_i j t
    obtain ⟨e, h⟩ := and2 (show (decide (s = j) && (decide (s.length ≤ sizeLine) && PyData.strOk s)) = true from h)
    obtain ⟨h1, h2⟩ := and2 h
    have e := of_decide_eq_true e
    exact ⟨.str s, ⟨t, by rw [e]⟩, fun _ => .str _ ⟨of_decide_eq_true h1, h2⟩⟩
  | .tup xs, u, h => by
    cases u <;> first | cases h | skip
    rename_i a
    unfold dB at h
    split at h
    · rename_i c od its n sl q
      obtain ⟨h1, h⟩ := and2 h
      obtain ⟨h2, h3⟩ := and2 h
      obtain ⟨vs, r1, r2⟩ := dBs_ok h3
      have hl : its.size ≤ sizeLine := of_decide_eq_true h2
      exact ⟨.ref a, rfl, fun H => .tup (.inr ⟨_, its, n, q, congrArg Value.type (of_decide_eq_true h1), rfl, hl, r1⟩) (by rw [(r2 H).length, r1.length]; exact hl) (r2 H)⟩
    · cases h
  | .kls xs, u, h => by
    cases u <;> first | cases h | skip
    rename_i a
    unfold dB at h
    split at h
    · rename_i c its n sl q
      obtain ⟨h1, h⟩ := and2 h
      obtain ⟨h2, h3⟩ := and2 h
      obtain ⟨vs, r1, r2⟩ := dBs_ok h3
      have hl : its.size ≤ sizeLine := of_decide_eq_true h2
      exact ⟨.ref a, rfl, fun H => .kls (.inr ⟨_, its, n, q, congrArg Value.type (of_decide_eq_true h1), rfl, rfl, hl, r1⟩) (by rw [(r2 H).length, r1.length]; exact hl) (r2 H)⟩
    · cases h
  | .glo g, u, h => by
    cases u <;> first | cases h | skip
    rename_i a
    have e := of_decide_eq_true (show decide (a = G g) = true from h)
    exact ⟨.ref (G g), by rw [e]; rfl, fun _ => .glo g⟩
  | .ref _, u, h => by cases u <;> cases h
  | .ty _, u, h => by cases u <;> cases h
  | .exc _ _, u, h => by cases u <;> cases h
theorem dBs_ok : ∀ {ds : List D} {us : List Value}, dBs K G ds us = true → ∃ vs, Vals vs us ∧ ∀ H, RDs K G H ds vs
  | [], us, h => by cases us <;> first | exact ⟨[], .nil, fun _ => .nil⟩ | cases h
  | d :: ds, us, h => by
    cases us with
    | nil => cases h
    | cons u us =>
      obtain ⟨h1, h2⟩ := and2 (show (dB K G d u && dBs K G ds us) = true from h)
      obtain ⟨v, r1, r2⟩ := dB_ok h1
      obtain ⟨vs, r3, r4⟩ := dBs_ok h2
      exact ⟨v :: vs, .cons r1 r3, fun H => .cons (r2 H) (r4 H)⟩
end
end
/-! ### the Hook -/
def Pr.G (P : Pr) (K : PySem.W.Frag) (g : Nat) : Addr := He.fAd K ((P.gl.lookup g).getD ("", none))
def Fd.dd (f : Fd) : He.DefD := ⟨f.at_, f.name, f.qual, f.params, f.stmts, f.scope, [], []⟩
def conB (P : Pr) (K : PySem.W.Frag) (q : Str × D) : Bool := match PySem.W.nsIn K mainGlobals q.1 with
  | some (some u) => dB K (P.G K) q.2 u
  | _ => false
def excB (K : PySem.W.Frag) (D : Addr) : Bool := He.eqO (PySem.W.findIn K (.ref D) "__getattribute__") (some (some (.builtin "BaseException.__getattribute__"))) && He.eqO (PySem.W.findIn K (.ref D) "__getattr__") (some none) &&
  decide (PySem.W.subIn K (.ref D) (.type "BaseException") = some true) && PySem.W.hasDictIn K D && He.eqO (PySem.W.findIn K (.ref D) "__class__") (some (some (.builtin "object.__class__"))) &&
  He.eqO (PySem.W.specialIn K (.builtin "object.__class__") "__get__") (some (some (.builtin "getset_descriptor.__get__"))) && decide (PySem.W.takesIn K (.builtin "object.__class__") = some true) && decide (PySem.W.mroIn K D (.type "object") = some true)
theorem excB_ok {K : PySem.W.Frag} {D : Addr} (h : excB K D = true) : ExcC K D := by
  obtain ⟨h, h8⟩ := and2 h
  obtain ⟨h, h7⟩ := and2 h
  obtain ⟨h, h6⟩ := and2 h
  obtain ⟨h, h5⟩ := and2 h
  obtain ⟨h, h4⟩ := and2 h
  obtain ⟨h, h3⟩ := and2 h
  obtain ⟨h1, h2⟩ := and2 h
  exact ⟨He.eqO_ok h1, He.eqO_ok h2, of_decide_eq_true h3, h4, He.eqO_ok h5, He.eqO_ok h6, of_decide_eq_true h7, of_decide_eq_true h8⟩
def exlB (P : Pr) (K : PySem.W.Frag) (q : (Nat × Nat) × Bool) : Bool := if q.1.2 = 1000000 then decide (PySem.W.kitOne K (.ref (P.G K q.1.1)) (.type "ValueError") = some q.2)
  else decide (PySem.W.kitOne K (.ref (P.G K q.1.1)) (.ref (P.G K q.1.2)) = some q.2) && decide (PySem.W.exmOne K (.ref (P.G K q.1.1)) (.ref (P.G K q.1.2)) = some q.2)
def factB (P : Pr) (K : PySem.W.Frag) : Bool :=
  (P.names.all fun q => (He.Fa.glo q.1).ok K) && (P.cls.all fun q => (He.Fa.glo q.1).ok K && (He.Fa.exc q.1).ok K) && (P.blt.all fun x => (He.Fa.free x).ok K) && (P.consts.all fun q => conB P K q) &&
  (P.exl.all fun q => excB K (P.G K q.1.1) && exlB P K q) && P.fns.all fun f => f.2.dd.ok K
abbrev AlN : Type := Bool × List He.FnW
def obsN (P : Pr) (K : PySem.W.Frag) : AlN := (factB P K, P.fns.map fun f => He.fnW K f.2.at_)
def valN (P : Pr) : AlN := (true, P.fns.map fun f => f.2.dd.val)
def obsNG (n : Nat) (P : Pr) (g : Addr → Option Obj) : AlN := obsN P (He.frG g (He.asD g n))
def hookN (n : Nat) (P : Pr) : PySem.W.Hook where
  α := AlN
  obs := fun s => obsNG n P s.heap.get?
  val := fun _ => valN P
  says := fun _ h => ∃ K : PySem.W.Frag, K.In h ∧ obsN P K = valN P
  of := fun _ _ e => ⟨_, He.frG_in, e⟩
  keeps := fun _ _ _ ⟨K, hK, c⟩ k => ⟨K, PySem.W.Frag.In.keeps hK k, c⟩
theorem obsNG_eq {n : Nat} {P : Pr} {g : Addr → Option Obj} {s : Shared} (h : ∀ a, g a = s.heap.get? a) : obsNG n P g = (hookN n P).obs s := by
  have e : g = s.heap.get? := funext h
  rw [e] <;> rfl
def obN (n : Nat) (P : Pr) (s : PySem.W.SharedT) : AlN := obsNG n P (HandSHeadRun.getT s)
theorem obN_eq {n : Nat} {P : Pr} (s : PySem.W.SharedT) : obN n P s = (hookN n P).obs s.abs := obsNG_eq (HandSHeadRun.getT_eq s)
theorem FunD.same {K : PySem.W.Frag} {x qual : Str} {params : Arguments} {body : List Stmt} {scope : Scope} {dvs : List V} {kws : List (Str × V)} {f : Addr} {fd fd2 : FuncData} (a : FunD K x qual params body scope dvs kws f fd) (b : FunD K x qual params body scope dvs kws f fd2) : fd = fd2 := by
  obtain ⟨_, _, _, _, _, _, _, _, _, _, _, l1, _⟩ := a.ex
  obtain ⟨_, _, _, _, _, _, _, _, _, _, _, l2, _⟩ := b.ex
  rw [l1] at l2
  cases l2
  rfl
theorem lk_mem2 {x : Nat × Nat} {v : Bool} : ∀ {l : List ((Nat × Nat) × Bool)}, l.lookup x = some v → (x, v) ∈ l
  | [], h => nomatch h
  | (y, u) :: l, h => by
    have h : (match x == y with | true => some u | false => l.lookup x) = some v := h
    split at h
    · rename_i q
      cases h
      rw [beq_iff_eq.mp q]
      exact List.mem_cons_self
    · exact List.mem_cons_of_mem _ (lk_mem2 h)
theorem lk_mem {α : Type} {x : Str} {v : α} : ∀ {l : List (Str × α)}, l.lookup x = some v → (x, v) ∈ l := fun h => PySem.mem_of_lookup h
theorem pf_of {P : Pr} {K : PySem.W.Frag} {h : Heap} {mg : Str → Option Value} (X : K.In h) (N : h.Ns mainGlobals mg) (ok : P.okB = true) (c : obsN P K = valN P) : PF P (P.G K) K mg := by
  have c1 : factB P K = true := congrArg (fun z : AlN => z.1) c
  have c2 : (P.fns.map fun f => He.fnW K f.2.at_) = P.fns.map fun f => f.2.dd.val := congrArg (fun z : AlN => z.2) c
  obtain ⟨c1, f6⟩ := and2 c1
  obtain ⟨c1, f5⟩ := and2 c1
  obtain ⟨c1, f4⟩ := and2 c1
  obtain ⟨c1, f3⟩ := and2 c1
  obtain ⟨f1, f2⟩ := and2 c1
  obtain ⟨o, o3⟩ := and2 ok
  obtain ⟨o1, o2⟩ := and2 o
  refine ⟨fun x hx => He.free_ok X N (List.all_eq_true.mp f3 x hx), fun x d hx => ?_, fun x f hx => ?_, fun x g hx => ?_, fun a b v e => ?_, fun i f e => ?_⟩
  · have q := List.all_eq_true.mp f4 _ (lk_mem hx)
    have q : (match PySem.W.nsIn K mainGlobals x with
      | some (some u) => dB K (P.G K) d u
      | _ => false) = true := q
    split at q
    · rename_i u e
      obtain ⟨v, r1, r2⟩ := dB_ok q
      exact ⟨u, v, PySem.W.mg_of X N e, r1, r2⟩
    · cases q
  · have q := He.glo_ok X N (List.all_eq_true.mp f1 _ (lk_mem hx))
    obtain ⟨z1, z2⟩ := and2 (List.all_eq_true.mp o1 _ (lk_mem hx))
    have z1 : P.gl.lookup f = some (x, none) := of_decide_eq_true z1
    refine ⟨q.trans ?_, Option.isSome_iff_exists.mp z2⟩
    show _ = some (Value.ref (He.fAd K ((P.gl.lookup f).getD ("", none))))
    rw [z1]
    rfl
  · obtain ⟨q1, q2⟩ := and2 (List.all_eq_true.mp f2 _ (lk_mem hx))
    have z1 : P.gl.lookup g = some (x, none) := of_decide_eq_true (List.all_eq_true.mp o2 _ (lk_mem hx))
    have e : P.G K g = He.ga K x := by
      show He.fAd K ((P.gl.lookup g).getD ("", none)) = _
      rw [z1]
      rfl
    have q := He.glo_ok X N q1
    rw [e]
    refine ⟨q, fun Y hY => ?_⟩
    obtain ⟨w1, w2, w3, w4⟩ := He.exc_ok q2
    subst hY
    exact ⟨w1, w2, w3, w4⟩
  · have m : ((a, b), v) ∈ P.exl := lk_mem2 e
    obtain ⟨q1, q2⟩ := and2 (List.all_eq_true.mp f5 _ m)
    refine ⟨excB_ok q1, fun e => ?_, fun ne => ?_⟩
    · unfold exlB at q2
      rw [if_pos e] at q2
      exact of_decide_eq_true q2
    · unfold exlB at q2
      rw [if_neg ne] at q2
      obtain ⟨q3, q4⟩ := and2 q2
      exact ⟨of_decide_eq_true q3, of_decide_eq_true q4⟩
  · have m := memN e
    obtain ⟨z1, z2⟩ := and2 (List.all_eq_true.mp o3 _ m)
    have z1 : P.gl.lookup i = some f.at_ := of_decide_eq_true z1
    refine ⟨z2, ?_⟩
    obtain ⟨j, hj, e1⟩ := List.mem_iff_getElem.mp m
    have e2 : (P.fns.map fun f => He.fnW K f.2.at_)[j]? = (P.fns.map fun f => f.2.dd.val)[j]? := by rw [c2]
    rw [List.getElem?_map, List.getElem?_map, List.getElem?_eq_getElem hj, e1] at e2
    obtain ⟨fd, F⟩ := He.DefD.funD (d := f.dd) (Option.some.inj e2) (List.all_eq_true.mp f6 _ m)
    refine ⟨fd, ?_⟩
    show FunD K f.name f.qual f.params f.stmts f.scope [] [] (He.fAd K ((P.gl.lookup i).getD ("", none))) fd
    rw [z1]
    exact F
/-- the law's end -/
theorem walk {l : PySem.W.OpenLaw} {n k dep i : Nat} {q : Program} {loose : List Str} {XP : (Str → Option Value) → Heap → Prop} {d : DefRec} {x nm : Str} {P : Pr} {f : Fd}
    (hn : l.most = some n) (hn2 : n ≤ sizeLine) (hdf : d.params.defaults = []) (hr : Room k callerA) (hnm : d.name = nm)
    (ok : P.okB = true) (hi : P.names.lookup nm = some i) (hf : P.fns.lookup i = some f) (hx : f.ps = [x])
    (hlaw : ∀ ns : List Int, ns.length ≤ n → P.call k i [.kls (ns.map .int)] (fun _ => none) (fun d _ => d = .bl true) fun _ _ => False) :
    PySem.W.WalkO q loose XP (hookN dep P).says l.row.toRowW d [] (fun f vs => PySem.call f vs) := by
  refine Att.attach_call hn hdf fun w s₀ s₁ mg mb fa o pm cd doc a us ns R Y ho hd hcd hmg hobj hints hlen hg => ?_
  obtain ⟨K, KX, c⟩ : ∃ K : PySem.W.Frag, K.In _ ∧ obsN P K = valN P := Y
  rw [hnm] at hmg
  have F := pf_of KX R.T.g ok c
  obtain ⟨hm2, -⟩ := F.names nm i hi
  have ea := hm2.symm.trans hmg
  cases ea
  have bd : ∃ fd, (∀ (s : Shared) (u : Value), BindsTo s fd ⟨[u], []⟩ [(x, u)]) ∧ ∀ base : Heap, K.In base → base.Ns mainGlobals mg → FnG l.prog w K mg base (CX l.prog w) k (P.G K i) fd [x] (spOf K (P.G K) (P.call k i)) := by
    obtain ⟨cf, fd, D⟩ := F.defs i f hf
    obtain ⟨cf, _⟩ := and2 cf
    obtain ⟨cf, c3⟩ := and2 cf
    obtain ⟨c1, _⟩ := and2 cf
    refine ⟨fd, fun s u => ?_, fun base _ _ => ?_⟩
    · have := D.bindsA (ps := f.ps) (bind_plain (of_decide_eq_true c1) (scope_nd (scopeB_ok c3))) s [u] (by rw [hx]; rfl)
      rw [hx] at this
      exact this
    · obtain ⟨fd2, D2, ok2, _⟩ := fn_ok (prog := l.prog) (w := w) (base := base) F k i f hf
      have : fd2 = fd := FunD.same D2 D
      subst this
      rw [← hx]
      exact ok2
  obtain ⟨fd, hb, hF⟩ := bd
  refine lawG KX R.T.g R.T.b R.T.builtins R.T.nolimit hg hobj hints (Nat.le_trans hlen hn2) hr hF hb (fun H hO hS => ?_) ?_
  · refine ⟨[.kls (ns.map .int)], fun _ => none, fun d _ => d = .bl true, fun _ _ => False, .cons (.kls (xs := ns.map V.int) ?_ ?_ ?_) .nil, ?_, hlaw ns hlen, ?_, fun _ _ _ _ _ z => z⟩
    · rcases hS with (hS | hS) | hS
      · rcases hO a with z | ⟨o, xs, z⟩
        · rw [z] at hS; cases hS
        · rw [z] at hS; cases hS
      · exact .inl hS
      · exact .inr hS
    · rw [List.length_map]
      exact Nat.le_trans hlen hn2
    · clear hlen hints hS
      induction ns with
      | nil => exact .nil
      | cons m ns ih => exact .cons (.int m) ih
    · intro a m z
      cases z
    · rintro d h' v H' _ rd _ rfl
      cases rd
      rfl
  · rintro H e s' z
    obtain ⟨_, _, _, _, _, _, _, _, _, _, _, _, z⟩ := z
    exact z
end Nd
/-! Nd18: what a def does, step by step: laws of the denotation for plain proofs. -/
namespace Nd
open PySem PySem.Spec PyProof.Rows L2
/-- P has a def of this number, body, count of parameters and of names -/
def HasF (P : Pr) (i : Nat) (b : B) (np nn : Nat) : Prop := ∃ f, P.fns.lookup i = some f ∧ f.body = b ∧ f.ps.length = np ∧ f.N.length = nn
/-- what stands behind a def's body -/
def Zr (q : VQ) (r : XQ) : En := { nx := fun _ h' => dq q .non h', rt := dq q, bk := fun _ _ => False, ct := fun _ _ => False, ex := fun c _ h' => dx r c h' }
theorem call_of {P : Pr} {i : Nat} {b : B} {np nn n : Nat} {ds : List D} {h : HD} {q : VQ} {r : XQ} (H : HasF P i b np nn) (hl : ds.length = np) (hb : denB (P.ca (P.call n)) b (Zr q r) (ds.map some ++ List.replicate (nn - np) none) h) : P.call (n + 1) i ds h q r := by
  obtain ⟨f, e1, rfl, rfl, rfl⟩ := H
  show (match P.fns.lookup i with
    | some f => ds.length = f.ps.length ∧ denB (P.ca (P.call n)) f.body (Zr q r) (ds.map some ++ List.replicate (f.N.length - ds.length) none) h
    | none => False)
  rw [e1]
  refine ⟨hl, ?_⟩
  rw [hl]
  exact hb
theorem size_eq : sizeLine = 16777216 := rfl
theorem hup_old {h : HD} {a p : Addr} {m m' : MO} (n : h p = none) (e : h a = some m) : hup h p m' a = some m := by
  rw [hup_ne (fun w => by rw [w, n] at e; cases e)]
  exact e
theorem dq_of {q : VQ} {d : D} {h : HD} (k : q d h) : dq q d h := ⟨h, Sub.refl, k⟩
theorem dx_of {r : XQ} {c : Nat} {h : HD} (k : r c h) : dx r c h := ⟨h, Sub.refl, k⟩
theorem isi_NoneType_int : isiB "NoneType" "int" = false := by decide
theorem isi_NoneType_bool : isiB "NoneType" "bool" = false := by decide
theorem isi_NoneType_str : isiB "NoneType" "str" = false := by decide
theorem isi_NoneType_tuple : isiB "NoneType" "tuple" = false := by decide
theorem isi_NoneType_list : isiB "NoneType" "list" = false := by decide
theorem isi_NoneType_dict : isiB "NoneType" "dict" = false := by decide
theorem isi_bool_int : isiB "bool" "int" = true := by decide
theorem isi_bool_bool : isiB "bool" "bool" = true := by decide
theorem isi_bool_str : isiB "bool" "str" = false := by decide
theorem isi_bool_tuple : isiB "bool" "tuple" = false := by decide
theorem isi_bool_list : isiB "bool" "list" = false := by decide
theorem isi_bool_dict : isiB "bool" "dict" = false := by decide
theorem isi_int_int : isiB "int" "int" = true := by decide
theorem isi_int_bool : isiB "int" "bool" = false := by decide
theorem isi_int_str : isiB "int" "str" = false := by decide
theorem isi_int_tuple : isiB "int" "tuple" = false := by decide
theorem isi_int_list : isiB "int" "list" = false := by decide
theorem isi_int_dict : isiB "int" "dict" = false := by decide
theorem isi_str_int : isiB "str" "int" = false := by decide
theorem isi_str_bool : isiB "str" "bool" = false := by decide
theorem isi_str_str : isiB "str" "str" = true := by decide
theorem isi_str_tuple : isiB "str" "tuple" = false := by decide
theorem isi_str_list : isiB "str" "list" = false := by decide
theorem isi_str_dict : isiB "str" "dict" = false := by decide
theorem isi_tuple_int : isiB "tuple" "int" = false := by decide
theorem isi_tuple_bool : isiB "tuple" "bool" = false := by decide
theorem isi_tuple_str : isiB "tuple" "str" = false := by decide
theorem isi_tuple_tuple : isiB "tuple" "tuple" = true := by decide
theorem isi_tuple_list : isiB "tuple" "list" = false := by decide
theorem isi_tuple_dict : isiB "tuple" "dict" = false := by decide
theorem isi_list_int : isiB "list" "int" = false := by decide
theorem isi_list_bool : isiB "list" "bool" = false := by decide
theorem isi_list_str : isiB "list" "str" = false := by decide
theorem isi_list_tuple : isiB "list" "tuple" = false := by decide
theorem isi_list_list : isiB "list" "list" = true := by decide
theorem isi_list_dict : isiB "list" "dict" = false := by decide
theorem isi_dict_int : isiB "dict" "int" = false := by decide
theorem isi_dict_bool : isiB "dict" "bool" = false := by decide
theorem isi_dict_str : isiB "dict" "str" = false := by decide
theorem isi_dict_tuple : isiB "dict" "tuple" = false := by decide
theorem isi_dict_list : isiB "dict" "list" = false := by decide
theorem isi_dict_dict : isiB "dict" "dict" = true := by decide
section
variable {C : Ca} {Z : En} {σ : Sl} {h : HD} {q : VQ} {r : XQ}
theorem Zr_rt : (Zr q r).rt = dq q := rfl
theorem Zr_nx : (Zr q r).nx = fun _ h' => dq q .non h' := rfl
theorem Zr_ex : (Zr q r).ex = fun c _ h' => dx r c h' := rfl
theorem denB_nil : denB C .nil Z σ h = Z.nx σ h := rfl
theorem denB_cons {s : S} {b : B} : denB C (.cons s b) Z σ h = denS C s { Z with nx := denB C b Z } σ h := by cases b <;> rfl
theorem Dn_of_v {f : TED} : (Dn.of f).v = f := rfl
theorem Dn_of_t {f : TED} : (Dn.of f).t = fun σ h q r => f σ h (fun d h' => truV d h' fun b => q b h') r := rfl
theorem Dn_of_i {f : TED} : (Dn.of f).i = fun σ h q r => f σ h (fun d h' => itV d h' fun xs g => q xs g h') r := rfl
theorem Dn_ofT_v {f : TED} {g : TTD} : (Dn.ofT f g).v = f := rfl
theorem Dn_ofT_t {f : TED} {g : TTD} : (Dn.ofT f g).t = g := rfl
theorem tru_bl {b : Bool} {k : Bool → Prop} : truV (.bl b) h k = k b := rfl
theorem tru_int {i : Int} {k : Bool → Prop} : truV (.int i) h k = k (i != 0) := rfl
theorem tru_str {s : Str} {k : Bool → Prop} : truV (.str s) h k = k ((s.length : Int) != 0) := rfl
theorem tru_tup {xs : List D} {k : Bool → Prop} : truV (.tup xs) h k = k (!xs.isEmpty) := rfl
theorem tru_non {k : Bool → Prop} : truV .non h k = k false := rfl
theorem asB_bl {b : Bool} {k : Bool → Prop} : asB (.bl b) k = k b := rfl
theorem asI_int {i : Int} {k : Option Int → Prop} : asI (.int i) k = k (some i) := rfl
theorem add_int {i j : Int} {Q : VQ} : addV (.int i) (.int j) h Q = Q (.int (i + j)) h := rfl
theorem add_tup {a b : List D} {Q : VQ} : addV (.tup a) (.tup b) h Q = (a.length + b.length ≤ sizeLine ∧ Q (.tup (a ++ b)) h) := rfl
theorem add_str {s t : Str} {Q : VQ} : addV (.str s) (.str t) h Q = (s.length + t.length ≤ sizeLine ∧ Q (.str (s ++ t)) h) := rfl
theorem sub_int {i j : Int} {Q : VQ} : subV (.int i) (.int j) h Q = Q (.int (i - j)) h := rfl
theorem mul_int {i j : Int} {Q : VQ} : mulV (.int i) (.int j) h Q = (CMul i j ∧ Q (.int (i * j)) h) := rfl
theorem mul_tup {a : List D} {k : Int} {Q : VQ} : mulV (.tup a) (.int k) h Q = ((a ≠ [] ∧ 1 ≤ k ∧ k ≤ 1000 ∧ a.length ≤ 1000) ∧ Q (.tup (List.replicate k.toNat a).flatten) h) := rfl
theorem div_int {i j : Int} {Q : VQ} : divV (.int i) (.int j) h Q = ((0 < j ∧ j < 2 ^ 64) ∧ Q (.int (i / j)) h) := rfl
theorem mod_int {i j : Int} {Q : VQ} : modV (.int i) (.int j) h Q = (0 < j ∧ Q (.int (i % j)) h) := rfl
theorem pow_int {i j : Int} {Q : VQ} : powV (.int i) (.int j) h Q = (CPow i j ∧ Q (.int (i ^ j.toNat)) h) := rfl
theorem CPow_eq {i j : Int} : CPow i j = (0 ≤ j ∧ j ≤ 1000000 ∧ i.natAbs < 2 ^ 64) := rfl
theorem CMul_eq {i j : Int} : CMul i j = ((-(2 ^ 64) < i ∧ i < 2 ^ 64) ∨ (-(2 ^ 64) < j ∧ j < 2 ^ 64)) := rfl
theorem eq_int {i j : Int} {Q : VQ} : eqV (.int i) (.int j) h Q = Q (.bl (decide (i = j))) h := rfl
theorem eq_str {i j : Str} {Q : VQ} : eqV (.str i) (.str j) h Q = Q (.bl (decide (i = j))) h := rfl
theorem eq_bl {i j : Bool} {Q : VQ} : eqV (.bl i) (.bl j) h Q = Q (.bl (decide (i = j))) h := rfl
theorem ne_int {i j : Int} {Q : VQ} : neV (.int i) (.int j) h Q = Q (.bl (!decide (i = j))) h := propext ⟨fun ⟨_, e, z⟩ => by cases e; exact z, fun z => ⟨_, rfl, z⟩⟩
theorem ne_str {i j : Str} {Q : VQ} : neV (.str i) (.str j) h Q = Q (.bl (!decide (i = j))) h := propext ⟨fun ⟨_, e, z⟩ => by cases e; exact z, fun z => ⟨_, rfl, z⟩⟩
theorem ne_bl {i j : Bool} {Q : VQ} : neV (.bl i) (.bl j) h Q = Q (.bl (!decide (i = j))) h := propext ⟨fun ⟨_, e, z⟩ => by cases e; exact z, fun z => ⟨_, rfl, z⟩⟩
theorem lt_int {i j : Int} {Q : VQ} : ltV (.int i) (.int j) h Q = Q (.bl (decide (i < j))) h := rfl
theorem gt_int {i j : Int} {Q : VQ} : gtV (.int i) (.int j) h Q = Q (.bl (decide (j < i))) h := rfl
theorem le_int {i j : Int} {Q : VQ} : leV (.int i) (.int j) h Q = Q (.bl (decide (i ≤ j))) h := rfl
theorem ge_int {i j : Int} {Q : VQ} : geV (.int i) (.int j) h Q = Q (.bl (decide (j ≤ i))) h := rfl
theorem is_non {x : D} {Q : VQ} : isV x .non h Q = Q (.bl (isNon x)) h := rfl
theorem is_bl {a b : Bool} {Q : VQ} : isV (.bl a) (.bl b) h Q = Q (.bl (decide (a = b))) h := rfl
theorem isn_non {x : D} {Q : VQ} : isnV x .non h Q = Q (.bl (!isNon x)) h := rfl
theorem isn_bl {a b : Bool} {Q : VQ} : isnV (.bl a) (.bl b) h Q = Q (.bl (!decide (a = b))) h := rfl
theorem neg_int {i : Int} {Q : VQ} : negV (.int i) h Q = Q (.int (-i)) h := rfl
theorem sub_tup {xs : List D} {i : Int} {Q : VQ} : subV' (.tup xs) (.int i) h Q = optV (atD xs i) h Q := rfl
theorem sub_ref {a : Addr} {y : D} {Q : VQ} {xs : List D} {i : Int} (e : h a = some (.lst xs)) : subV' (.ref a) (.int i) h Q = optV (atD xs i) h Q := by
  show (match h a with
    | some (.lst xs) => optV (atD xs i) h Q
    | some (.dic kvs) => optV (lookK kvs (.inl i)) h Q
    | _ => False) = _
  rw [e]
theorem sub_dic {a : Addr} {y : D} {Q : VQ} {kvs : List (Key × D)} {k : Key} (e : h a = some (.dic kvs)) (hk : keyD y = some k) : subV' (.ref a) y h Q = optV (lookK kvs k) h Q := by
  unfold subV'
  dsimp only
  rw [e]
  dsimp only
  rw [hk]
theorem opt_some {d : D} {Q : VQ} : optV (some d) h Q = Q d h := rfl
theorem slc_tup {xs : List D} {lo hi : Option Int} {Q : VQ} : slcV (.tup xs) lo hi h Q = Q (.tup (cutD xs lo hi)) h := rfl
theorem slc_ref {a : Addr} {xs : List D} {lo hi : Option Int} {Q : VQ} (e : h a = some (.lst xs)) : slcV (.ref a) lo hi h Q = ∀ p, h p = none → Q (.ref p) (hup h p (.lst (cutD xs lo hi))) := by
  unfold slcV
  dsimp only
  rw [e]
theorem len_tup {xs : List D} {Q : VQ} : lenV (.tup xs) h Q = Q (.int xs.length) h := rfl
theorem len_kls {xs : List D} {Q : VQ} : lenV (.kls xs) h Q = Q (.int xs.length) h := rfl
theorem len_str {s : Str} {Q : VQ} : lenV (.str s) h Q = Q (.int s.length) h := rfl
theorem len_ref {a : Addr} {xs : List D} {Q : VQ} (e : h a = some (.lst xs)) : lenV (.ref a) h Q = Q (.int xs.length) h := by
  unfold lenV
  dsimp only
  rw [e]
theorem len_dic {a : Addr} {xs : List (Key × D)} {Q : VQ} (e : h a = some (.dic xs)) : lenV (.ref a) h Q = Q (.int xs.length) h := by
  unfold lenV
  dsimp only
  rw [e]
theorem bi_len {ex : Nat → Nat → Option Bool} {d : D} {Q : VQ} : biV ex .len [d] h Q = lenV d h Q := rfl
theorem bi_abs {ex : Nat → Nat → Option Bool} {i : Int} {Q : VQ} : biV ex .abs [.int i] h Q = Q (.int (if i < 0 then -i else i)) h := rfl
theorem bi_int {ex : Nat → Nat → Option Bool} {i : Int} {Q : VQ} : biV ex .int1 [.int i] h Q = Q (.int i) h := rfl
theorem bi_intb {ex : Nat → Nat → Option Bool} {k : Bool} {Q : VQ} : biV ex .int1 [.bl k] h Q = Q (.int (if k then 1 else 0)) h := rfl
theorem bi_max2 {ex : Nat → Nat → Option Bool} {i j : Int} {Q : VQ} : biV ex .max2 [.int i, .int j] h Q = Q (.int (if j > i then j else i)) h := rfl
theorem bi_min2 {ex : Nat → Nat → Option Bool} {i j : Int} {Q : VQ} : biV ex .min2 [.int i, .int j] h Q = Q (.int (if j < i then j else i)) h := rfl
theorem bi_isi {ex : Nat → Nat → Option Bool} {d : D} {n a : String} {Q : VQ} (e : tyN h d = some a) (hn : isTyN n = true) : biV ex .isi [d, .ty n] h Q = Q (.bl (isiB a n)) h := by
  have z : d ≠ .exc 0 0 → (∀ c a, d ≠ .exc c a) → biV ex .isi [d, .ty n] h Q = (isTyN n = true ∧ match tyN h d with
    | some a => Q (.bl (isiB a n)) h
    | none => False) := fun _ ne => by
    cases d <;> first | rfl | exact absurd rfl (ne _ _)
  have ne : ∀ c a, d ≠ .exc c a := fun c a w => by rw [w] at e; cases e
  rw [z (ne _ _) ne, e]
  exact propext ⟨fun z => z.2, fun z => ⟨hn, z⟩⟩
theorem bi_exc {ex : Nat → Nat → Option Bool} {c g : Nat} {a : Addr} {b : Bool} {Q : VQ} (e : ex c g = some b) (hg : g ≠ 1000000) : biV ex .isi [.exc c a, .glo g] h Q = Q (.bl b) h := by
  have z : biV ex .isi [.exc c a, .glo g] h Q = (g ≠ 1000000 ∧ exmK (ex c g) (fun _ => Q (.bl true) h) fun _ => Q (.bl false) h) := rfl
  rw [z, e]
  cases b <;> exact propext ⟨fun z => z.2, fun z => ⟨hg, z⟩⟩
theorem bi_excV {ex : Nat → Nat → Option Bool} {c : Nat} {a : Addr} {b : Bool} {Q : VQ} (e : ex c 1000000 = some b) : biV ex .isi [.exc c a, .ty "ValueError"] h Q = Q (.bl b) h := by
  have z : biV ex .isi [.exc c a, .ty "ValueError"] h Q = ("ValueError" = "ValueError" ∧ exmK (ex c 1000000) (fun _ => Q (.bl true) h) fun _ => Q (.bl false) h) := rfl
  rw [z, e]
  cases b <;> exact propext ⟨fun z => z.2, fun z => ⟨rfl, z⟩⟩
theorem bi_isi2 {ex : Nat → Nat → Option Bool} {d : D} {n m a : String} {Q : VQ} (e : tyN h d = some a) (hn : isTyN n = true) (hm : isTyN m = true) : biV ex .isi [d, .tup [.ty n, .ty m]] h Q = Q (.bl (isiB a n || isiB a m)) h := by
  cases d <;> (show ((isTyN n = true ∧ isTyN m = true) ∧ _) = _) <;> (rw [e]; dsimp only; exact propext ⟨fun z => z.2, fun z => ⟨⟨hn, hm⟩, z⟩⟩)
theorem ty_int {i : Int} : tyN h (.int i) = some "int" := rfl
theorem ty_bl {i : Bool} : tyN h (.bl i) = some "bool" := rfl
theorem ty_str {i : Str} : tyN h (.str i) = some "str" := rfl
theorem ty_tup {i : List D} : tyN h (.tup i) = some "tuple" := rfl
theorem ty_kls {i : List D} : tyN h (.kls i) = some "list" := rfl
theorem ty_non : tyN h .non = some "NoneType" := rfl
theorem ty_lst {a : Addr} {xs : List D} (e : h a = some (.lst xs)) : tyN h (.ref a) = some "list" := by
  unfold tyN
  dsimp only
  rw [e]
theorem ty_dic {a : Addr} {xs : List (Key × D)} (e : h a = some (.dic xs)) : tyN h (.ref a) = some "dict" := by
  unfold tyN
  dsimp only
  rw [e]
theorem ty_ref {a : Addr} {t : String} (e : tyN h (.ref a) = some t) : t = "list" ∨ t = "dict" := by
  unfold tyN at e
  dsimp only at e
  split at e
  · cases e; exact .inl rfl
  · cases e; exact .inr rfl
  · cases e
theorem at_nn {xs : List D} {i : Int} (h0 : 0 ≤ i) (h1 : i < xs.length) : atD xs i = xs[i.toNat]? := by
  show ((L2.ixN xs.length i).bind fun j => xs[j]?) = _
  unfold L2.ixN
  rw [if_pos h0, if_pos h1]
  rfl
theorem at_neg {xs : List D} {i : Int} (h0 : i < 0) (h1 : -(xs.length : Int) ≤ i) : atD xs i = xs[(i + xs.length).toNat]? := by
  show ((L2.ixN xs.length i).bind fun j => xs[j]?) = _
  unfold L2.ixN
  rw [if_neg (by omega), if_pos h1]
  rfl
theorem set_dic {a : Addr} {y d : D} {k : HD → Prop} {kvs : List (Key × D)} {kk : Key} (e : h a = some (.dic kvs)) (hk : keyD y = some kk) (hl : kvs.length < sizeLine) (z : k (hup h a (.dic (putD kvs kk d)))) : setV (.ref a) y d h k := by
  unfold setV
  dsimp only
  rw [e]
  dsimp only
  rw [hk]
  exact ⟨hl, z⟩
theorem it_rng1 {n : Int} {Q : List D → List Gd → HD → Prop} : itK .rng1 [.int n] h Q = ((-(2 ^ 62) ≤ n ∧ n < 2 ^ 62) ∧ Q (rngL 0 n.toNat) [] h) := rfl
theorem it_rng2 {i j : Int} {Q : List D → List Gd → HD → Prop} : itK .rng2 [.int i, .int j] h Q = ((-(2 ^ 62) ≤ i ∧ i < 2 ^ 62 ∧ -(2 ^ 62) ≤ j ∧ j < 2 ^ 62) ∧ Q (rngL i (j - i).toNat) [] h) := rfl
theorem it_zip2 {xs ys : List D} {Q : List D → List Gd → HD → Prop} : itK .zip2 [.tup xs, .tup ys] h Q = Q (zipL xs ys) [] h := rfl
theorem it_zip3 {xs ys zs : List D} {Q : List D → List Gd → HD → Prop} : itK .zip3 [.tup xs, .tup ys, .tup zs] h Q = Q (zipL3 xs ys zs) [] h := rfl
theorem it_zipS {s : Str} {ys : List D} {Q : List D → List Gd → HD → Prop} : itK .zipS [.str s, .tup ys] h Q = Q (zipL (chars s) ys) [] h := rfl
theorem it_enumT {xs : List D} {Q : List D → List Gd → HD → Prop} : itK .enumT [.tup xs] h Q = Q (enumL xs) [] h := rfl
theorem iv_tup {xs : List D} {k : List D → Gd → Prop} : itV (.tup xs) h k = k xs .tp := rfl
theorem iv_kls {xs : List D} {k : List D → Gd → Prop} : itV (.kls xs) h k = k xs .kl := rfl
theorem iv_str {s : Str} {k : List D → Gd → Prop} : itV (.str s) h k = k (chars s) .st := rfl
theorem iv_ref {a : Addr} {xs : List D} {k : List D → Gd → Prop} (e : h a = some (.lst xs)) : itV (.ref a) h k = k xs (.ls a (.lst xs)) := by
  unfold itV
  dsimp only
  rw [e]
theorem gds_nil : gdsOk h [] := fun _ z => by cases z
theorem gds_tp : gdsOk h [.tp] := fun x z => by
  rcases List.mem_cons.mp z with rfl | z
  · exact True.intro
  · cases z
theorem gds_hid : gdsOk h [.hid] := fun x z => by
  rcases List.mem_cons.mp z with rfl | z
  · exact True.intro
  · cases z
theorem gds_kl : gdsOk h [.kl] := fun x z => by
  rcases List.mem_cons.mp z with rfl | z
  · exact True.intro
  · cases z
theorem gds_st : gdsOk h [.st] := fun x z => by
  rcases List.mem_cons.mp z with rfl | z
  · exact True.intro
  · cases z
theorem gds_ls {a : Addr} {xs : List D} (e : h a = some (.lst xs)) : gdsOk h [.ls a (.lst xs)] := fun x z => by
  rcases List.mem_cons.mp z with rfl | z
  · exact e
  · cases z
theorem bl_tup {xs : List D} {g : Gd} {Q : VQ} : blV .tuple xs g h Q = ((g.isL || (match g with | .tp => true | _ => false)) = true ∧ Q (.tup xs) h) := rfl
theorem bl_list {xs : List D} {g : Gd} {Q : VQ} : blV .list xs g h Q = ((g.isL || (match g with | .tp => true | _ => false)) = true ∧ ∀ p, h p = none → Q (.ref p) (hup h p (.lst xs))) := rfl
theorem bl_all {bs : List Bool} {g : Gd} {Q : VQ} (e : g.isL = true) (z : Q (.bl (bs.all id)) h) : blV .all (bs.map .bl) g h Q := ⟨e, bs, rfl, z⟩
theorem bl_any {bs : List Bool} {g : Gd} {Q : VQ} (e : g.isL = true) (z : Q (.bl (bs.any id)) h) : blV .any (bs.map .bl) g h Q := ⟨e, bs, rfl, z⟩
theorem bl_sum {bs : List Int} {g : Gd} {Q : VQ} (e : g.isL = true) (z : Q (.int bs.sum) h) : blV .sum (bs.map .int) g h Q := ⟨e, bs, rfl, z⟩
end
/-! ### loops -/
theorem whl_of {c : TTD} {b : TSD} {Z : En} (I : Nat → Sl → HD → Prop)
    (step : ∀ n σ h (V : Sl → HD → Prop), I n σ h → (∀ m σ' h', m < n → I m σ' h' → V σ' h') → c σ h (fun k h1 => if k = true then b { Z with nx := V, ct := V, bk := Z.nx } σ h1 else Z.nx σ h1) fun x h' => Z.ex x σ h')
    {n : Nat} {σ : Sl} {h : HD} (i : I n σ h) : ∃ N, whlR c b Z N σ h := by
  have key : ∀ N n σ h, n < N → I n σ h → whlR c b Z N σ h := by
    intro N
    induction N with
    | zero => intro n σ h z; exact absurd z (Nat.not_lt_zero _)
    | succ N ih => intro n σ h z i; exact step n σ h _ i fun m σ' h' hm im => ih m σ' h' (by omega) im
  exact ⟨n + 1, key (n + 1) n σ h (by omega) i⟩
theorem for_of {tg : Tg} {b : TSD} {g : List Gd} {Z : En} (I : Nat → Sl → HD → Prop) {xs : List D}
    (step : ∀ k x σ h (V : Sl → HD → Prop), xs[k]? = some x → I k σ h → (∀ σ' h', I (k + 1) σ' h' → gdsOk h' g → V σ' h') → tgS tg x h σ fun σ2 => b { Z with nx := V, ct := V, bk := Z.nx } σ2 h)
    (fin : ∀ σ h, I xs.length σ h → Z.nx σ h) {σ : Sl} {h : HD} (i : I 0 σ h) : forR tg b g Z xs σ h := by
  have key : ∀ (ys : List D) (k : Nat) σ h, xs.drop k = ys → I k σ h → k + ys.length = xs.length → forR tg b g Z ys σ h := by
    intro ys
    induction ys with
    | nil =>
      intro k σ h e i hl
      simp at hl
      subst hl
      exact fin σ h i
    | cons y ys ih =>
      intro k σ h e i hl
      have e1 : xs[k]? = some y := by
        have := congrArg (fun l : List D => l[0]?) e
        rw [List.getElem?_drop] at this
        simpa using this
      have e2 : xs.drop (k + 1) = ys := by rw [← List.drop_drop, e] <;> rfl
      refine step k y σ h _ e1 i fun σ' h' i' gd => ⟨gd, ih (k + 1) σ' h' e2 i' ?_⟩
      rw [List.length_cons] at hl
      omega
  exact key xs 0 σ h rfl i (by simp)
theorem cmp_of {tg : Tg} {own : List Nat} {t : TTD} {e : TED} {σ : Sl} {g : List Gd} {q : List D → HD → Prop} (I : Nat → List D → HD → Prop) {xs : List D}
    (step : ∀ k x acc h (V : List D → HD → Prop), xs[k]? = some x → I k acc h → (∀ acc' h', I (k + 1) acc' h' → V acc' h') → tgS tg x h (wipeD σ own) fun σ2 => t σ2 h (fun b h2 => if b = true then e σ2 h2 (fun y h3 => gdsOk h3 g ∧ acc.length < sizeLine ∧ V (acc ++ [y]) h3) fun _ _ => False
    else gdsOk h2 g ∧ V acc h2) fun _ _ => False)
    (fin : ∀ acc h, I xs.length acc h → q acc h) {h : HD} (i : I 0 [] h) : cmpR tg own t e σ g xs [] h q := by
  have key : ∀ (ys : List D) (k : Nat) acc h, xs.drop k = ys → I k acc h → k + ys.length = xs.length → cmpR tg own t e σ g ys acc h q := by
    intro ys
    induction ys with
    | nil =>
      intro k acc h e i hl
      simp at hl
      subst hl
      exact fin acc h i
    | cons y ys ih =>
      intro k acc h e i hl
      have e1 : xs[k]? = some y := by
        have := congrArg (fun l : List D => l[0]?) e
        rw [List.getElem?_drop] at this
        simpa using this
      have e2 : xs.drop (k + 1) = ys := by rw [← List.drop_drop, e] <;> rfl
      refine step k y acc h _ e1 i fun acc' h' i' => ih (k + 1) acc' h' e2 i' ?_
      rw [List.length_cons] at hl
      omega
  exact key xs 0 [] h rfl i (by simp)
end Nd
/-! Nd19: comprehensions that change nothing; things whose kinds are known. -/
namespace Nd
open PySem PySem.Spec PyProof.Rows L2
section
variable {C : Ca} {h : HD}
theorem tru_id {σ : Sl} {q : Bool → HD → Prop} {r : XQ} : (dens C .nil).an.t σ h q r = q true h := rfl
/-- [f(x) for x in xs] -/
theorem cmp_mapL {α : Type} {tg : Tg} {own : List Nat} {e : TED} {σ : Sl} {g : List Gd} {q : List D → HD → Prop} {l : List α} {w : α → D} (f : α → D)
    (step : ∀ x ∈ l, ∀ q' : VQ, q' (f x) h → tgS tg (w x) h (wipeD σ own) fun σ2 => e σ2 h q' fun _ _ => False) (hg : gdsOk h g) (hl : l.length ≤ sizeLine) (fin : q (l.map f) h) : cmpR tg own (fun _ h q _ => q true h) e σ g (l.map w) [] h q := by
  refine cmp_of (fun j acc h1 => h1 = h ∧ acc = (l.take j).map f) ?_ ?_ ⟨rfl, rfl⟩
  · rintro j x acc h1 V hj ⟨rfl, rfl⟩ hV
    rw [List.getElem?_map] at hj
    obtain ⟨y, hy, ey⟩ := Option.map_eq_some_iff.mp hj
    clear hj
    subst ey
    have hj := hy
    clear hy
    have hm := List.mem_of_getElem? hj
    have hlt := (List.getElem?_eq_some_iff.mp hj).1
    exact step y hm (fun y h3 => gdsOk h3 g ∧ ((l.take j).map f).length < sizeLine ∧ V ((l.take j).map f ++ [y]) h3) ⟨hg, by rw [List.length_map, List.length_take]; omega, hV _ _ ⟨rfl, by rw [List.take_add_one, hj, List.map_append]; rfl⟩⟩
  · rintro acc h1 ⟨rfl, rfl⟩
    rw [List.length_map, List.take_length]
    exact fin
theorem cmp_map {tg : Tg} {own : List Nat} {e : TED} {σ : Sl} {g : List Gd} {q : List D → HD → Prop} {xs : List D} (f : D → D)
    (step : ∀ x ∈ xs, ∀ q' : VQ, q' (f x) h → tgS tg x h (wipeD σ own) fun σ2 => e σ2 h q' fun _ _ => False) (hg : gdsOk h g) (hl : xs.length ≤ sizeLine) (fin : q (xs.map f) h) : cmpR tg own (fun _ h q _ => q true h) e σ g xs [] h q := by
  have := cmp_mapL (h := h) (tg := tg) (own := own) (e := e) (σ := σ) (g := g) (q := q) (l := xs) (w := fun x => x) f step hg hl fin
  rw [List.map_id'] at this
  exact this
/-- [x for x in xs if p(x)], the test and the item as they are told -/
theorem cmp_filtL {α : Type} {tg : Tg} {own : List Nat} {t : TTD} {e : TED} {σ : Sl} {g : List Gd} {q : List D → HD → Prop} {l : List α} {w : α → D} (p : α → Bool) (f : α → D)
    (step : ∀ x ∈ l, ∀ q' : VQ, ∀ k' : HD → Prop, (p x = true → q' (f x) h) → (p x = false → k' h) → tgS tg (w x) h (wipeD σ own) fun σ2 => t σ2 h (fun b h2 => if b = true then e σ2 h2 q' fun _ _ => False else k' h2) fun _ _ => False)
    (hg : gdsOk h g) (hl : l.length ≤ sizeLine) (fin : q ((l.filter p).map f) h) : cmpR tg own t e σ g (l.map w) [] h q := by
  refine cmp_of (fun j acc h1 => h1 = h ∧ acc = ((l.take j).filter p).map f) ?_ ?_ ⟨rfl, rfl⟩
  · rintro j x acc h1 V hj ⟨rfl, rfl⟩ hV
    rw [List.getElem?_map] at hj
    obtain ⟨y, hy, ey⟩ := Option.map_eq_some_iff.mp hj
    clear hj
    subst ey
    have hj := hy
    clear hy
    have hm := List.mem_of_getElem? hj
    have hlt := (List.getElem?_eq_some_iff.mp hj).1
    have e0 : l.take (j + 1) = l.take j ++ [y] := by rw [List.take_add_one, hj]; rfl
    have len : (((l.take j).filter p).map f).length < sizeLine := by
      rw [List.length_map]
      have := List.length_filter_le p (l.take j)
      rw [List.length_take] at this
      omega
    refine step y hm (fun y h3 => gdsOk h3 g ∧ (((l.take j).filter p).map f).length < sizeLine ∧ V (((l.take j).filter p).map f ++ [y]) h3) (fun h2 => gdsOk h2 g ∧ V (((l.take j).filter p).map f) h2) (fun ep => ⟨hg, len, hV _ _ ⟨rfl, ?_⟩⟩) fun ep => ⟨hg, hV _ _ ⟨rfl, ?_⟩⟩
    · rw [e0, List.filter_append, List.filter_cons_of_pos ep, List.map_append]; rfl
    · rw [e0, List.filter_append, List.filter_cons_of_neg (by rw [ep]; exact Bool.false_ne_true), List.map_append]
      simp
  · rintro acc h1 ⟨rfl, rfl⟩
    rw [List.length_map, List.take_length]
    exact fin
theorem bl_allL {α : Type} {l : List α} {p : α → Bool} {g : Gd} {Q : VQ} (e : g.isL = true) (z : Q (.bl (l.all p)) h) : blV .all (l.map fun x => .bl (p x)) g h Q :=
  ⟨e, l.map p, by rw [List.map_map]; rfl, by rw [List.all_map]; exact z⟩
theorem bl_anyL {α : Type} {l : List α} {p : α → Bool} {g : Gd} {Q : VQ} (e : g.isL = true) (z : Q (.bl (l.any p)) h) : blV .any (l.map fun x => .bl (p x)) g h Q :=
  ⟨e, l.map p, by rw [List.map_map]; rfl, by rw [List.any_map]; exact z⟩
/-- the least and the greatest of some numbers -/
def loZ : List Int → Int
  | [] => 0
  | x :: xs => xs.foldl (fun a b => if b < a then b else a) x
def hiZ : List Int → Int
  | [] => 0
  | x :: xs => xs.foldl (fun a b => if a < b then b else a) x
theorem fold_lo : ∀ (xs : List Int) (x : Int), (xs.foldl (fun a b => if b < a then b else a) x = x ∨ xs.foldl (fun a b => if b < a then b else a) x ∈ xs) ∧ xs.foldl (fun a b => if b < a then b else a) x ≤ x ∧ ∀ y ∈ xs, xs.foldl (fun a b => if b < a then b else a) x ≤ y
  | [], x => ⟨.inl rfl, Int.le_refl _, fun _ h => by cases h⟩
  | b :: xs, x => by
    obtain ⟨h1, h2, h3⟩ := fold_lo xs (if b < x then b else x)
    rw [List.foldl_cons]
    generalize xs.foldl (fun a b => if b < a then b else a) (if b < x then b else x) = z at h1 h2 h3
    refine ⟨?_, ?_, fun y hy => ?_⟩
    · rcases h1 with h1 | h1
      · split at h1
        · exact .inr (by rw [h1]; exact List.mem_cons_self)
        · exact .inl h1
      · exact .inr (List.mem_cons_of_mem _ h1)
    · split at h2 <;> omega
    · rcases List.mem_cons.mp hy with e | hy
      · split at h2 <;> omega
      · exact h3 y hy
theorem fold_hi : ∀ (xs : List Int) (x : Int), (xs.foldl (fun a b => if a < b then b else a) x = x ∨ xs.foldl (fun a b => if a < b then b else a) x ∈ xs) ∧ x ≤ xs.foldl (fun a b => if a < b then b else a) x ∧ ∀ y ∈ xs, y ≤ xs.foldl (fun a b => if a < b then b else a) x
  | [], x => ⟨.inl rfl, Int.le_refl _, fun _ h => by cases h⟩
  | b :: xs, x => by
    obtain ⟨h1, h2, h3⟩ := fold_hi xs (if x < b then b else x)
    rw [List.foldl_cons]
    generalize xs.foldl (fun a b => if a < b then b else a) (if x < b then b else x) = z at h1 h2 h3
    refine ⟨?_, ?_, fun y hy => ?_⟩
    · rcases h1 with h1 | h1
      · split at h1
        · exact .inr (by rw [h1]; exact List.mem_cons_self)
        · exact .inl h1
      · exact .inr (List.mem_cons_of_mem _ h1)
    · split at h2 <;> omega
    · rcases List.mem_cons.mp hy with e | hy
      · split at h2 <;> omega
      · exact h3 y hy
theorem loZ_mem {l : List Int} (n : l ≠ []) : loZ l ∈ l := by
  cases l with
  | nil => exact absurd rfl n
  | cons x xs => exact (fold_lo xs x).1.elim (fun e => by show xs.foldl _ x ∈ _; rw [e]; exact List.mem_cons_self) fun e => List.mem_cons_of_mem _ e
theorem hiZ_mem {l : List Int} (n : l ≠ []) : hiZ l ∈ l := by
  cases l with
  | nil => exact absurd rfl n
  | cons x xs => exact (fold_hi xs x).1.elim (fun e => by show xs.foldl _ x ∈ _; rw [e]; exact List.mem_cons_self) fun e => List.mem_cons_of_mem _ e
theorem loZ_le {l : List Int} : ∀ y ∈ l, loZ l ≤ y := by
  cases l with
  | nil => exact fun _ h => by cases h
  | cons x xs => exact fun y hy => (List.mem_cons.mp hy).elim (fun e => e ▸ (fold_lo xs x).2.1) ((fold_lo xs x).2.2 y)
theorem hiZ_ge {l : List Int} : ∀ y ∈ l, y ≤ hiZ l := by
  cases l with
  | nil => exact fun _ h => by cases h
  | cons x xs => exact fun y hy => (List.mem_cons.mp hy).elim (fun e => e ▸ (fold_hi xs x).2.1) ((fold_hi xs x).2.2 y)
theorem bl_minL {α : Type} {l : List α} {p : α → Int} {g : Gd} {Q : VQ} (e : g.isL = true) (n : l ≠ []) (z : Q (.int (loZ (l.map p))) h) : blV .min (l.map fun x => .int (p x)) g h Q :=
  ⟨e, l.map p, _, by rw [List.map_map]; rfl, loZ_mem (by simpa using n), loZ_le, z⟩
theorem bl_maxL {α : Type} {l : List α} {p : α → Int} {g : Gd} {Q : VQ} (e : g.isL = true) (n : l ≠ []) (z : Q (.int (hiZ (l.map p))) h) : blV .max (l.map fun x => .int (p x)) g h Q :=
  ⟨e, l.map p, _, by rw [List.map_map]; rfl, hiZ_mem (by simpa using n), hiZ_ge, z⟩
theorem eqv_nil : PyData.eqv (.list []) (.list []) = true := by decide +kernel
theorem eq_nil {a b : Addr} {xs : List D} {Q : VQ} (e1 : h a = some (.lst xs)) (e2 : h b = some (.lst [])) (z : Q (.bl xs.isEmpty) h) : eqV (.ref a) (.ref b) h Q := by
  show (∃ p q, Py h (.ref a) p ∧ Py h (.ref b) q ∧ p.depth ≤ 64 ∧ q.depth ≤ 64 ∧ Q (.bl (PyData.eqv p q)) h) ∨ lenNe (.ref a) (.ref b) h Q
  cases xs with
  | nil => exact .inl ⟨_, _, .lst e1 .nil, .lst e2 .nil, by decide, by decide, by rw [eqv_nil]; exact z⟩
  | cons x xs => exact .inr ⟨a, b, _, _, rfl, rfl, e1, e2, by simp, z⟩
theorem ne_nil {a b : Addr} {xs : List D} {Q : VQ} (e1 : h a = some (.lst xs)) (e2 : h b = some (.lst [])) (z : Q (.bl (!xs.isEmpty)) h) : neV (.ref a) (.ref b) h Q := eq_nil e1 e2 ⟨_, rfl, z⟩
/-- data that are equal -/
theorem eq_same {x y : D} {p : PyData} {Q : VQ} (e : ∀ Q, eqV x y h Q = ((∃ p q, Py h x p ∧ Py h y q ∧ p.depth ≤ 64 ∧ q.depth ≤ 64 ∧ Q (.bl (PyData.eqv p q)) h) ∨ lenNe x y h Q)) (h1 : Py h x p) (h2 : Py h y p) (hd : p.depth ≤ 64) (he : PyData.eqv p p = true) (z : Q (.bl true) h) : eqV x y h Q := by
  rw [e]
  exact .inl ⟨p, p, h1, h2, hd, hd, by rw [he]; exact z⟩
theorem set_lst {a : Addr} {xs : List D} {i : Nat} {d : D} {k : HD → Prop} (e : h a = some (.lst xs)) (hi : i < xs.length) (z : k (hup h a (.lst (xs.set i d)))) : setV (.ref a) (.int (i : Nat)) d h k := by
  unfold setV
  dsimp only
  rw [e]
  dsimp only
  have : L2.ixN xs.length (i : Int) = some i := by
    unfold L2.ixN
    split
    · rw [if_pos (by omega)]
      simp
    · omega
  rw [this]
  exact z
/-- the kinds of all that is in a thing are known -/
inductive Kd (s : Addr) (h : HD) : D → Prop
  | non : Kd s h .non
  | bl (b : Bool) : Kd s h (.bl b)
  | int (i : Int) : Kd s h (.int i)
  | str (x : Str) : Kd s h (.str x)
  | tup {xs : List D} : (∀ x ∈ xs, Kd s h x) → Kd s h (.tup xs)
  | ref {a : Addr} {t : String} : a ≠ s → tyN h (.ref a) = some t → Kd s h (.ref a)
variable {s : Addr}
theorem Kd.ty {d : D} (k : Kd s h d) : ∃ t, tyN h d = some t := by
  cases k with
  | ref _ e => exact ⟨_, e⟩
  | _ => exact ⟨_, rfl⟩
theorem Kd.items {xs : List D} (k : Kd s h (.tup xs)) : ∀ x ∈ xs, Kd s h x := by
  cases k with
  | tup z => exact z
theorem Kd.lst {a : Addr} {xs : List D} (n : a ≠ s) (e : h a = some (.lst xs)) : Kd s h (.ref a) := .ref n (ty_lst e)
theorem Kd.dic {a : Addr} {xs : List (Key × D)} (n : a ≠ s) (e : h a = some (.dic xs)) : Kd s h (.ref a) := .ref n (ty_dic e)
theorem kd_ints {is : List Int} : Kd s h (.tup (is.map .int)) := .tup fun x hx => by
  obtain ⟨i, _, rfl⟩ := List.mem_map.mp hx
  exact .int i
theorem Kd.mono {h' : HD} (m : ∀ a o, a ≠ s → h a = some o → h' a = some o) {d : D} (k : Kd s h d) : Kd s h' d := by
  induction k with
  | non => exact .non
  | bl b => exact .bl b
  | int i => exact .int i
  | str x => exact .str x
  | tup _ ih => exact .tup ih
  | @ref a t n e =>
    refine .ref (t := t) n ?_
    unfold tyN at e ⊢
    dsimp only at e ⊢
    cases z : h a with
    | none => rw [z] at e; cases e
    | some o => rw [m a o n z]; rw [z] at e; exact e
end
end Nd
/-! Nd20: plain data: == is being the same. -/
namespace Nd
open PySem PySem.Spec PyProof.Rows L2
mutual
def toP : D → PyData
  | .non => .none
  | .int i => .int i
  | .str s => .str s
  | .bl b => .bool b
  | .tup xs => .tuple (toPs xs)
  | .kls xs => .list (toPs xs)
  | _ => .none
def toPs : List D → List PyData
  | [] => []
  | x :: xs => toP x :: toPs xs
end
/-- numbers, texts, None, tuples of these, n deep at most -/
def clN : Nat → D → Bool
  | _, .non => true
  | _, .int _ => true
  | _, .str _ => true
  | n + 1, .tup xs => xs.all (clN n)
  | _, _ => false
theorem cl_tup {n : Nat} {xs : List D} : clN (n + 1) (.tup xs) = xs.all (clN n) := rfl
theorem toPs_map : ∀ xs : List D, toPs xs = xs.map toP
  | [] => rfl
  | x :: xs => by
    show toP x :: toPs xs = _
    rw [toPs_map xs]; rfl
theorem depthAll_le {n : Nat} : ∀ {xs : List PyData}, (∀ x ∈ xs, x.depth ≤ n) → PyData.depthAll xs ≤ n
  | [], _ => Nat.zero_le _
  | x :: xs, h => Nat.max_le.mpr ⟨h x List.mem_cons_self, depthAll_le fun y hy => h y (List.mem_cons_of_mem _ hy)⟩
section
variable {h : HD}
theorem pys_of {xs : List D} (k : ∀ x ∈ xs, Py h x (toP x)) : Pys h xs (xs.map toP) := by
  induction xs with
  | nil => exact .nil
  | cons x xs ih => exact .cons (k x List.mem_cons_self) (ih fun y hy => k y (List.mem_cons_of_mem _ hy))
theorem py_cl : ∀ (n : Nat) {d : D}, clN n d = true → Py h d (toP d) ∧ (toP d).depth ≤ n
  | n, .non, _ => ⟨.non, Nat.zero_le _⟩
  | n, .int i, _ => ⟨.int i, Nat.zero_le _⟩
  | n, .str s, _ => ⟨.str s, Nat.zero_le _⟩
  | 0, .tup xs, z => by cases z
  | n + 1, .tup xs, z => by
    have z := List.all_eq_true.mp (show xs.all (clN n) = true from z)
    have e : toP (.tup xs) = .tuple (xs.map toP) := by
      show PyData.tuple (toPs xs) = _
      rw [toPs_map]
    rw [e]
    refine ⟨.tup (pys_of fun x hx => (py_cl n (z x hx)).1), ?_⟩
    show PyData.depthAll _ + 1 ≤ n + 1
    refine Nat.succ_le_succ (depthAll_le fun x hx => ?_)
    obtain ⟨y, hy, rfl⟩ := List.mem_map.mp hx
    exact (py_cl n (z y hy)).2
  | n, .bl _, z => by cases n <;> cases z
  | n, .ref _, z => by cases n <;> cases z
  | n, .ty _, z => by cases n <;> cases z
  | n, .glo _, z => by cases n <;> cases z
  | n, .exc _ _, z => by cases n <;> cases z
  | n, .kls _, z => by cases n <;> cases z
theorem eqvAll_cl {n : Nat} (ih : ∀ x y : D, clN n x = true → clN n y = true → (PyData.eqv (toP x) (toP y) = true ↔ x = y)) : ∀ {xs ys : List D}, xs.all (clN n) = true → ys.all (clN n) = true → (PyData.eqvAll (xs.map toP) (ys.map toP) = true ↔ xs = ys)
  | [], [], _, _ => ⟨fun _ => rfl, fun _ => rfl⟩
  | [], y :: ys, _, _ => ⟨fun z => (nomatch (show false = true from z)), fun z => (nomatch z)⟩
  | x :: xs, [], _, _ => ⟨fun z => (nomatch (show false = true from z)), fun z => (nomatch z)⟩
  | x :: xs, y :: ys, a, b => by
    obtain ⟨a1, a2⟩ := Bool.and_eq_true_iff.mp (show (clN n x && xs.all (clN n)) = true from a)
    obtain ⟨b1, b2⟩ := Bool.and_eq_true_iff.mp (show (clN n y && ys.all (clN n)) = true from b)
    show (PyData.eqv (toP x) (toP y) && PyData.eqvAll (xs.map toP) (ys.map toP)) = true ↔ _
    rw [Bool.and_eq_true, ih x y a1 b1, eqvAll_cl ih a2 b2, List.cons.injEq]
theorem eqv_cl : ∀ (n : Nat) (x y : D), clN n x = true → clN n y = true → (PyData.eqv (toP x) (toP y) = true ↔ x = y) := by
  intro n
  induction n with
  | zero =>
    intro x y a b
    cases x <;> first | (cases a; done) | skip
    all_goals (cases y <;> first | (cases b; done) | skip)
    all_goals (show (_ : Bool) = true ↔ _; first | (exact ⟨fun _ => rfl, fun _ => rfl⟩) | (exact ⟨fun z => (nomatch (show false = true from z)), fun z => (nomatch z)⟩) | skip)
    · rename_i i j
      show (i == j) = true ↔ _
      rw [beq_iff_eq, D.int.injEq]
    · rename_i i j
      show (i == j) = true ↔ _
      rw [beq_iff_eq, D.str.injEq]
  | succ n ih =>
    intro x y a b
    cases x <;> first | (cases a; done) | skip
    all_goals (cases y <;> first | (cases b; done) | skip)
    all_goals first | (exact ⟨fun _ => rfl, fun _ => rfl⟩) | (exact ⟨fun z => (nomatch (show false = true from z)), fun z => (nomatch z)⟩) | skip
    · rename_i i j
      show (i == j) = true ↔ _
      rw [beq_iff_eq, D.int.injEq]
    · rename_i i j
      show (i == j) = true ↔ _
      rw [beq_iff_eq, D.str.injEq]
    · rename_i xs ys
      show PyData.eqvAll (toPs xs) (toPs ys) = true ↔ _
      rw [toPs_map, toPs_map, eqvAll_cl ih a b, D.tup.injEq]
theorem eq_tups {n : Nat} {xs ys : List D} {Q : VQ} (hn : n ≤ 64) (a : clN n (.tup xs) = true) (b : clN n (.tup ys) = true) (z : ∀ c : Bool, (c = true ↔ xs = ys) → Q (.bl c) h) : eqV (.tup xs) (.tup ys) h Q := by
  have p1 := py_cl (h := h) n a
  have p2 := py_cl (h := h) n b
  refine .inl ⟨_, _, p1.1, p2.1, Nat.le_trans p1.2 hn, Nat.le_trans p2.2 hn, z _ ?_⟩
  rw [eqv_cl n _ _ a b, D.tup.injEq]
theorem eq_lsts {n : Nat} {a b : Addr} {xs ys : List D} {Q : VQ} (e1 : h a = some (.lst xs)) (e2 : h b = some (.lst ys)) (hn : n < 64) (c1 : xs.all (clN n) = true) (c2 : ys.all (clN n) = true) (z : ∀ c : Bool, (c = true ↔ xs = ys) → Q (.bl c) h) : eqV (.ref a) (.ref b) h Q := by
  have k : ∀ {xs : List D}, xs.all (clN n) = true → Pys h xs (xs.map toP) ∧ PyData.depthAll (xs.map toP) ≤ n := fun c => by
    rw [List.all_eq_true] at c
    refine ⟨pys_of fun x hx => (py_cl n (c x hx)).1, depthAll_le fun x hx => ?_⟩
    obtain ⟨y, hy, rfl⟩ := List.mem_map.mp hx
    exact (py_cl (h := h) n (c y hy)).2
  obtain ⟨p1, d1⟩ := k c1
  obtain ⟨p2, d2⟩ := k c2
  refine .inl ⟨_, _, .lst e1 p1, .lst e2 p2, ?_, ?_, z _ ?_⟩
  · show PyData.depthAll _ + 1 ≤ 64
    omega
  · show PyData.depthAll _ + 1 ≤ 64
    omega
  · show PyData.eqvAll _ _ = true ↔ _
    exact eqvAll_cl (eqv_cl n) c1 c2
theorem ne_tups {n : Nat} {xs ys : List D} {Q : VQ} (hn : n ≤ 64) (a : clN n (.tup xs) = true) (b : clN n (.tup ys) = true) (z : ∀ c : Bool, (c = true ↔ xs = ys) → Q (.bl (!c)) h) : neV (.tup xs) (.tup ys) h Q := eq_tups hn a b fun c hc => ⟨c, rfl, z c hc⟩
theorem ne_lsts {n : Nat} {a b : Addr} {xs ys : List D} {Q : VQ} (e1 : h a = some (.lst xs)) (e2 : h b = some (.lst ys)) (hn : n < 64) (c1 : xs.all (clN n) = true) (c2 : ys.all (clN n) = true) (z : ∀ c : Bool, (c = true ↔ xs = ys) → Q (.bl (!c)) h) : neV (.ref a) (.ref b) h Q := eq_lsts e1 e2 hn c1 c2 fun c hc => ⟨c, rfl, z c hc⟩
theorem cl_ints {n : Nat} {is : List Int} : clN (n + 1) (.tup (is.map .int)) = true := by
  rw [cl_tup, List.all_eq_true]
  intro x hx
  obtain ⟨i, _, rfl⟩ := List.mem_map.mp hx
  cases n <;> rfl
theorem wgt_ints : ∀ {is : List Int}, (∀ i ∈ is, i.natAbs < 2 ^ 40) → PyData.weightAll (is.map .int) ≤ 41 * is.length
  | [], _ => Nat.le_refl _
  | i :: is, h => by
    have ih := wgt_ints fun j hj => h j (List.mem_cons_of_mem _ hj)
    have hi := h i List.mem_cons_self
    show (if (i == 0) = true then 0 else i.natAbs.log2 + 1) + 1 + PyData.weightAll (is.map .int) ≤ 41 * (is.length + 1)
    have : (if (i == 0) = true then 0 else i.natAbs.log2 + 1) ≤ 40 := by
      split
      · omega
      · rename_i z
        have z : i.natAbs ≠ 0 := by
          intro e
          exact z (beq_iff_eq.mpr (by omega))
        have := (Nat.log2_lt z).mpr hi
        omega
    omega
end
end Nd
namespace T
open PySem PySem.Spec PyProof.Rows L2 Nd
/-! is_whole(thing, least, most) | 0:thing 1:least 2:most -/
def b2_0 : B := .cons (.ret (.an (.cons (.bi .isi (.cons (.var 0) (.cons (.ty "int") .nil))) (.cons (.nt (.bi .isi (.cons (.var 0) (.cons (.ty "bool") .nil)))) (.cons (.chn .LtE .LtE (.var 1) (.var 0) (.var 2)) .nil))))) .nil
/-! is_point(thing) | 0:thing 1:number -/
def b1_0a_0 : B := .cons (.ret (.cst (.bl false))) .nil
def b1_1 : B := .cons (.ret (.bl .all (.comp .seq (.cons (.var 0) .nil) (.nm 1) [1] .nil (.call 2 (.cons (.var 1) (.cons (.neg (.gl "GREATEST" (.int 1000000000))) (.cons (.gl "GREATEST" (.int 1000000000)) .nil))))))) .nil
def b1_0 : B := .cons (.ite (.or (.cons (.nt (.bi .isi (.cons (.var 0) (.cons (.ty "tuple") .nil)))) (.cons (.nt (.chn .LtE .LtE (.cst (.int 1)) (.bi .len (.cons (.var 0) .nil)) (.gl "MOST_WIDE" (.int 4)))) .nil))) b1_0a_0 .nil) b1_1
/-! is_way(thing) | 0:thing -/
def b33_0 : B := .cons (.ret (.an (.cons (.bi .isi (.cons (.var 0) (.cons (.ty "str") .nil))) (.cons (.cmp .In (.var 0) (.gl "WAYS" (.tup [(.str "taxi"), (.str "chess"), (.str "square")]))) .nil)))) .nil
/-! _law_begun(_law_script) | 0:_law_script 1:_law_cell -/
def b8_0 : B := .cons (.ret (.dic [.inr "cells", .inr "at", .inr "rest", .inr "turn", .inr "more"] (.cons (.comp .seq (.cons (.var 0) .nil) (.nm 1) [1] .nil (.bi .abs (.cons (.var 1) .nil))) (.cons (.cst (.int 0)) (.cons (.cst (.int 0)) (.cons (.cst (.int 0)) (.cons (.bin .Add (.cst (.int 7)) (.bi .len (.cons (.var 0) .nil))) .nil))))))) .nil
/-! _law_take(_law_state, _law_many) | 0:_law_state 1:_law_many 2:_law_cells 3:_law_cell 4:_law_found -/
def b3_1a_0a_0 : B := .cons (.setS (.var 0) (.cst (.str "rest")) (.sub (.var 2) (.sub (.var 0) (.cst (.str "at"))))) .nil
def b3_1a_1 : B := .cons (.setS (.var 0) (.cst (.str "at")) (.bin .Add (.sub (.var 0) (.cst (.str "at"))) (.cst (.int 1)))) .nil
def b3_1a_0 : B := .cons (.ite (.cmp .GtE (.sub (.var 2) (.sub (.var 0) (.cst (.str "at")))) (.bin .Pow (.cst (.int 10)) (.cst (.int 18)))) b3_1a_0a_0 .nil) b3_1a_1
def b3_2a_2 : B := .cons (.ret (.var 4)) .nil
def b3_2a_1 : B := .cons (.setS (.var 0) (.cst (.str "rest")) (.bin .FloorDiv (.sub (.var 0) (.cst (.str "rest"))) (.var 1))) b3_2a_2
def b3_2a_0 : B := .cons (.set 4 (.bin .Mod (.sub (.var 0) (.cst (.str "rest"))) (.var 1))) b3_2a_1
def b3_4a_0 : B := .cons (.set 3 (.sub (.var 2) (.bin .Mod (.sub (.var 0) (.cst (.str "turn"))) (.bi .len (.cons (.var 2) .nil))))) .nil
def b3_7 : B := .cons (.ret (.bin .Mod (.bin .Mod (.bin .Add (.bin .Mult (.sub (.var 0) (.cst (.str "more"))) (.sub (.var 0) (.cst (.str "more")))) (.bin .Mult (.cst (.int 16807)) (.sub (.var 0) (.cst (.str "more"))))) (.cst (.int 2147483629))) (.var 1))) .nil
def b3_6 : B := .cons (.setS (.var 0) (.cst (.str "more")) (.bin .Mod (.bin .Add (.bin .Add (.bin .Mult (.sub (.var 0) (.cst (.str "more"))) (.cst (.int 48271))) (.var 3)) (.sub (.var 0) (.cst (.str "turn")))) (.cst (.int 2147483647)))) b3_7
def b3_5 : B := .cons (.setS (.var 0) (.cst (.str "turn")) (.bin .Add (.sub (.var 0) (.cst (.str "turn"))) (.cst (.int 1)))) b3_6
def b3_4 : B := .cons (.ite (.cmp .Gt (.bi .len (.cons (.var 2) .nil)) (.cst (.int 0))) b3_4a_0 .nil) b3_5
def b3_3 : B := .cons (.set 3 (.cst (.int 0))) b3_4
def b3_2 : B := .cons (.ite (.cmp .Gt (.sub (.var 0) (.cst (.str "rest"))) (.cst (.int 1))) b3_2a_0 .nil) b3_3
def b3_1 : B := .cons (.whl (.an (.cons (.cmp .Lt (.sub (.var 0) (.cst (.str "rest"))) (.cst (.int 2))) (.cons (.cmp .Lt (.sub (.var 0) (.cst (.str "at"))) (.bi .len (.cons (.var 2) .nil))) .nil))) b3_1a_0) b3_2
def b3_0 : B := .cons (.set 2 (.sub (.var 0) (.cst (.str "cells")))) b3_1
/-! _law_pick(_law_state, _law_some) | 0:_law_state 1:_law_some -/
def b0_0 : B := .cons (.ret (.sub (.var 1) (.call 3 (.cons (.var 0) (.cons (.bi .len (.cons (.var 1) .nil)) .nil))))) .nil
/-! _law_number(_law_state, _law_kind) | 0:_law_state 1:_law_kind -/
def b5_0a_0 : B := .cons (.ret (.call 3 (.cons (.var 0) (.cons (.cst (.int 4)) .nil)))) .nil
def b5_1a_0 : B := .cons (.ret (.bin .Sub (.call 3 (.cons (.var 0) (.cons (.cst (.int 21)) .nil))) (.cst (.int 10)))) .nil
def b5_2a_0 : B := .cons (.ret (.bin .Sub (.call 3 (.cons (.var 0) (.cons (.bin .Add (.bin .Mult (.cst (.int 2)) (.bin .Pow (.cst (.int 10)) (.cst (.int 9)))) (.cst (.int 1))) .nil))) (.bin .Pow (.cst (.int 10)) (.cst (.int 9))))) .nil
def b5_3 : B := .cons (.ret (.call 0 (.cons (.var 0) (.cons (.lst (.cons (.neg (.bin .Pow (.cst (.int 10)) (.cst (.int 9)))) (.cons (.bin .Pow (.cst (.int 10)) (.cst (.int 9))) (.cons (.cst (.int 0)) (.cons (.cst (.int 1)) (.cons (.neg (.cst (.int 1))) (.cons (.cst (.int 5)) .nil))))))) .nil)))) .nil
def b5_2 : B := .cons (.ite (.cmp .Eq (.var 1) (.cst (.int 2))) b5_2a_0 .nil) b5_3
def b5_1 : B := .cons (.ite (.cmp .Eq (.var 1) (.cst (.int 1))) b5_1a_0 .nil) b5_2
def b5_0 : B := .cons (.ite (.cmp .Eq (.var 1) (.cst (.int 0))) b5_0a_0 .nil) b5_1
/-! _law_point(_law_state, _law_width, _law_kind) | 0:_law_state 1:_law_width 2:_law_kind 3:_law_axis -/
def b9_0 : B := .cons (.ret (.bl .tuple (.comp .rng1 (.cons (.var 1) .nil) (.nm 3) [3] .nil (.call 5 (.cons (.var 0) (.cons (.var 2) .nil)))))) .nil
end T
local macro_rules
  | `(tactic| simp! [$as,*]) => `(tactic| try simp only [Nd.Zr_rt, Nd.Zr_nx, Nd.Zr_ex, Nd.denB_nil, Nd.denB_cons, Nd.denS, Nd.den, Nd.dens, Nd.Dn_of_v, Nd.Dn_of_t, Nd.Dn_of_i, Nd.Dn_ofT_v, Nd.Dn_ofT_t, Nd.tru_bl, Nd.tru_int, Nd.tru_str,
    Nd.tru_tup, Nd.tru_non, Nd.asB_bl, Nd.asI_int, Nd.opV, Nd.cmV, Nd.add_int, Nd.add_tup, Nd.add_str, Nd.sub_int, Nd.mul_int, Nd.mul_tup, Nd.div_int, Nd.mod_int, Nd.pow_int,
    Nd.eq_int, Nd.eq_str, Nd.eq_bl, Nd.ne_int, Nd.ne_str, Nd.ne_bl, Nd.lt_int, Nd.gt_int, Nd.le_int, Nd.ge_int, Nd.is_non, Nd.is_bl, Nd.isn_non, Nd.isn_bl, Nd.neg_int, Nd.sub_tup,
    Nd.opt_some, Nd.slc_tup, Nd.len_tup, Nd.len_kls, Nd.len_str, Nd.bi_len, Nd.bi_abs, Nd.bi_int, Nd.bi_intb, Nd.bi_max2, Nd.bi_min2, Nd.tgS, Nd.cmpD, Nd.srcV, Nd.wipeD, Nd.size_eq, Nd.it_rng1, Nd.it_rng2, Nd.it_zip2, Nd.it_zip3, Nd.it_zipS, Nd.it_enumT, List.zip_cons_cons, List.zip_nil_left, List.zip_nil_right, List.foldl_cons, List.foldl_nil, Nd.iv_tup, Nd.iv_kls, Nd.iv_str, Nd.bl_tup, Nd.bl_list, Nd.Gd.isL, Nd.Gd.walk, List.all_cons, List.all_nil, Bool.and_true, Bool.true_or, Bool.or_true, Bool.and_self,
    Nd.isi_NoneType_int, Nd.isi_NoneType_bool, Nd.isi_NoneType_str, Nd.isi_NoneType_tuple, Nd.isi_NoneType_list, Nd.isi_NoneType_dict, Nd.isi_bool_int, Nd.isi_bool_bool,
    Nd.isi_bool_str, Nd.isi_bool_tuple, Nd.isi_bool_list, Nd.isi_bool_dict, Nd.isi_int_int, Nd.isi_int_bool, Nd.isi_int_str, Nd.isi_int_tuple, Nd.isi_int_list, Nd.isi_int_dict,
    Nd.isi_str_int, Nd.isi_str_bool, Nd.isi_str_str, Nd.isi_str_tuple, Nd.isi_str_list, Nd.isi_str_dict, Nd.isi_tuple_int, Nd.isi_tuple_bool, Nd.isi_tuple_str, Nd.isi_tuple_tuple,
    Nd.isi_tuple_list, Nd.isi_tuple_dict, Nd.isi_list_int, Nd.isi_list_bool, Nd.isi_list_str, Nd.isi_list_tuple, Nd.isi_list_list, Nd.isi_list_dict, Nd.isi_dict_int, Nd.isi_dict_bool,
    Nd.isi_dict_str, Nd.isi_dict_tuple, Nd.isi_dict_list, Nd.isi_dict_dict, List.map_cons, List.map_nil, List.cons_append, List.nil_append, List.getElem?_cons_zero,
    List.getElem?_cons_succ, List.set_cons_zero, List.set_cons_succ, List.replicate_succ, List.replicate_zero, Option.join_some, Option.join_none, List.length_cons, List.length_nil,
    Nat.reduceSub, Nat.reduceAdd, Nat.zero_add, List.foldr_cons, List.foldr_nil, if_true, if_false, reduceIte, Bool.false_eq_true, Bool.not_true, Bool.not_false, Nd.CPow_eq, Nd.CMul_eq, true_and, and_true, and_self, or_true, true_or, decide_true, decide_false, Bool.true_and, Bool.false_and, Int.reduceLT, Int.reduceLE, Int.reduceNeg, Int.reducePow, Nat.reducePow, Int.reduceAdd, Int.reduceSub, Int.reduceMul, Int.reduceToNat, Nat.reduceLT, Nat.reduceLeDiff, Int.reduceAbs, $as,*])
/-! Sa1: what the small shared defs do. -/
namespace Sa
open PySem PySem.Spec PyProof.Rows L2 Nd T
section
variable {P : Pr} {q : VQ} {r : XQ} {h : HD}
/-- is_whole -/
def wholeD (d : D) (a b : Int) : Bool := match d with
  | .int i => decide (a ≤ i) && decide (i ≤ b)
  | _ => false
theorem whole_ok (H : HasF P 2 b2_0 3 3) {n : Nat} {d : D} {a b : Int} {t : String} (hd : tyN h d = some t) (k : q (.bl (wholeD d a b)) h) : P.call (n + 1) 2 [d, .int a, .int b] h q r := by
  refine call_of H rfl ?_
  cases d with
  | int i =>
    simp! [b2_0, bi_isi ty_int (n := "int") rfl, bi_isi ty_int (n := "bool") rfl]
    unfold wholeD at k
    dsimp only at k
    split
    · rename_i w
      rw [w, Bool.true_and] at k
      exact dq_of k
    · rename_i w
      rw [Bool.not_eq_true] at w
      rw [w, Bool.false_and] at k
      exact dq_of k
  | bl i =>
    simp! [b2_0, bi_isi ty_bl (n := "int") rfl, bi_isi ty_bl (n := "bool") rfl]
    exact dq_of k
  | ref a =>
    rcases ty_ref hd with rfl | rfl
    · simp! [b2_0, bi_isi hd (n := "int") rfl]
      exact dq_of k
    · simp! [b2_0, bi_isi hd (n := "int") rfl]
      exact dq_of k
  | _ =>
    first
      | have hd' := hd
        cases hd'
        simp! [b2_0, bi_isi hd (n := "int") rfl]
        exact dq_of k
      | cases hd
/-! ### the drawing state -/
def StD (c : Addr) (a r t m : Int) : List (Key × D) := [(.inr "cells", .ref c), (.inr "at", .int a), (.inr "rest", .int r), (.inr "turn", .int t), (.inr "more", .int m)]
theorem lk_cells {c : Addr} {a r t m : Int} : lookK (StD c a r t m) (.inr "cells") = some (.ref c) := rfl
theorem lk_at {c : Addr} {a r t m : Int} : lookK (StD c a r t m) (.inr "at") = some (.int a) := rfl
theorem lk_rest {c : Addr} {a r t m : Int} : lookK (StD c a r t m) (.inr "rest") = some (.int r) := rfl
theorem lk_turn {c : Addr} {a r t m : Int} : lookK (StD c a r t m) (.inr "turn") = some (.int t) := rfl
theorem lk_more {c : Addr} {a r t m : Int} : lookK (StD c a r t m) (.inr "more") = some (.int m) := rfl
theorem put_at {c : Addr} {a r t m x : Int} : putD (StD c a r t m) (.inr "at") (.int x) = StD c x r t m := rfl
theorem put_rest {c : Addr} {a r t m x : Int} : putD (StD c a r t m) (.inr "rest") (.int x) = StD c a x t m := rfl
theorem put_turn {c : Addr} {a r t m x : Int} : putD (StD c a r t m) (.inr "turn") (.int x) = StD c a r x m := rfl
theorem put_more {c : Addr} {a r t m x : Int} : putD (StD c a r t m) (.inr "more") (.int x) = StD c a r t x := rfl
/-- where the drawing state at s has its cells -/
def Cl (h : HD) (s c : Addr) : Prop := ∃ kv, h s = some (.dic kv) ∧ lookK kv (.inr "cells") = some (.ref c)
theorem Cl.one {h : HD} {s c c' : Addr} (a : Cl h s c) (b : Cl h s c') : c = c' := by
  obtain ⟨kv, e, f⟩ := a
  obtain ⟨kv', e', f'⟩ := b
  rw [e] at e'
  cases e'
  rw [f] at f'
  cases f'
  rfl
/-- what stands, but for s, stands still; and s has the cells that it had -/
structure Kp (s : Addr) (h h' : HD) : Prop where
  keep : ∀ a, a ≠ s → ∀ m, h a = some m → h' a = some m
  cell : ∀ c, Cl h s c → Cl h' s c
instance {s : Addr} {h h' : HD} : CoeFun (Kp s h h') fun _ => ∀ a, a ≠ s → ∀ m, h a = some m → h' a = some m := ⟨Kp.keep⟩
theorem Kp.refl {s : Addr} {h : HD} : Kp s h h := ⟨fun _ _ _ e => e, fun _ e => e⟩
theorem Kp.trans {s : Addr} {h h1 h2 : HD} (a : Kp s h h1) (b : Kp s h1 h2) : Kp s h h2 := ⟨fun x n m e => b.keep x n m (a.keep x n m e), fun c e => b.cell c (a.cell c e)⟩
theorem Kp.new {s p : Addr} {h h1 : HD} {m : MO} (a : Kp s h h1) (e : h1 p = none) : Kp s h (hup h1 p m) := ⟨fun x n m z => by
  have z := a.keep x n m z
  rw [hup_ne (fun w => by subst w; rw [e] at z; cases z)]
  exact z, fun c z => by
  obtain ⟨kv, u, v⟩ := a.cell c z
  refine ⟨kv, ?_, v⟩
  rw [hup_ne (fun w => by subst w; rw [e] at u; cases u)]
  exact u⟩
/-- a thing made since then is changed -/
theorem kp_wr {s p : Addr} {h h1 : HD} {m : MO} (a : Kp s h h1) (hp : h p = none) : Kp s h (hup h1 p m) := ⟨fun x n m z => by
  have z' := a.keep x n m z
  rw [hup_ne (fun w => by subst w; rw [hp] at z; cases z)]
  exact z', fun c z => by
  obtain ⟨kv, u, v⟩ := a.cell c z
  obtain ⟨kv', u', v'⟩ := z
  refine ⟨kv, ?_, v⟩
  rw [hup_ne (fun w => by subst w; rw [hp] at u'; cases u')]
  exact u⟩
theorem kp_none {s p : Addr} {h g : HD} (K : Kp s h g) (n : p ≠ s) (hp : g p = none) : h p = none := by
  cases e : h p with
  | none => rfl
  | some m =>
    have := K.keep p n m e
    rw [hp] at this
    cases this
structure StF (h : HD) (s c : Addr) (cs : List Int) (a r t m : Int) : Prop where
  hs : h s = some (.dic (StD c a r t m))
  hc : h c = some (.lst (cs.map .int))
  cp : ∀ x ∈ cs, 0 ≤ x
  a0 : 0 ≤ a
  r0 : 0 ≤ r
  t0 : 0 ≤ t
  m0 : 0 ≤ m
  m1 : m < 2 ^ 32
def St (h : HD) (s : Addr) : Prop := ∃ c cs a r t m, StF h s c cs a r t m
section
variable {s c : Addr} {cs : List Int} {a' r' t' m' : Int}
theorem StF.ne (S : StF h s c cs a' r' t' m') : c ≠ s := fun e => by
  have := S.hc
  rw [e, S.hs] at this
  cases this
theorem StF.cl (S : StF h s c cs a' r' t' m') : Cl h s c := ⟨_, S.hs, lk_cells⟩
theorem Kp.wr {h0 : HD} {a r t m : Int} (K : Kp s h0 h) (S : StF h s c cs a' r' t' m') : Kp s h0 (hup h s (.dic (StD c a r t m))) := ⟨fun x n m e => by rw [hup_ne n]; exact K.keep x n m e, fun c' z => by
  cases (K.cell c' z).one S.cl
  exact ⟨_, hup_same, lk_cells⟩⟩
/-- a thing made since then is changed: the state stays -/
theorem st_wr {h0 : HD} {p : Addr} {m : MO} (S0 : St h0 s) (hp : h0 p = none) (K : Kp s h0 h) (S : St h s) : St (hup h p m) s := by
  obtain ⟨c0, cs0, a0, r0, t0, m0, S0⟩ := S0
  obtain ⟨c, cs, a, r, t, m', S⟩ := S
  cases (K.cell c0 S0.cl).one S.cl
  refine ⟨c0, cs, a, r, t, m', ⟨?_, ?_, S.cp, S.a0, S.r0, S.t0, S.m0, S.m1⟩⟩
  · rw [hup_ne (fun w => by subst w; rw [S0.hs] at hp; cases hp)]; exact S.hs
  · rw [hup_ne (fun w => by subst w; rw [S0.hc] at hp; cases hp)]; exact S.hc
theorem StF.up (S : StF h s c cs a' r' t' m') {a r t m : Int} (h1 : 0 ≤ a) (h2 : 0 ≤ r) (h3 : 0 ≤ t) (h4 : 0 ≤ m) (h5 : m < 2 ^ 32) : StF (hup h s (.dic (StD c a r t m))) s c cs a r t m :=
  ⟨hup_same, by rw [hup_ne S.ne]; exact S.hc, S.cp, h1, h2, h3, h4, h5⟩
theorem St.new {p : Addr} {m : MO} (S : St h s) (e : h p = none) : St (hup h p m) s := by
  obtain ⟨c, cs, a, r, t, m', S⟩ := S
  refine ⟨c, cs, a, r, t, m', ⟨?_, ?_, S.cp, S.a0, S.r0, S.t0, S.m0, S.m1⟩⟩
  · rw [hup_ne (fun w => by subst w; rw [S.hs] at e; cases e)]; exact S.hs
  · rw [hup_ne (fun w => by subst w; rw [S.hc] at e; cases e)]; exact S.hc
/-- reads and writes of the state -/
theorem StF.get (S : StF h s c cs a' r' t' m') {x : Str} {d : D} (e : lookK (StD c a' r' t' m') (.inr x) = some d) {Q : VQ} : subV' (.ref s) (.str x) h Q = Q d h := by
  rw [sub_dic S.hs (k := .inr x) rfl, e]
  rfl
theorem StF.set (S : StF h s c cs a' r' t' m') {x : Str} {d : D} {kv : List (Key × D)} (e : putD (StD c a' r' t' m') (.inr x) d = kv) {k : HD → Prop} (z : k (hup h s (.dic kv))) : setV (.ref s) (.str x) d h k := by
  refine set_dic S.hs (kk := .inr x) rfl (by show 5 < sizeLine; decide) ?_
  rw [e]
  exact z
theorem StF.cell (S : StF h s c cs a' r' t' m') {i : Int} (h0 : 0 ≤ i) (h1 : i < cs.length) {Q : VQ} (z : ∀ x, 0 ≤ x → Q (.int x) h) : subV' (.ref c) (.int i) h Q := by
  rw [sub_ref S.hc (y := .int i)]
  have hl : i.toNat < cs.length := by omega
  have e : atD (cs.map D.int) i = some (.int cs[i.toNat]) := by
    rw [at_nn h0 (by rw [List.length_map]; exact h1), List.getElem?_map, List.getElem?_eq_getElem hl]
    rfl
  rw [e]
  exact z _ (S.cp _ (List.getElem_mem hl))
theorem take_step {C : Ca} {Z : En} {x1 x3 x4 : Option D} (S : StF h s c cs a' r' t' m') (k : ∀ h', Kp s h h' → StF h' s c cs (a' + 1) r' t' m' → Z.nx [some (.ref s), x1, some (.ref c), x3, x4] h') : denB C b3_1a_1 Z [some (.ref s), x1, some (.ref c), x3, x4] h := by
  have a0 := S.a0
  simp! [b3_1a_1]
  rw [S.get lk_at]
  simp! []
  refine S.set put_at ?_
  exact k _ (Kp.refl.wr S) (S.up (by omega) S.r0 S.t0 S.m0 S.m1)
theorem take_ok (H : HasF P 3 b3_0 2 5) {n0 : Nat} {m : Int} (hm : 0 < m) (hm2 : m < 2 ^ 64) (S0 : St h s) (k : ∀ h' i, Kp s h h' → St h' s → 0 ≤ i → i < m → q (.int i) h') : P.call (n0 + 1) 3 [.ref s, .int m] h q r := by
  refine call_of H rfl ?_
  obtain ⟨c, cs, a0, r0, t0, m0, S⟩ := S0
  simp! [b3_0]
  rw [S.get lk_cells]
  simp! [b3_1]
  refine whl_of (fun n σ h1 => ∃ a r t m', σ = [some (.ref s), some (.int m), some (.ref c), none, none] ∧ Kp s h h1 ∧ StF h1 s c cs a r t m' ∧ n = (cs.length - a).toNat) ?_ (n := (cs.length - a0).toNat) ⟨a0, r0, t0, m0, rfl, Kp.refl, S, rfl⟩
  rintro n σ h1 V ⟨a, r', t, m', rfl, kp, S, rfl⟩ hV
  simp! []
  rw [S.get lk_rest]
  simp! []
  have after : denB (P.ca (P.call n0)) b3_2 (Zr q r) [some (.ref s), some (.int m), some (.ref c), none, none] h1 := by
    simp! [b3_2]
    rw [S.get lk_rest]
    simp! []
    have m1 := S.m1
    have m0 := S.m0
    have fin : ∀ h2 a1 r1 t1 m1 x, Kp s h h2 → StF h2 s c cs a1 r1 t1 m1 → 0 ≤ x → denB (P.ca (P.call n0)) b3_5 (Zr q r) [some (.ref s), some (.int m), some (.ref c), some (.int x), none] h2 := by
      intro h2 a r' t m' x kp S hx
      have m1 := S.m1
      have m0 := S.m0
      have t0 := S.t0
      simp! [b3_5]
      rw [S.get lk_turn]
      simp! []
      refine S.set put_turn ?_
      have Sq := S
      have S := S.up S.a0 S.r0 (t := t + 1) (by omega) S.m0 S.m1
      simp! [b3_6]
      rw [S.get lk_more]
      simp! []
      rw [S.get lk_turn]
      simp! []
      refine S.set put_more ?_
      have mm := Int.emod_nonneg (m' * 48271 + x + (t + 1)) (b := 2147483647) (by decide)
      have mM := Int.emod_lt_of_pos (m' * 48271 + x + (t + 1)) (b := 2147483647) (by decide)
      have kp := (kp.wr Sq).wr (a := a) (r := r') (t := t + 1) (m := (m' * 48271 + x + (t + 1)) % 2147483647) S
      have S := S.up S.a0 S.r0 S.t0 (m := (m' * 48271 + x + (t + 1)) % 2147483647) mm (by omega)
      generalize (m' * 48271 + x + (t + 1)) % 2147483647 = y at S mm mM kp
      simp! [b3_7]
      rw [S.get lk_more]
      simp! []
      rw [S.get lk_more]
      simp! []
      refine ⟨.inl (by omega), ?_⟩
      rw [S.get lk_more]
      simp! []
      refine ⟨hm, dq_of ?_⟩
      exact k _ _ kp ⟨_, _, _, _, _, _, S⟩ (Int.emod_nonneg _ (by omega)) (Int.emod_lt_of_pos _ hm)
    split
    · simp! [b3_2a_0]
      rw [S.get lk_rest]
      simp! []
      refine ⟨hm, ?_⟩
      simp! [b3_2a_1]
      rw [S.get lk_rest]
      simp! []
      refine ⟨⟨hm, hm2⟩, S.set put_rest ?_⟩
      have kp := kp.wr (a := a) (r := r' / m) (t := t) (m := m') S
      have S := S.up S.a0 (r := r' / m) (Int.ediv_nonneg S.r0 (by omega)) S.t0 S.m0 S.m1
      simp! [b3_2a_2]
      exact dq_of (k _ _ kp ⟨_, _, _, _, _, _, S⟩ (Int.emod_nonneg _ (by omega)) (Int.emod_lt_of_pos _ hm))
    · simp! [b3_3, b3_4, len_ref S.hc, List.length_map]
      split
      · rename_i hlen
        have hlen := of_decide_eq_true hlen
        simp! [b3_4a_0]
        rw [S.get lk_turn]
        simp! [len_ref S.hc, List.length_map]
        refine ⟨hlen, S.cell (Int.emod_nonneg _ (by omega)) (Int.emod_lt_of_pos _ hlen) fun x hx => ?_⟩
        exact fin _ _ _ _ _ _ kp S hx
      · exact fin _ _ _ _ _ 0 kp S (by decide)
  split
  · rename_i hr
    rw [S.get lk_at]
    rw [len_ref S.hc]
    simp! [List.length_map]
    split
    · rename_i hl
      have hl := of_decide_eq_true hl
      have a0 := S.a0
      simp! [b3_1a_0]
      rw [S.get lk_at]
      simp! []
      refine S.cell S.a0 hl fun x hx => ?_
      simp! []
      split
      · simp! [b3_1a_0a_0]
        rw [S.get lk_at]
        simp! []
        refine S.cell S.a0 hl fun x hx => ?_
        refine S.set put_rest ?_
        have S2 := S.up S.a0 hx S.t0 S.m0 S.m1
        exact take_step S2 fun h' kp' S' => hV _ _ _ (by omega) ⟨_, _, _, _, rfl, (kp.wr S).trans kp', S', rfl⟩
      · exact take_step S fun h' kp' S' => hV _ _ _ (by omega) ⟨_, _, _, _, rfl, kp.trans kp', S', rfl⟩
    · exact after
  · exact after
theorem St.ne {l : Addr} {xs : List D} (S : St h s) (e : h l = some (.lst xs)) : l ≠ s := fun w => by
  obtain ⟨c, cs, a, r, t, m', S⟩ := S
  rw [w, S.hs] at e
  cases e
/-- a new thing, its heap given a name: generalize hh : hup h p _ = h1 -/
theorem alc {p : Addr} {m : MO} {h1 : HD} (hh : hup h p m = h1) (hp : h p = none) (S : St h s) : h1 p = some m ∧ p ≠ s ∧ Kp s h h1 ∧ St h1 s := by
  subst hh
  refine ⟨hup_same, fun w => ?_, Kp.refl.new hp, S.new hp⟩
  obtain ⟨c, cs, a, r, t, m', S⟩ := S
  rw [w, S.hs] at hp
  cases hp
theorem in_lst {x : D} {a : Addr} {xs : List D} {Q : VQ} (e : h a = some (.lst xs)) (h1 : flatD x = true) (h2 : xs.all flatD = true) (z : Q (.bl (inF x xs)) h) : Nd.inV x (.ref a) h Q := by
  unfold Nd.inV
  dsimp only
  have : seqOf h (.ref a) = some xs := by
    unfold seqOf
    dsimp only
    rw [e]
  rw [this]
  exact .inl ⟨h1, h2, z⟩
theorem add_ref {a b : Addr} {xs ys : List D} {Q : VQ} (e1 : h a = some (.lst xs)) (e2 : h b = some (.lst ys)) : addV (.ref a) (.ref b) h Q = (xs.length + ys.length ≤ sizeLine ∧ ∀ p, h p = none → Q (.ref p) (hup h p (.lst (xs ++ ys)))) := by
  unfold addV
  dsimp only
  rw [e1, e2]
theorem pick_ok (H0 : HasF P 0 b0_0 2 2) (H3 : HasF P 3 b3_0 2 5) {n : Nat} {l : Addr} {xs : List D} (e : h l = some (.lst xs)) (ne : xs ≠ []) (hl : xs.length < 2 ^ 60) (S : St h s) (k : ∀ h' x, x ∈ xs → Kp s h h' → St h' s → q x h') : P.call (n + 2) 0 [.ref s, .ref l] h q r := by
  refine call_of H0 rfl ?_
  have hp : 0 < xs.length := List.length_pos_iff.mpr ne
  simp! [b0_0, len_ref e]
  refine take_ok H3 (n0 := n) (by omega) (by omega) S fun h' i kp S' i0 i1 => ?_
  have e' := kp l (S.ne e) _ e
  have hi : i.toNat < xs.length := by omega
  rw [sub_ref e' (y := .non), at_nn i0 i1, List.getElem?_eq_getElem hi]
  exact dq_of (k _ _ (List.getElem_mem hi) kp S')
theorem number_ok (H5 : HasF P 5 b5_0 2 2) (H0 : HasF P 0 b0_0 2 2) (H3 : HasF P 3 b3_0 2 5) {n : Nat} {kd : Int} (S : St h s) (k : ∀ h' i, -1000000000 ≤ i → i ≤ 1000000000 → Kp s h h' → St h' s → q (.int i) h') : P.call (n + 3) 5 [.ref s, .int kd] h q r := by
  refine call_of H5 rfl ?_
  simp! [b5_0]
  split
  · simp! [b5_0a_0]
    exact take_ok H3 (n0 := n + 1) (by decide) (by decide) S fun h' i kp S' i0 i1 => dq_of (k _ _ (by omega) (by omega) kp S')
  · simp! [b5_1]
    split
    · simp! [b5_1a_0]
      refine take_ok H3 (n0 := n + 1) (by decide) (by decide) S fun h' i kp S' i0 i1 => ?_
      simp! []
      exact dq_of (k _ _ (by omega) (by omega) kp S')
    · simp! [b5_2]
      split
      · simp! [b5_2a_0]
        refine take_ok H3 (n0 := n + 1) (by decide) (by decide) S fun h' i kp S' i0 i1 => ?_
        simp! []
        exact dq_of (k _ _ (by omega) (by omega) kp S')
      · simp! [b5_3]
        intro p hp
        refine pick_ok H0 H3 (n := n) hup_same (by decide) (by decide) (S.new hp) fun h' x hx kp S' => ?_
        have kp2 := (Kp.refl.new hp).trans kp
        simp at hx
        rcases hx with rfl | rfl | rfl | rfl | rfl | rfl <;> exact dq_of (k _ _ (by decide) (by decide) kp2 S')
def Num (x : D) : Prop := ∃ i : Int, x = .int i ∧ -1000000000 ≤ i ∧ i ≤ 1000000000
theorem point_ok (H9 : HasF P 9 b9_0 3 4) (H5 : HasF P 5 b5_0 2 2) (H0 : HasF P 0 b0_0 2 2) (H3 : HasF P 3 b3_0 2 5) {n : Nat} {kd w : Int} (w0 : 0 ≤ w) (w1 : w < 2 ^ 20) (S : St h s)
    (k : ∀ h' xs, xs.length = w.toNat → (∀ x ∈ xs, Num x) → Kp s h h' → St h' s → q (.tup xs) h') : P.call (n + 4) 9 [.ref s, .int w, .int kd] h q r := by
  refine call_of H9 rfl ?_
  simp! [b9_0]
  refine ⟨by omega, ?_⟩
  refine cmp_of (fun j acc h1 => acc.length = j ∧ (∀ x ∈ acc, Num x) ∧ Kp s h h1 ∧ St h1 s) ?_ ?_ ⟨rfl, (by intro x z; cases z), Kp.refl, S⟩
  · rintro j x acc h1 V hx ⟨hj, ha, kp, S⟩ hV
    simp! []
    refine number_ok H5 H0 H3 (n := n) S fun h' i i0 i1 kp' S' => ⟨gds_nil, ?_, ?_⟩
    · have := (List.getElem?_eq_some_iff.mp hx).1
      rw [rngL, List.length_map, List.length_range] at this
      have : sizeLine = 16777216 := rfl
      omega
    · refine hV _ _ ⟨by simp [hj], fun x hx => ?_, kp.trans kp', S'⟩
      rcases List.mem_append.mp hx with hx | hx
      · exact ha x hx
      · rcases List.mem_singleton.mp hx with rfl
        exact ⟨i, rfl, i0, i1⟩
  · rintro acc h1 ⟨hj, ha, kp, S⟩
    refine dq_of (k _ _ ?_ ha kp S)
    rw [hj, rngL, List.length_map, List.length_range]
theorem begun_ok (H8 : HasF P 8 b8_0 1 2) {n : Nat} {ns : List Int} (hl : ns.length ≤ 1000) (k : ∀ h' s, (∀ a m, h a = some m → h' a = some m) → h s = none → St h' s → q (.ref s) h') : P.call (n + 1) 8 [.kls (ns.map .int)] h q r := by
  refine call_of H8 rfl ?_
  simp! [b8_0, List.length_map]
  refine cmp_of (fun j acc h1 => h1 = h ∧ ∃ cs : List Int, acc = cs.map .int ∧ cs.length = j ∧ ∀ x ∈ cs, 0 ≤ x) ?_ ?_ ⟨rfl, [], rfl, rfl, (by intro x z; cases z)⟩
  · rintro j x acc h1 V hx ⟨rfl, cs, rfl, hj, hc⟩ hV
    simp! []
    rw [List.getElem?_map] at hx
    obtain ⟨i, hi, rfl⟩ := Option.map_eq_some_iff.mp hx
    have hj' := (List.getElem?_eq_some_iff.mp hi).1
    simp! []
    refine ⟨gds_kl, ?_, ?_⟩
    · rw [List.length_map]
      have : sizeLine = 16777216 := rfl
      omega
    · refine hV _ _ ⟨rfl, cs ++ [if i < 0 then -i else i], by simp, by simp [hj], fun x hx => ?_⟩
      rcases List.mem_append.mp hx with hx | hx
      · exact hc x hx
      · rcases List.mem_singleton.mp hx with rfl
        split <;> omega
  · rintro acc h1 ⟨rfl, cs, rfl, hj, hc⟩ p hp p2 hp2
    have ne : p ≠ p2 := fun e => by
      rw [← e, hup_same] at hp2
      cases hp2
    have hp3 : h1 p2 = none := by
      rw [hup_ne (Ne.symm ne)] at hp2
      exact hp2
    refine dq_of (k _ p2 (fun a m e => ?_) hp3 ⟨p, cs, 0, 0, 0, 7 + (ns.length : Int), hup_same, ?_, hc, by decide, by decide, by decide, by omega, by omega⟩)
    · rw [hup_ne (fun w => by subst w; rw [hp3] at e; cases e), hup_ne (fun w => by subst w; rw [hp] at e; cases e)]
      exact e
    · rw [hup_ne ne]
      exact hup_same
/-- is_point -/
def pointD (d : D) : Bool := match d with
  | .tup xs => decide (1 ≤ xs.length) && decide (xs.length ≤ 4) && xs.all fun x => wholeD x (-1000000000) 1000000000
  | _ => false
theorem isPoint_ok (H1 : HasF P 1 b1_0 1 2) (H2 : HasF P 2 b2_0 3 3) {n : Nat} {d : D} {t : String} (hd : tyN h d = some t) (hx : ∀ xs, d = .tup xs → ∀ x ∈ xs, ∃ u, tyN h x = some u) (k : q (.bl (pointD d)) h) : P.call (n + 2) 1 [d] h q r := by
  refine call_of H1 rfl ?_
  have no : isiB t "tuple" = false → pointD d = false → denB (P.ca (P.call (n + 1))) b1_0 (Zr q r) ([d].map some ++ List.replicate (2 - 1) none) h := by
    intro e1 e2
    simp! [b1_0, bi_isi hd (n := "tuple") rfl, e1]
    simp! [b1_0a_0]
    rw [e2] at k
    exact dq_of k
  cases d with
  | tup xs =>
    simp! [b1_0, bi_isi ty_tup (n := "tuple") rfl]
    have z : (xs.map fun x => wholeD x (-1000000000) 1000000000).all id = xs.all fun x => wholeD x (-1000000000) 1000000000 := by rw [List.all_map]; rfl
    by_cases w1 : 1 ≤ xs.length
    · by_cases w4 : xs.length ≤ 4
      · rw [if_pos (decide_eq_true (by omega)), if_neg (by rw [decide_eq_true (by omega)]; decide)]
        simp! [b1_1]
        refine cmp_of (fun j acc h1 => h1 = h ∧ acc = (xs.take j).map fun x => .bl (wholeD x (-1000000000) 1000000000)) ?_ ?_ ⟨rfl, rfl⟩
        · rintro j x acc h1 V hj ⟨rfl, rfl⟩ hV
          simp! []
          obtain ⟨u, hu⟩ := hx xs rfl x (List.mem_of_getElem? hj)
          refine whole_ok H2 (n := n) hu ⟨gds_tp, ?_, hV _ _ ⟨rfl, ?_⟩⟩
          · rw [List.length_map, List.length_take]
            have : sizeLine = 16777216 := rfl
            omega
          · rw [List.take_add_one, hj, List.map_append]
            rfl
        · rintro acc h1 ⟨rfl, rfl⟩
          rw [List.take_length]
          have e : (xs.map fun x => D.bl (wholeD x (-1000000000) 1000000000)) = (xs.map fun x => wholeD x (-1000000000) 1000000000).map .bl := by rw [List.map_map]; rfl
          rw [e]
          refine bl_all rfl (dq_of ?_)
          rw [z]
          have e2 : pointD (.tup xs) = xs.all fun x => wholeD x (-1000000000) 1000000000 := by
            show (decide _ && decide _ && _) = _
            rw [decide_eq_true w1, decide_eq_true w4]
            rfl
          rw [← e2]
          exact k
      · rw [if_pos (decide_eq_true (by omega)), if_pos (by rw [decide_eq_false (by omega)]; decide)]
        simp! [b1_0a_0]
        have e2 : pointD (.tup xs) = false := by
          show (decide _ && decide _ && _) = _
          rw [decide_eq_false w4, Bool.and_false]
          rfl
        rw [e2] at k
        exact dq_of k
    · rw [if_neg (by rw [decide_eq_true_eq]; omega)]
      simp! [b1_0a_0]
      have e2 : pointD (.tup xs) = false := by
        show (decide _ && decide _ && _) = _
        rw [decide_eq_false w1]
        rfl
      rw [e2] at k
      exact dq_of k
  | ref a => rcases ty_ref hd with rfl | rfl <;> exact no (by decide) rfl
  | non => cases hd; exact no (by decide) rfl
  | bl _ => cases hd; exact no (by decide) rfl
  | int _ => cases hd; exact no (by decide) rfl
  | str _ => cases hd; exact no (by decide) rfl
  | kls _ => cases hd; exact no (by decide) rfl
  | ty _ => cases hd
  | glo _ => cases hd
  | exc _ _ => cases hd
/-- is_way -/
def wayD (d : D) : Bool := match d with
  | .str s => inF (.str s) [.str "taxi", .str "chess", .str "square"]
  | _ => false
theorem in_flat {x : D} {xs : List D} {Q : VQ} (h1 : flatD x = true) (h2 : xs.all flatD = true) (z : Q (.bl (inF x xs)) h) : inV x (.tup xs) h Q := .inl ⟨h1, h2, z⟩
theorem isWay_ok (H33 : HasF P 33 b33_0 1 1) {n : Nat} {d : D} {t : String} (hd : tyN h d = some t) (k : q (.bl (wayD d)) h) : P.call (n + 1) 33 [d] h q r := by
  refine call_of H33 rfl ?_
  have no : isiB t "str" = false → wayD d = false → denB (P.ca (P.call n)) b33_0 (Zr q r) ([d].map some ++ List.replicate (1 - 1) none) h := by
    intro e1 e2
    simp! [b33_0, bi_isi hd (n := "str") rfl, e1]
    rw [e2] at k
    exact dq_of k
  cases d with
  | str s =>
    simp! [b33_0, bi_isi ty_str (n := "str") rfl]
    exact in_flat rfl rfl (dq_of k)
  | ref a => rcases ty_ref hd with rfl | rfl <;> exact no (by decide) rfl
  | non => cases hd; exact no (by decide) rfl
  | bl _ => cases hd; exact no (by decide) rfl
  | int _ => cases hd; exact no (by decide) rfl
  | tup _ => cases hd; exact no (by decide) rfl
  | kls _ => cases hd; exact no (by decide) rfl
  | ty _ => cases hd
  | glo _ => cases hd
  | exc _ _ => cases hd
end
end
end Sa
namespace T
open PySem PySem.Spec PyProof.Rows L2 Nd
/-! need_way(way) | 0:way -/
def b37_0a_0 : B := .cons (.raise 11) .nil
def b37_0 : B := .cons (.ite (.nt (.call 33 (.cons (.var 0) .nil))) b37_0a_0 .nil) .nil
/-! need_point(point) | 0:point -/
def b34_0a_0 : B := .cons (.raise 14) .nil
def b34_0 : B := .cons (.ite (.nt (.call 1 (.cons (.var 0) .nil))) b34_0a_0 .nil) .nil
/-! need_width(point, width) | 0:point 1:width -/
def b35_1a_0 : B := .cons (.raise 14) .nil
def b35_1 : B := .cons (.ite (.an (.cons (.cmp .IsNot (.var 1) (.cst .non)) (.cons (.cmp .NotEq (.bi .len (.cons (.var 0) .nil)) (.var 1)) .nil))) b35_1a_0 .nil) .nil
def b35_0 : B := .cons (.ex (.call 34 (.cons (.var 0) .nil))) b35_1
/-! length(way, steps) | 0:way 1:steps 2:step -/
def b17_0a_0 : B := .cons (.ret (.bl .sum (.var 1))) .nil
def b17_1a_0 : B := .cons (.ret (.bl .max (.var 1))) .nil
def b17_2 : B := .cons (.ret (.bl .sum (.comp .seq (.cons (.var 1) .nil) (.nm 2) [2] .nil (.bin .Mult (.var 2) (.var 2))))) .nil
def b17_1 : B := .cons (.ite (.cmp .Eq (.var 0) (.cst (.str "chess"))) b17_1a_0 .nil) b17_2
def b17_0 : B := .cons (.ite (.cmp .Eq (.var 0) (.cst (.str "taxi"))) b17_0a_0 .nil) b17_1
/-! apart_by(way, one, other) | 0:way 1:one 2:other 3:first 4:second -/
def b15_0 : B := .cons (.ret (.call 17 (.cons (.var 0) (.cons (.comp .zip2 (.cons (.var 1) (.cons (.var 2) .nil)) (.tp [3, 4]) [3, 4] .nil (.bi .abs (.cons (.bin .Sub (.var 3) (.var 4)) .nil))) .nil)))) .nil
/-! _law_class(_law_e) | 0:_law_e 1:_law_kinds 2:_law_words -/
def b236_4a_0 : B := .cons (.ret (.cst (.str "other"))) .nil
def b236_6 : B := .cons (.ret (.sub (.bin .Add (.var 2) (.lst (.cons (.cst (.str "NoBall")) (.cons (.cst (.str "NoText")) (.cons (.cst (.str "TooMany")) .nil))))) (.bm .index (.var 1) (.cons (.cst (.bl true)) .nil)))) .nil
def b236_5 : B := .cons (.set 2 (.lst (.cons (.cst (.str "NoPoint")) (.cons (.cst (.str "NoWay")) (.cons (.cst (.str "NoBox")) (.cons (.cst (.str "NoName")) (.cons (.cst (.str "NoTable")) (.cons (.cst (.str "NoFew")) (.cons (.cst (.str "NoTree")) (.cons (.cst (.str "NoNode")) (.cons (.cst (.str "NoReach")) (.cons (.cst (.str "NoThing")) .nil)))))))))))) b236_6
def b236_4 : B := .cons (.ite (.or (.cons (.cmp .NotEq (.bm .count (.var 1) (.cons (.cst (.bl true)) .nil)) (.cst (.int 1))) (.cons (.nt (.bi .isi (.cons (.var 0) (.cons (.ty "ValueError") .nil)))) .nil))) b236_4a_0 .nil) b236_5
def b236_3 : B := .cons (.ex (.bm .append (.var 1) (.cons (.bi .isi (.cons (.var 0) (.cons (.gl "TooMany" (.glo 46)) .nil))) .nil))) b236_4
def b236_2 : B := .cons (.set 1 (.bin .Add (.var 1) (.lst (.cons (.bi .isi (.cons (.var 0) (.cons (.gl "NoReach" (.glo 55)) .nil))) (.cons (.bi .isi (.cons (.var 0) (.cons (.gl "NoThing" (.glo 42)) .nil))) (.cons (.bi .isi (.cons (.var 0) (.cons (.gl "NoBall" (.glo 81)) .nil))) (.cons (.bi .isi (.cons (.var 0) (.cons (.gl "NoText" (.glo 94)) .nil))) .nil))))))) b236_3
def b236_1 : B := .cons (.set 1 (.bin .Add (.var 1) (.lst (.cons (.bi .isi (.cons (.var 0) (.cons (.gl "NoTable" (.glo 7)) .nil))) (.cons (.bi .isi (.cons (.var 0) (.cons (.gl "NoFew" (.glo 18)) .nil))) (.cons (.bi .isi (.cons (.var 0) (.cons (.gl "NoTree" (.glo 13)) .nil))) (.cons (.bi .isi (.cons (.var 0) (.cons (.gl "NoNode" (.glo 87)) .nil))) .nil))))))) b236_2
def b236_0 : B := .cons (.set 1 (.lst (.cons (.bi .isi (.cons (.var 0) (.cons (.gl "NoPoint" (.glo 14)) .nil))) (.cons (.bi .isi (.cons (.var 0) (.cons (.gl "NoWay" (.glo 11)) .nil))) (.cons (.bi .isi (.cons (.var 0) (.cons (.gl "NoBox" (.glo 86)) .nil))) (.cons (.bi .isi (.cons (.var 0) (.cons (.gl "NoName" (.glo 44)) .nil))) .nil)))))) b236_1
end T
/-! Sb1: ways, points, distances. -/
namespace Sb
open PySem PySem.Spec PyProof.Rows L2 Nd T Sa
section
variable {P : Pr} {q : VQ} {r : XQ} {h : HD}
theorem needWay_ok (H37 : HasF P 37 b37_0 1 1) (H33 : HasF P 33 b33_0 1 1) {n : Nat} {d : D} {t : String} (hd : tyN h d = some t) (k1 : wayD d = true → q .non h) (k2 : wayD d = false → r 11 h) : P.call (n + 2) 37 [d] h q r := by
  refine call_of H37 rfl ?_
  simp! [b37_0]
  refine isWay_ok H33 (n := n) hd ?_
  simp! []
  cases w : wayD d with
  | true =>
    simp! []
    exact dq_of (k1 w)
  | false =>
    simp! [b37_0a_0]
    exact dx_of (k2 w)
theorem needPoint_ok (H34 : HasF P 34 b34_0 1 1) (H1 : HasF P 1 b1_0 1 2) (H2 : HasF P 2 b2_0 3 3) {n : Nat} {d : D} {t : String} (hd : tyN h d = some t) (hx : ∀ xs, d = .tup xs → ∀ x ∈ xs, ∃ u, tyN h x = some u) (k1 : pointD d = true → q .non h) (k2 : pointD d = false → r 14 h) : P.call (n + 3) 34 [d] h q r := by
  refine call_of H34 rfl ?_
  simp! [b34_0]
  refine isPoint_ok H1 H2 (n := n) hd hx ?_
  simp! []
  cases w : pointD d with
  | true =>
    simp! []
    exact dq_of (k1 w)
  | false =>
    simp! [b34_0a_0]
    exact dx_of (k2 w)
/-- a point's numbers -/
theorem pointD_nums {d : D} (e : pointD d = true) : ∃ is : List Int, d = .tup (is.map .int) ∧ 1 ≤ is.length ∧ is.length ≤ 4 ∧ ∀ i ∈ is, -1000000000 ≤ i ∧ i ≤ 1000000000 := by
  cases d with
  | tup xs =>
    have e : (decide (1 ≤ xs.length) && decide (xs.length ≤ 4) && xs.all fun x => wholeD x (-1000000000) 1000000000) = true := e
    obtain ⟨e, e3⟩ := and2 e
    obtain ⟨e1, e2⟩ := and2 e
    have key : ∀ ys : List D, (ys.all fun x => wholeD x (-1000000000) 1000000000) = true → ∃ is : List Int, ys = is.map .int ∧ ∀ i ∈ is, -1000000000 ≤ i ∧ i ≤ 1000000000 := by
      intro ys
      induction ys with
      | nil => exact fun _ => ⟨[], rfl, fun _ z => by cases z⟩
      | cons y ys ih =>
        intro z
        rw [List.all_cons] at z
        obtain ⟨z1, z2⟩ := and2 z
        obtain ⟨is, rfl, hb⟩ := ih z2
        cases y with
        | int i =>
          obtain ⟨a, b⟩ := and2 (show (decide (-1000000000 ≤ i) && decide (i ≤ 1000000000)) = true from z1)
          refine ⟨i :: is, rfl, fun j hj => ?_⟩
          rcases List.mem_cons.mp hj with rfl | hj
          · exact ⟨of_decide_eq_true a, of_decide_eq_true b⟩
          · exact hb j hj
        | _ => cases z1
    obtain ⟨is, rfl, hb⟩ := key xs e3
    rw [List.length_map] at e1 e2
    exact ⟨is, rfl, of_decide_eq_true e1, of_decide_eq_true e2, hb⟩
  | _ => cases e
theorem needWidth_ok (H35 : HasF P 35 b35_0 2 2) (H34 : HasF P 34 b34_0 1 1) (H1 : HasF P 1 b1_0 1 2) (H2 : HasF P 2 b2_0 3 3) {n : Nat} {d : D} {w : Int} {t : String} (hd : tyN h d = some t) (hx : ∀ xs, d = .tup xs → ∀ x ∈ xs, ∃ u, tyN h x = some u)
    (k1 : ∀ is : List Int, d = .tup (is.map .int) → pointD d = true → (is.length : Int) = w → q .non h) (k2 : (pointD d = true → ∀ is : List Int, d = .tup (is.map .int) → (is.length : Int) ≠ w) → r 14 h) : P.call (n + 4) 35 [d, .int w] h q r := by
  refine call_of H35 rfl ?_
  simp! [b35_0]
  refine needPoint_ok H34 H1 H2 (n := n) hd hx (fun e => ?_) fun e => dx_of (k2 fun z => by rw [e] at z; cases z)
  obtain ⟨is, rfl, _, _, _⟩ := pointD_nums e
  simp! [b35_1, Nd.isNon, List.length_map]
  split
  · rename_i z
    simp! [b35_1a_0]
    refine dx_of (k2 fun _ js ej => ?_)
    have hl := congrArg List.length (Nd.D.tup.inj ej)
    rw [List.length_map, List.length_map] at hl
    rw [← hl]
    simpa using z
  · rename_i z
    exact dq_of (k1 is rfl e (by simpa using z))
/-! ### distances -/
def maxZ : List Int → Int
  | [] => 0
  | [x] => x
  | x :: xs => max x (maxZ xs)
theorem maxZ_mem : ∀ {l : List Int}, l ≠ [] → maxZ l ∈ l
  | [x], _ => List.mem_cons_self
  | x :: y :: l, _ => by
    show max x (maxZ (y :: l)) ∈ _
    have := maxZ_mem (l := y :: l) (fun z => by cases z)
    have e : max x (maxZ (y :: l)) = x ∨ max x (maxZ (y :: l)) = maxZ (y :: l) := by omega
    rcases e with e | e
    · rw [e]; exact List.mem_cons_self
    · rw [e]; exact List.mem_cons_of_mem _ this
theorem maxZ_le : ∀ {l : List Int}, ∀ y ∈ l, y ≤ maxZ l
  | [x], y, h => by rcases List.mem_singleton.mp h with rfl; exact Int.le_refl _
  | x :: z :: l, y, h => by
    show y ≤ max x (maxZ (z :: l))
    rcases List.mem_cons.mp h with rfl | h
    · exact Int.le_max_left _ _
    · exact Int.le_trans (maxZ_le y h) (Int.le_max_right _ _)
def lengthZ (w : Str) (is : List Int) : Int := if w = "taxi" then is.sum else if w = "chess" then maxZ is else (is.map fun i => i * i).sum
theorem length_ok (H17 : HasF P 17 b17_0 2 3) {n : Nat} {w : Str} {a : Addr} {is : List Int} (ha : h a = some (.lst (is.map .int))) (ne : is ≠ []) (hl : is.length ≤ 1000) (hb : ∀ i ∈ is, -(2 ^ 64) < i ∧ i < 2 ^ 64) (k : q (.int (lengthZ w is)) h) : P.call (n + 1) 17 [.str w, .ref a] h q r := by
  refine call_of H17 rfl ?_
  simp! [b17_0]
  unfold lengthZ at k
  split
  · rename_i e
    rw [if_pos (of_decide_eq_true e)] at k
    simp! [b17_0a_0, iv_ref ha]
    exact bl_sum rfl (dq_of k)
  · rename_i e
    rw [if_neg (fun z => e (decide_eq_true z))] at k
    simp! [b17_1]
    split
    · rename_i e
      rw [if_pos (of_decide_eq_true e)] at k
      simp! [b17_1a_0, iv_ref ha]
      exact ⟨rfl, is, maxZ is, rfl, maxZ_mem ne, maxZ_le, dq_of k⟩
    · rename_i e
      rw [if_neg (fun z => e (decide_eq_true z))] at k
      simp! [b17_2, iv_ref ha]
      refine cmp_of (fun j acc h1 => h1 = h ∧ acc = ((is.take j).map fun i => i * i).map .int) ?_ ?_ ⟨rfl, rfl⟩
      · rintro j x acc h1 V hj ⟨rfl, rfl⟩ hV
        rw [List.getElem?_map] at hj
        obtain ⟨i, hi, rfl⟩ := Option.map_eq_some_iff.mp hj
        simp! []
        refine ⟨.inl (hb i (List.mem_of_getElem? hi)), gds_ls ha, ?_, hV _ _ ⟨rfl, ?_⟩⟩
        · have : sizeLine = 16777216 := rfl
          rw [List.length_map, List.length_map, List.length_take]
          omega
        · rw [List.take_add_one, hi]
          simp
      · rintro acc h1 ⟨rfl, rfl⟩
        rw [List.length_map, List.take_length]
        exact bl_sum rfl (dq_of k)
def absZ (i : Int) : Int := if i < 0 then -i else i
def stepsZ (is js : List Int) : List Int := (is.zip js).map fun p => absZ (p.1 - p.2)
def apartZ (w : Str) (is js : List Int) : Int := lengthZ w (stepsZ is js)
theorem zipL_int {is js : List Int} : zipL (is.map .int) (js.map .int) = (is.zip js).map fun p => .tup [.int p.1, .int p.2] := by
  unfold zipL
  rw [List.zip_map, List.map_map]
  rfl
theorem apartBy_ok (H15 : HasF P 15 b15_0 3 5) (H17 : HasF P 17 b17_0 2 3) {n : Nat} {w : Str} {is js : List Int} (n1 : is ≠ []) (n2 : js ≠ []) (hl : is.length ≤ 1000) (b1 : ∀ i ∈ is, -1000000000 ≤ i ∧ i ≤ 1000000000) (b2 : ∀ i ∈ js, -1000000000 ≤ i ∧ i ≤ 1000000000)
    (k : q (.int (apartZ w is js)) h) : P.call (n + 2) 15 [.str w, .tup (is.map .int), .tup (js.map .int)] h q r := by
  refine call_of H15 rfl ?_
  simp! [b15_0]
  rw [zipL_int]
  have bz : ∀ x ∈ stepsZ is js, -(2 ^ 64) < x ∧ x < 2 ^ 64 := by
    intro x hx
    obtain ⟨p, hp, rfl⟩ := List.mem_map.mp hx
    obtain ⟨a1, a2⟩ := List.of_mem_zip hp
    have := b1 _ a1
    have := b2 _ a2
    unfold absZ
    split <;> omega
  refine cmp_of (fun j acc h1 => h1 = h ∧ acc = ((stepsZ is js).take j).map .int) ?_ ?_ ⟨rfl, rfl⟩
  · rintro j x acc h1 V hj ⟨rfl, rfl⟩ hV
    rw [List.getElem?_map] at hj
    obtain ⟨p, hp, rfl⟩ := Option.map_eq_some_iff.mp hj
    simp! [List.zip_cons_cons, List.zip_nil_right, List.foldl_cons, List.foldl_nil]
    refine ⟨gds_nil, ?_, hV _ _ ⟨rfl, ?_⟩⟩
    · have : sizeLine = 16777216 := rfl
      have : (stepsZ is js).length ≤ is.length := by unfold stepsZ; rw [List.length_map, List.length_zip]; omega
      rw [List.length_map, List.length_take]
      omega
    · have : (stepsZ is js)[j]? = some (absZ (p.1 - p.2)) := by unfold stepsZ; rw [List.getElem?_map, hp]; rfl
      rw [List.take_add_one, this]
      simp [absZ]
  · rintro acc h1 ⟨rfl, rfl⟩ p hp
    have e : (((is.zip js).map fun p => D.tup [.int p.1, .int p.2]).length) = (stepsZ is js).length := by unfold stepsZ; rw [List.length_map, List.length_map]
    rw [e, List.take_length] at *
    refine length_ok H17 (n := n) hup_same ?_ ?_ bz ⟨h1, fun a m z => ?_, k⟩
    · unfold stepsZ
      cases is with
      | nil => exact absurd rfl n1
      | cons a b => cases js with
        | nil => exact absurd rfl n2
        | cons c d => exact fun z => by cases z
    · unfold stepsZ
      rw [List.length_map, List.length_zip]
      omega
    · rw [hup_ne (fun w => by rw [w, hp] at z; cases z)]
      exact z
/-! ### the class of a caught error -/
/-- what P knows of the error classes c: of all asked ones just one is c's -/
def classW (c : Nat) : Option Str := if c = 14 then some "NoPoint" else if c = 11 then some "NoWay" else if c = 86 then some "NoBox" else if c = 44 then some "NoName" else if c = 7 then some "NoTable" else if c = 18 then some "NoFew" else if c = 13 then some "NoTree" else if c = 87 then some "NoNode"
  else if c = 55 then some "NoReach" else if c = 42 then some "NoThing" else if c = 81 then some "NoBall" else if c = 94 then some "NoText" else if c = 46 then some "TooMany" else none
def kindsOf (c : Nat) : List Nat → List Bool := List.map fun g => decide (c = g)
theorem pys_bl {bs : List Bool} : Pys h (bs.map .bl) (bs.map .bool) := by
  induction bs with
  | nil => exact .nil
  | cons b bs ih => exact .cons (.bl b) ih
theorem cnt_bl {a : Addr} {bs : List Bool} (e : h a = some (.lst (bs.map .bl))) (h1 : PyData.plainAll (bs.map .bool) = true) (h2 : PyData.depthAll (bs.map .bool) ≤ 64) (h3 : (PyData.bool true).plain = true ∧ (PyData.bool true).depth ≤ 64) {Q : VQ} (z : Q (.int ((bs.map PyData.bool).countP fun z => PyData.eqv z (.bool true) : Nat)) h) : bmT .count (.ref a) h ∧ bmV .count (.ref a) [.bl true] h Q := by
  unfold bmT bmV
  dsimp only
  rw [e]
  exact ⟨trivial, _, _, pys_bl, .bl true, h1, h3.1, h2, h3.2, z⟩
theorem idx_bl {a : Addr} {bs : List Bool} (e : h a = some (.lst (bs.map .bl))) {j : Nat} (h1 : SeqAt.shaped (.list (bs.map .bool)) = true) (h2 : SeqAt.shaped (PyData.bool true) = true) (hj : bs[j]? = some true) (hn : ∀ m < j, bs[m]? = some false) {Q : VQ} (z : Q (.int (j : Nat)) h) : bmT .index (.ref a) h ∧ bmV .index (.ref a) [.bl true] h Q := by
  unfold bmT bmV
  dsimp only
  rw [e]
  refine ⟨trivial, _, _, j, .bool true, pys_bl, .bl true, h1, h2, by rw [List.getElem?_map, hj]; rfl, rfl, fun m z' hm hz => ?_, z⟩
  rw [List.getElem?_map, hn m hm] at hz
  cases hz
  rfl
def words : List D := [.str "NoPoint", .str "NoWay", .str "NoBox", .str "NoName", .str "NoTable", .str "NoFew", .str "NoTree", .str "NoNode", .str "NoReach", .str "NoThing", .str "NoBall", .str "NoText", .str "TooMany"]
theorem class_end {n c : Nat} {a p5 : Addr} {h6 : HD} {bs : List Bool} {j : Nat} {d : D} {Z : En} (hv : P.exm c 1000000 = some true) (h1 : PyData.plainAll (bs.map .bool) = true) (h2 : PyData.depthAll (bs.map .bool) ≤ 64) (h3 : (PyData.bool true).plain = true ∧ (PyData.bool true).depth ≤ 64)
    (h4 : (bs.map PyData.bool).countP (fun z => PyData.eqv z (.bool true)) = 1) (h5 : SeqAt.shaped (.list (bs.map .bool)) = true ∧ SeqAt.shaped (PyData.bool true) = true) (h7 : ∀ m < j, bs[m]? = some false) (hj : bs[j]? = some true ∧ j < 13) (hw : words[j]? = some d)
    {L : List D} (e6 : h6 p5 = some (.lst L)) (eL : L = bs.map .bl) (kk : ∀ {h7 : HD}, (∀ a m, h6 a = some m → h7 a = some m) → Z.rt d h7) : denB (P.ca (P.call n)) b236_4 Z [some (.exc c a), some (.ref p5), none] h6 := by
  subst eL
  simp! [b236_4]
  refine cnt_bl e6 h1 h2 h3 ?_
  rw [h4, Nd.ne_int]
  simp! []
  rw [if_neg (by decide), bi_excV (ex := (P.ca (P.call n)).exm) hv]
  simp! [b236_5]
  intro p6 hp6
  simp! [b236_6]
  intro p7 hp7
  rw [add_ref (hup_old hp7 hup_same) hup_same]
  simp! []
  intro p8 hp8
  refine idx_bl (hup_old hp8 (hup_old hp7 (hup_old hp6 e6))) h5.1 h5.2 hj.1 h7 ?_
  rw [sub_ref hup_same (y := .non), at_nn (by omega) (by simp; omega), Int.toNat_natCast]
  show optV (words[j]?) _ _
  rw [hw]
  exact kk fun a m z => hup_old hp8 (hup_old hp7 (hup_old hp6 z))
theorem lawClass_ok (H236 : HasF P 236 b236_0 1 3) {n : Nat} {c : Nat} {a : Addr} (hc : ∀ g ∈ [14, 11, 86, 44, 7, 18, 13, 87, 55, 42, 81, 94, 46], P.exm c g = some (decide (c = g))) (hv : P.exm c 1000000 = some true) (hin : c ∈ [14, 11, 86, 44, 7, 18, 13, 87, 55, 42, 81, 94, 46])
    (k : ∀ w, classW c = some w → q (.str w) h) : P.call (n + 1) 236 [.exc c a] h q r := by
  refine call_of H236 rfl ?_
  have ex : ∀ {g : Nat} {Q : VQ} {h : HD}, g ∈ [14, 11, 86, 44, 7, 18, 13, 87, 55, 42, 81, 94, 46] → biV (P.ca (P.call n)).exm .isi [.exc c a, .glo g] h Q = Q (.bl (decide (c = g))) h := fun {g Q h} hg => bi_exc (hc g hg) (fun z => by subst z; revert hg; decide)
  simp! [b236_0]
  rw [ex (by decide), ex (by decide), ex (by decide), ex (by decide)]
  intro p1 hp1
  generalize hh : hup h p1 _ = h1
  have e1 := congrFun hh p1
  rw [hup_same] at e1
  have s1 : ∀ a m, h a = some m → h1 a = some m := fun a m z => by rw [← hh]; exact hup_old hp1 z
  simp! [b236_1]
  rw [ex (by decide), ex (by decide), ex (by decide), ex (by decide)]
  intro p2 hp2
  rw [add_ref (hup_old hp2 e1.symm) hup_same]
  simp! []
  intro p3 hp3
  generalize hh : hup (hup h1 p2 _) p3 _ = h3
  have e3 := congrFun hh p3
  rw [hup_same] at e3
  have s3 : ∀ a m, h a = some m → h3 a = some m := fun a m z => by rw [← hh]; exact hup_old hp3 (hup_old hp2 (s1 a m z))
  simp! [b236_2]
  rw [ex (by decide), ex (by decide), ex (by decide), ex (by decide)]
  intro p4 hp4
  rw [add_ref (hup_old hp4 e3.symm) hup_same]
  simp! []
  intro p5 hp5
  generalize hh : hup (hup h3 p4 _) p5 _ = h5
  have e5 := congrFun hh p5
  rw [hup_same] at e5
  have s5 : ∀ a m, h a = some m → h5 a = some m := fun a m z => by rw [← hh]; exact hup_old hp5 (hup_old hp4 (s3 a m z))
  have n5 : h p5 = none := by
    cases z : h p5 with
    | none => rfl
    | some m => rw [hup_old hp4 (s3 p5 m z)] at hp5; cases hp5
  simp! [b236_3]
  refine ⟨by unfold bmT; dsimp only; rw [← e5]; trivial, ?_⟩
  rw [ex (by decide)]
  unfold bmV
  dsimp only
  rw [← e5]
  refine ⟨by simp; decide, ?_⟩
  generalize hh : hup h5 p5 _ = h6
  have e6 := congrFun hh p5
  rw [hup_same] at e6
  have back : ∀ {d : D}, q d h → dq q d h6 := fun z => ⟨h, fun a m e => by
    rw [← hh, hup_ne (fun w => by rw [w, n5] at e; cases e)]
    exact s5 a m e, z⟩
  have bw : ∀ {h7 : HD} {d : D}, (∀ a m, h6 a = some m → h7 a = some m) → q d h → dq q d h7 := fun s z => ⟨h, fun a m e => s a m (by
    rw [← hh, hup_ne (fun w => by rw [w, n5] at e; cases e)]
    exact s5 a m e), z⟩
  clear hh e1 e3 e5 s1 s3 s5 ex
  simp only [List.mem_cons, List.not_mem_nil, or_false] at hin
  rcases hin with rfl | rfl | rfl | rfl | rfl | rfl | rfl | rfl | rfl | rfl | rfl | rfl | rfl
  · exact class_end (j := 0) (bs := [true, false, false, false, false, false, false, false, false, false, false, false, false]) hv (by decide) (by decide) (by decide) (by decide) (by decide) (by decide) (by decide) rfl e6.symm rfl (fun s => bw s (k _ rfl))
  · exact class_end (j := 1) (bs := [false, true, false, false, false, false, false, false, false, false, false, false, false]) hv (by decide) (by decide) (by decide) (by decide) (by decide) (by decide) (by decide) rfl e6.symm rfl (fun s => bw s (k _ rfl))
  · exact class_end (j := 2) (bs := [false, false, true, false, false, false, false, false, false, false, false, false, false]) hv (by decide) (by decide) (by decide) (by decide) (by decide) (by decide) (by decide) rfl e6.symm rfl (fun s => bw s (k _ rfl))
  · exact class_end (j := 3) (bs := [false, false, false, true, false, false, false, false, false, false, false, false, false]) hv (by decide) (by decide) (by decide) (by decide) (by decide) (by decide) (by decide) rfl e6.symm rfl (fun s => bw s (k _ rfl))
  · exact class_end (j := 4) (bs := [false, false, false, false, true, false, false, false, false, false, false, false, false]) hv (by decide) (by decide) (by decide) (by decide) (by decide) (by decide) (by decide) rfl e6.symm rfl (fun s => bw s (k _ rfl))
  · exact class_end (j := 5) (bs := [false, false, false, false, false, true, false, false, false, false, false, false, false]) hv (by decide) (by decide) (by decide) (by decide) (by decide) (by decide) (by decide) rfl e6.symm rfl (fun s => bw s (k _ rfl))
  · exact class_end (j := 6) (bs := [false, false, false, false, false, false, true, false, false, false, false, false, false]) hv (by decide) (by decide) (by decide) (by decide) (by decide) (by decide) (by decide) rfl e6.symm rfl (fun s => bw s (k _ rfl))
  · exact class_end (j := 7) (bs := [false, false, false, false, false, false, false, true, false, false, false, false, false]) hv (by decide) (by decide) (by decide) (by decide) (by decide) (by decide) (by decide) rfl e6.symm rfl (fun s => bw s (k _ rfl))
  · exact class_end (j := 8) (bs := [false, false, false, false, false, false, false, false, true, false, false, false, false]) hv (by decide) (by decide) (by decide) (by decide) (by decide) (by decide) (by decide) rfl e6.symm rfl (fun s => bw s (k _ rfl))
  · exact class_end (j := 9) (bs := [false, false, false, false, false, false, false, false, false, true, false, false, false]) hv (by decide) (by decide) (by decide) (by decide) (by decide) (by decide) (by decide) rfl e6.symm rfl (fun s => bw s (k _ rfl))
  · exact class_end (j := 10) (bs := [false, false, false, false, false, false, false, false, false, false, true, false, false]) hv (by decide) (by decide) (by decide) (by decide) (by decide) (by decide) (by decide) rfl e6.symm rfl (fun s => bw s (k _ rfl))
  · exact class_end (j := 11) (bs := [false, false, false, false, false, false, false, false, false, false, false, true, false]) hv (by decide) (by decide) (by decide) (by decide) (by decide) (by decide) (by decide) rfl e6.symm rfl (fun s => bw s (k _ rfl))
  · exact class_end (j := 12) (bs := [false, false, false, false, false, false, false, false, false, false, false, false, true]) hv (by decide) (by decide) (by decide) (by decide) (by decide) (by decide) (by decide) rfl e6.symm rfl (fun s => bw s (k _ rfl))
end
end Sb
namespace T
open PySem PySem.Spec PyProof.Rows L2 Nd
/-! is_box(thing) | 0:thing 1:end 2:low 3:high -/
def b16_0a_0 : B := .cons (.ret (.cst (.bl false))) .nil
def b16_1 : B := .cons (.ret (.an (.cons (.cmp .Eq (.bi .len (.cons (.sub (.var 0) (.cst (.int 0))) .nil)) (.bi .len (.cons (.sub (.var 0) (.cst (.int 1))) .nil))) (.cons (.bl .all (.comp .zip2 (.cons (.sub (.var 0) (.cst (.int 0))) (.cons (.sub (.var 0) (.cst (.int 1))) .nil)) (.tp [2, 3]) [2, 3] .nil (.cmp .LtE (.var 2) (.var 3)))) .nil)))) .nil
def b16_0 : B := .cons (.ite (.or (.cons (.nt (.bi .isi (.cons (.var 0) (.cons (.ty "tuple") .nil)))) (.cons (.cmp .NotEq (.bi .len (.cons (.var 0) .nil)) (.cst (.int 2))) (.cons (.nt (.bl .all (.comp .seq (.cons (.var 0) .nil) (.nm 1) [1] .nil (.call 1 (.cons (.var 1) .nil))))) .nil)))) b16_0a_0 .nil) b16_1
/-! need_box(box) | 0:box -/
def b265_0a_0 : B := .cons (.raise 86) .nil
def b265_0 : B := .cons (.ite (.nt (.call 16 (.cons (.var 0) .nil))) b265_0a_0 .nil) .nil
/-! need_both(box, point) | 0:box 1:point -/
def b264_1 : B := .cons (.ex (.call 35 (.cons (.var 1) (.cons (.bi .len (.cons (.sub (.var 0) (.cst (.int 0))) .nil)) .nil)))) .nil
def b264_0 : B := .cons (.ex (.call 265 (.cons (.var 0) .nil))) b264_1
/-! box_of(points) | 0:points 1:width 2:low 3:axis 4:point -/
def b19_2 : B := .cons (.ret (.tup (.cons (.var 2) (.cons (.bl .tuple (.comp .rng1 (.cons (.var 1) .nil) (.nm 3) [3] .nil (.bl .max (.comp .seq (.cons (.var 0) .nil) (.nm 4) [4] .nil (.sub (.var 4) (.var 3)))))) .nil)))) .nil
def b19_1 : B := .cons (.set 2 (.bl .tuple (.comp .rng1 (.cons (.var 1) .nil) (.nm 3) [3] .nil (.bl .min (.comp .seq (.cons (.var 0) .nil) (.nm 4) [4] .nil (.sub (.var 4) (.var 3))))))) b19_2
def b19_0 : B := .cons (.set 1 (.bi .len (.cons (.sub (.var 0) (.cst (.int 0))) .nil))) b19_1
/-! holds(box, point) | 0:box 1:point 2:low 3:number 4:high -/
def b258_1 : B := .cons (.ret (.bl .all (.comp .zip3 (.cons (.sub (.var 0) (.cst (.int 0))) (.cons (.var 1) (.cons (.sub (.var 0) (.cst (.int 1))) .nil))) (.tp [2, 3, 4]) [2, 3, 4] .nil (.chn .LtE .LtE (.var 2) (.var 3) (.var 4))))) .nil
def b258_0 : B := .cons (.ex (.call 264 (.cons (.var 0) (.cons (.var 1) .nil)))) b258_1
end T
/-! Sc1: boxes. -/
namespace Sc
open PySem PySem.Spec PyProof.Rows L2 Nd T Sa Sb
section
variable {P : Pr} {q : VQ} {r : XQ} {h : HD} {s : Addr}
abbrev pt (is : List Int) : D := .tup (is.map .int)
/-- a point's numbers -/
structure Pt (is : List Int) : Prop where
  l1 : 1 ≤ is.length
  l4 : is.length ≤ 4
  bd : ∀ i ∈ is, -1000000000 ≤ i ∧ i ≤ 1000000000
theorem Pt.ne {is : List Int} (p : Pt is) : is ≠ [] := fun e => by have := p.l1; rw [e] at this; cases this
theorem pt_of {d : D} (e : pointD d = true) : ∃ is, d = pt is ∧ Pt is := by
  obtain ⟨is, e, l1, l4, b⟩ := pointD_nums e
  exact ⟨is, e, l1, l4, b⟩
theorem pt_is {is : List Int} (p : Pt is) : pointD (pt is) = true := by
  show (decide _ && decide _ && _) = true
  rw [List.length_map, decide_eq_true p.l1, decide_eq_true p.l4, Bool.true_and, Bool.true_and, List.all_map, List.all_eq_true]
  intro i hi
  have := p.bd i hi
  show (decide _ && decide _) = true
  rw [decide_eq_true this.1, decide_eq_true this.2]; rfl
theorem isPointK (H1 : HasF P 1 b1_0 1 2) (H2 : HasF P 2 b2_0 3 3) {n : Nat} {d : D} (kd : Kd s h d) (k : q (.bl (pointD d)) h) : P.call (n + 2) 1 [d] h q r := by
  obtain ⟨t, ht⟩ := kd.ty
  refine isPoint_ok H1 H2 ht (fun xs e x hx => ?_) k
  subst e
  exact (kd.items x hx).ty
theorem needPointK (H34 : HasF P 34 b34_0 1 1) (H1 : HasF P 1 b1_0 1 2) (H2 : HasF P 2 b2_0 3 3) {n : Nat} {d : D} (kd : Kd s h d) (k1 : pointD d = true → q .non h) (k2 : pointD d = false → r 14 h) : P.call (n + 3) 34 [d] h q r := by
  obtain ⟨t, ht⟩ := kd.ty
  refine needPoint_ok H34 H1 H2 ht (fun xs e x hx => ?_) k1 k2
  subst e
  exact (kd.items x hx).ty
def lenD : D → Nat
  | .tup xs => xs.length
  | _ => 0
/-- is_box -/
def leZ (is js : List Int) : Bool := (is.zip js).all fun p => decide (p.1 ≤ p.2)
def leD : D → D → Bool
  | .tup xs, .tup ys => (xs.zip ys).all fun p => match p with
    | (.int i, .int j) => decide (i ≤ j)
    | _ => false
  | _, _ => false
def boxD : D → Bool
  | .tup [a, b] => pointD a && pointD b && (decide (lenD a = lenD b) && leD a b)
  | _ => false
theorem leD_pt {is js : List Int} : leD (pt is) (pt js) = leZ is js := by
  unfold leD leZ
  dsimp only
  rw [List.zip_map, List.all_map]
  rfl
structure Bx (lo hi : List Int) : Prop where
  p1 : Pt lo
  p2 : Pt hi
  el : lo.length = hi.length
  le : leZ lo hi = true
abbrev bx (lo hi : List Int) : D := .tup [pt lo, pt hi]
theorem lenD_pt {is : List Int} : lenD (pt is) = is.length := List.length_map ..
theorem bx_of {d : D} (e : boxD d = true) : ∃ lo hi, d = bx lo hi ∧ Bx lo hi := by
  unfold boxD at e
  split at e
  · rename_i a b
    rw [Bool.and_eq_true, Bool.and_eq_true, Bool.and_eq_true] at e
    obtain ⟨⟨e1, e2⟩, e3, e4⟩ := e
    obtain ⟨lo, rfl, p1⟩ := pt_of e1
    obtain ⟨hi, rfl, p2⟩ := pt_of e2
    have e3 := of_decide_eq_true e3
    rw [lenD_pt, lenD_pt] at e3
    rw [leD_pt] at e4
    exact ⟨lo, hi, rfl, p1, p2, e3, e4⟩
  · cases e
theorem bx_is {lo hi : List Int} (b : Bx lo hi) : boxD (bx lo hi) = true := by
  show (pointD _ && pointD _ && (decide _ && leD _ _)) = true
  rw [pt_is b.p1, pt_is b.p2, leD_pt, b.le, lenD_pt, lenD_pt, decide_eq_true b.el]; rfl
theorem kd_bx {lo hi : List Int} : Kd s h (bx lo hi) := .tup fun x hx => by
  simp only [List.mem_cons, List.not_mem_nil, or_false] at hx
  rcases hx with rfl | rfl <;> exact kd_ints
theorem zipL_ints {is js : List Int} : zipL (is.map .int) (js.map .int) = (is.zip js).map fun p => .tup [.int p.1, .int p.2] := zipL_int
theorem isBox_ok (H16 : HasF P 16 b16_0 1 4) (H1 : HasF P 1 b1_0 1 2) (H2 : HasF P 2 b2_0 3 3) {n : Nat} {d : D} (kd : Kd s h d) (k : q (.bl (boxD d)) h) : P.call (n + 3) 16 [d] h q r := by
  refine call_of H16 rfl ?_
  have no : boxD d = false → denB (P.ca (P.call (n + 2))) b16_0a_0 (Zr q r) [some d, none, none, none] h := fun e => by
    simp! [b16_0a_0]
    rw [e] at k
    exact dq_of k
  obtain ⟨t, ht⟩ := kd.ty
  have nt : isiB t "tuple" = false → boxD d = false → denB (P.ca (P.call (n + 2))) b16_0 (Zr q r) ([d].map some ++ List.replicate (4 - 1) none) h := fun e1 e2 => by
    simp! [b16_0, bi_isi ht (n := "tuple") rfl, e1]
    exact no e2
  cases d with
  | tup xs =>
    simp! [b16_0, bi_isi ty_tup (n := "tuple") rfl]
    split
    · rename_i w
      refine no ?_
      unfold boxD
      split
      · rename_i z
        cases z
        simp at w
      · rfl
    · rename_i w
      have w : xs.length = 2 := by simp at w; omega
      match xs, w with
      | [a, b], _ =>
        refine cmp_map (fun x => .bl (pointD x)) (fun x hx q' hq => ?_) gds_tp (by show 2 ≤ sizeLine; decide) ?_
        · simp! []
          exact isPointK H1 H2 (n := n) (kd.items x hx) hq
        · refine bl_allL rfl ?_
          have e0 : ([a, b].all fun x => pointD x) = (pointD a && pointD b) := by simp
          rw [e0]
          cases w2 : (pointD a && pointD b) with
          | false =>
            simp! []
            refine no ?_
            show (pointD a && pointD b && _) = false
            rw [w2]; rfl
          | true =>
            obtain ⟨w3, w4⟩ := Bool.and_eq_true_iff.mp w2
            have e1 : boxD (.tup [a, b]) = (decide (lenD a = lenD b) && leD a b) := by
              show (pointD a && pointD b && _) = _
              rw [w2]; rfl
            obtain ⟨is, rfl, p1⟩ := pt_of w3
            obtain ⟨js, rfl, p2⟩ := pt_of w4
            rw [e1, lenD_pt, lenD_pt, leD_pt] at k
            simp! [b16_1]
            rw [at_nn (by decide) (by simp), at_nn (by decide) (by simp)]
            simp! [Int.reduceToNat, List.length_map]
            by_cases el : is.length = js.length
            · rw [if_pos (decide_eq_true (by omega))]
              rw [zipL_int]
              rw [decide_eq_true el, Bool.true_and] at k
              refine cmp_mapL (fun p => .bl (decide (p.1 ≤ p.2))) (fun p _ q' hq => ?_) gds_nil ?_ ?_
              · simp! []
                exact hq
              · have l4 := p1.l4
                rw [List.length_zip]
                have : sizeLine = 16777216 := rfl
                omega
              · exact bl_allL rfl (dq_of k)
            · have el2 : ¬ ((is.length : Int) = js.length) := by omega
              rw [if_neg (by rw [decide_eq_false el2]; decide)]
              rw [decide_eq_false el, Bool.false_and] at k
              rw [decide_eq_false el2]
              exact dq_of k
  | ref a => rcases ty_ref ht with rfl | rfl <;> exact nt (by decide) rfl
  | non => cases ht; exact nt (by decide) rfl
  | bl _ => cases ht; exact nt (by decide) rfl
  | int _ => cases ht; exact nt (by decide) rfl
  | str _ => cases ht; exact nt (by decide) rfl
  | kls _ => cases kd
  | ty _ => cases ht
  | glo _ => cases ht
  | exc _ _ => cases ht
theorem needBox_ok (H265 : HasF P 265 b265_0 1 1) (H16 : HasF P 16 b16_0 1 4) (H1 : HasF P 1 b1_0 1 2) (H2 : HasF P 2 b2_0 3 3) {n : Nat} {d : D} (kd : Kd s h d) (k1 : boxD d = true → q .non h) (k2 : boxD d = false → r 86 h) : P.call (n + 4) 265 [d] h q r := by
  refine call_of H265 rfl ?_
  simp! [b265_0]
  refine isBox_ok H16 H1 H2 (n := n) kd ?_
  cases e : boxD d with
  | true =>
    simp! []
    exact dq_of (k1 e)
  | false =>
    simp! [b265_0a_0]
    exact dx_of (k2 e)
theorem needWidthK (H35 : HasF P 35 b35_0 2 2) (H34 : HasF P 34 b34_0 1 1) (H1 : HasF P 1 b1_0 1 2) (H2 : HasF P 2 b2_0 3 3) {n : Nat} {d : D} {w : Int} (kd : Kd s h d) (k1 : pointD d = true → (lenD d : Int) = w → q .non h) (k2 : pointD d = false ∨ (lenD d : Int) ≠ w → r 14 h) : P.call (n + 4) 35 [d, .int w] h q r := by
  refine call_of H35 rfl ?_
  simp! [b35_0]
  refine needPointK H34 H1 H2 (n := n) kd (fun e => ?_) fun e => dx_of (k2 (.inl e))
  obtain ⟨is, rfl, p⟩ := pt_of e
  simp! [b35_1, Nd.isNon, List.length_map]
  by_cases el : (is.length : Int) = w
  · rw [if_neg (by rw [decide_eq_true el]; decide)]
    exact dq_of (k1 e (by rw [lenD_pt]; exact el))
  · rw [if_pos (by rw [decide_eq_false el]; rfl)]
    simp! [b35_1a_0]
    exact dx_of (k2 (.inr (by rw [lenD_pt]; exact el)))
theorem needBoth_ok (H264 : HasF P 264 b264_0 2 2) (H265 : HasF P 265 b265_0 1 1) (H16 : HasF P 16 b16_0 1 4) (H35 : HasF P 35 b35_0 2 2) (H34 : HasF P 34 b34_0 1 1) (H1 : HasF P 1 b1_0 1 2) (H2 : HasF P 2 b2_0 3 3) {n : Nat} {b d : D} (kb : Kd s h b) (kd : Kd s h d)
    (k1 : ∀ lo hi is, b = bx lo hi → Bx lo hi → d = pt is → Pt is → is.length = lo.length → q .non h) (k2 : boxD b = false → r 86 h) (k3 : ∀ lo hi, b = bx lo hi → Bx lo hi → (∀ is, d = pt is → Pt is → is.length ≠ lo.length) → r 14 h) : P.call (n + 5) 264 [b, d] h q r := by
  refine call_of H264 rfl ?_
  simp! [b264_0]
  refine needBox_ok H265 H16 H1 H2 (n := n) kb (fun e => ?_) fun e => dx_of (k2 e)
  obtain ⟨lo, hi, rfl, B⟩ := bx_of e
  simp! [b264_1]
  rw [at_nn (by decide) (by simp)]
  simp! [Int.reduceToNat, List.length_map]
  refine needWidthK H35 H34 H1 H2 (n := n) kd (fun e1 e2 => ?_) fun e1 => dx_of (k3 _ _ rfl B fun is ed p el => ?_)
  · obtain ⟨is, rfl, p⟩ := pt_of e1
    rw [lenD_pt] at e2
    exact dq_of (k1 _ _ _ rfl B rfl p (by omega))
  · subst ed
    rcases e1 with e1 | e1
    · rw [pt_is p] at e1; cases e1
    · rw [lenD_pt] at e1
      omega
/-! ### box_of -/
def colZ (pss : List (List Int)) (ax : Nat) : List Int := pss.map fun is => is.getD ax 0
def lowZ (pss : List (List Int)) : List Int := (List.range (pss.headD []).length).map fun ax => loZ (colZ pss ax)
def higZ (pss : List (List Int)) : List Int := (List.range (pss.headD []).length).map fun ax => hiZ (colZ pss ax)
theorem at_pt {is : List Int} {i : Nat} (h : i < is.length) : atD (is.map D.int) (i : Int) = some (.int (is.getD i 0)) := by
  rw [at_nn (by omega) (by rw [List.length_map]; omega), List.getElem?_map]
  have : ((i : Nat) : Int).toNat = i := by omega
  rw [this, List.getElem?_eq_getElem h]
  simp [List.getD_eq_getElem?_getD, List.getElem?_eq_getElem h]
theorem rng0 {n : Nat} : rngL 0 n = (List.range n).map fun i => .int (i : Nat) := by
  unfold rngL
  refine List.map_congr_left fun i _ => ?_
  rw [Int.zero_add]
theorem boxOf_ok (H19 : HasF P 19 b19_0 1 5) {n : Nat} {a : Addr} {pss : List (List Int)} (e : h a = some (.lst (pss.map pt))) (ne : pss ≠ []) (hl : pss.length < 2 ^ 20) (hw : ∀ is ∈ pss, is.length = (pss.headD []).length) (h4 : (pss.headD []).length ≤ 4)
    (k : q (bx (lowZ pss) (higZ pss)) h) : P.call (n + 1) 19 [.ref a] h q r := by
  refine call_of H19 rfl ?_
  have hp : 0 < pss.length := List.length_pos_iff.mpr ne
  have e0 : atD (pss.map pt) 0 = some (pt (pss.headD [])) := by
    rw [at_nn (by decide) (by rw [List.length_map]; omega), List.getElem?_map]
    cases pss with
    | nil => cases hp
    | cons x xs => rfl
  simp! [b19_0]
  rw [sub_ref e (y := .int 0), e0]
  simp! [List.length_map]
  have sz : sizeLine = 16777216 := rfl
  simp! [b19_1]
  refine ⟨by omega, ?_⟩
  rw [rng0]
  have len : ((pss.headD []).length : Int).toNat = (pss.headD []).length := by omega
  rw [len]
  refine cmp_mapL (fun ax => .int (loZ (colZ pss ax))) (fun ax hax q' hq => ?_) gds_nil (by rw [List.length_range]; omega) ?_
  · have hax := List.mem_range.mp hax
    simp! []
    rw [iv_ref e]
    simp! []
    refine cmp_mapL (fun is => D.int (is.getD ax 0)) (fun is hi q2 h2 => ?_) (gds_ls e) (by omega) ?_
    · simp! []
      rw [at_pt (by rw [hw is hi]; exact hax)]
      exact h2
    · exact bl_minL rfl ne hq
  simp! [b19_2]
  refine ⟨by omega, ?_⟩
  rw [rng0, len]
  refine cmp_mapL (fun ax => .int (hiZ (colZ pss ax))) (fun ax hax q' hq => ?_) gds_nil (by rw [List.length_range]; omega) ?_
  · have hax := List.mem_range.mp hax
    simp! []
    rw [iv_ref e]
    simp! []
    refine cmp_mapL (fun is => D.int (is.getD ax 0)) (fun is hi q2 h2 => ?_) (gds_ls e) (by omega) ?_
    · simp! []
      rw [at_pt (by rw [hw is hi]; exact hax)]
      exact h2
    · exact bl_maxL rfl ne hq
  · refine dq_of ?_
    have e1 : bx (lowZ pss) (higZ pss) = .tup [.tup ((List.range (pss.headD []).length).map fun ax => .int (loZ (colZ pss ax))), .tup ((List.range (pss.headD []).length).map fun ax => .int (hiZ (colZ pss ax)))] := by
      show D.tup [.tup ((lowZ pss).map .int), .tup ((higZ pss).map .int)] = _
      unfold lowZ higZ
      rw [List.map_map, List.map_map]
      rfl
    rw [← e1]
    exact k
/-! ### holds -/
def insZ (lo is hi : List Int) : Bool := (lo.zip (is.zip hi)).all fun p => decide (p.1 ≤ p.2.1) && decide (p.2.1 ≤ p.2.2)
theorem zipL3_int {is js ks : List Int} : zipL3 (is.map .int) (js.map .int) (ks.map .int) = (is.zip (js.zip ks)).map fun p => .tup [.int p.1, .int p.2.1, .int p.2.2] := by
  unfold zipL3
  rw [List.zip_map, List.zip_map, List.map_map]
  rfl
theorem holds_ok (H258 : HasF P 258 b258_0 2 5) (H264 : HasF P 264 b264_0 2 2) (H265 : HasF P 265 b265_0 1 1) (H16 : HasF P 16 b16_0 1 4) (H35 : HasF P 35 b35_0 2 2) (H34 : HasF P 34 b34_0 1 1) (H1 : HasF P 1 b1_0 1 2) (H2 : HasF P 2 b2_0 3 3) {n : Nat} {b d : D} (kb : Kd s h b) (kd : Kd s h d)
    (k1 : ∀ lo hi is, b = bx lo hi → Bx lo hi → d = pt is → Pt is → is.length = lo.length → q (.bl (insZ lo is hi)) h) (k2 : boxD b = false → r 86 h) (k3 : ∀ lo hi, b = bx lo hi → Bx lo hi → (∀ is, d = pt is → Pt is → is.length ≠ lo.length) → r 14 h) : P.call (n + 6) 258 [b, d] h q r := by
  refine call_of H258 rfl ?_
  simp! [b258_0]
  refine needBoth_ok H264 H265 H16 H35 H34 H1 H2 (n := n) kb kd (fun lo hi is eb B ed p el => ?_) (fun e => dx_of (k2 e)) fun lo hi eb B z => dx_of (k3 lo hi eb B z)
  subst eb ed
  simp! [b258_1]
  rw [at_nn (by decide) (by simp), at_nn (by decide) (by simp)]
  simp! [Int.reduceToNat, it_zip3, zipL3_int]
  refine cmp_mapL (fun p => .bl (decide (p.1 ≤ p.2.1) && decide (p.2.1 ≤ p.2.2))) (fun p _ q' hq => ?_) gds_nil ?_ ?_
  · simp! []
    split
    · rename_i w
      rw [w, Bool.true_and] at hq
      exact hq
    · rename_i w
      rw [Bool.not_eq_true] at w
      rw [w, Bool.false_and] at hq
      exact hq
  · have l4 := p.l4
    rw [List.length_zip, List.length_zip]
    have : sizeLine = 16777216 := rfl
    omega
  · exact bl_allL rfl (dq_of (k1 lo hi is rfl B rfl p el))
end
end Sc
namespace T
open PySem PySem.Spec PyProof.Rows L2 Nd
/-! nearest_to(box, point) | 0:box 1:point 2:low 3:number 4:high -/
def b50_0 : B := .cons (.ret (.bl .tuple (.comp .zip3 (.cons (.sub (.var 0) (.cst (.int 0))) (.cons (.var 1) (.cons (.sub (.var 0) (.cst (.int 1))) .nil))) (.tp [2, 3, 4]) [2, 3, 4] .nil (.bi .max2 (.cons (.var 2) (.cons (.bi .min2 (.cons (.var 4) (.cons (.var 3) .nil))) .nil)))))) .nil
/-! farther_end(low, number, high) | 0:low 1:number 2:high -/
def b51_0a_0 : B := .cons (.ret (.var 2)) .nil
def b51_1 : B := .cons (.ret (.var 0)) .nil
def b51_0 : B := .cons (.ite (.cmp .Gt (.bin .Sub (.var 2) (.var 1)) (.bin .Sub (.var 1) (.var 0))) b51_0a_0 .nil) b51_1
/-! farthest_from(box, point) | 0:box 1:point 2:low 3:number 4:high -/
def b52_0 : B := .cons (.ret (.bl .tuple (.comp .zip3 (.cons (.sub (.var 0) (.cst (.int 0))) (.cons (.var 1) (.cons (.sub (.var 0) (.cst (.int 1))) .nil))) (.tp [2, 3, 4]) [2, 3, 4] .nil (.call 51 (.cons (.var 2) (.cons (.var 3) (.cons (.var 4) .nil))))))) .nil
/-! nearest_in(box, point) | 0:box 1:point -/
def b393_1 : B := .cons (.ret (.call 50 (.cons (.var 0) (.cons (.var 1) .nil)))) .nil
def b393_0 : B := .cons (.ex (.call 264 (.cons (.var 0) (.cons (.var 1) .nil)))) b393_1
/-! farthest_in(box, point) | 0:box 1:point -/
def b390_1 : B := .cons (.ret (.call 52 (.cons (.var 0) (.cons (.var 1) .nil)))) .nil
def b390_0 : B := .cons (.ex (.call 264 (.cons (.var 0) (.cons (.var 1) .nil)))) b390_1
/-! least_by(way, box, point) | 0:way 1:box 2:point -/
def b49_0 : B := .cons (.ret (.call 15 (.cons (.var 0) (.cons (.call 50 (.cons (.var 1) (.cons (.var 2) .nil))) (.cons (.var 2) .nil))))) .nil
/-! most_by(way, box, point) | 0:way 1:box 2:point -/
def b53_0 : B := .cons (.ret (.call 15 (.cons (.var 0) (.cons (.call 52 (.cons (.var 1) (.cons (.var 2) .nil))) (.cons (.var 2) .nil))))) .nil
/-! least(way, box, point) | 0:way 1:box 2:point -/
def b391_2 : B := .cons (.ret (.call 49 (.cons (.var 0) (.cons (.var 1) (.cons (.var 2) .nil))))) .nil
def b391_1 : B := .cons (.ex (.call 264 (.cons (.var 1) (.cons (.var 2) .nil)))) b391_2
def b391_0 : B := .cons (.ex (.call 37 (.cons (.var 0) .nil))) b391_1
/-! most(way, box, point) | 0:way 1:box 2:point -/
def b392_2 : B := .cons (.ret (.call 53 (.cons (.var 0) (.cons (.var 1) (.cons (.var 2) .nil))))) .nil
def b392_1 : B := .cons (.ex (.call 264 (.cons (.var 1) (.cons (.var 2) .nil)))) b392_2
def b392_0 : B := .cons (.ex (.call 37 (.cons (.var 0) .nil))) b392_1
/-! facing(one, other) | 0:one 1:other -/
def b106_0a_0 : B := .cons (.ret (.tup (.cons (.sub (.var 0) (.cst (.int 1))) (.cons (.sub (.var 1) (.cst (.int 0))) .nil)))) .nil
def b106_1a_0 : B := .cons (.ret (.tup (.cons (.sub (.var 0) (.cst (.int 0))) (.cons (.sub (.var 1) (.cst (.int 1))) .nil)))) .nil
def b106_2 : B := .cons (.ret (.tup (.cons (.bi .max2 (.cons (.sub (.var 0) (.cst (.int 0))) (.cons (.sub (.var 1) (.cst (.int 0))) .nil))) (.cons (.bi .max2 (.cons (.sub (.var 0) (.cst (.int 0))) (.cons (.sub (.var 1) (.cst (.int 0))) .nil))) .nil)))) .nil
def b106_1 : B := .cons (.ite (.cmp .Lt (.sub (.var 1) (.cst (.int 1))) (.sub (.var 0) (.cst (.int 0)))) b106_1a_0 .nil) b106_2
def b106_0 : B := .cons (.ite (.cmp .Lt (.sub (.var 0) (.cst (.int 1))) (.sub (.var 1) (.cst (.int 0)))) b106_0a_0 .nil) b106_1
/-! closest_of(one, other) | 0:one 1:other 2:pairs 3:axis 4:pair -/
def b105_1a_0 : B := .cons (.ex (.bm .append (.var 2) (.cons (.call 106 (.cons (.tup (.cons (.sub (.sub (.var 0) (.cst (.int 0))) (.var 3)) (.cons (.sub (.sub (.var 0) (.cst (.int 1))) (.var 3)) .nil))) (.cons (.tup (.cons (.sub (.sub (.var 1) (.cst (.int 0))) (.var 3)) (.cons (.sub (.sub (.var 1) (.cst (.int 1))) (.var 3)) .nil))) .nil))) .nil))) .nil
def b105_2 : B := .cons (.ret (.tup (.cons (.bl .tuple (.comp .seq (.cons (.var 2) .nil) (.nm 4) [4] .nil (.sub (.var 4) (.cst (.int 0))))) (.cons (.bl .tuple (.comp .seq (.cons (.var 2) .nil) (.nm 4) [4] .nil (.sub (.var 4) (.cst (.int 1))))) .nil)))) .nil
def b105_1 : B := .cons (.for_ .rng1 (.cons (.bi .len (.cons (.sub (.var 0) (.cst (.int 0))) .nil)) .nil) (.nm 3) b105_1a_0) b105_2
def b105_0 : B := .cons (.set 2 (.lst .nil)) b105_1
/-! need_boxes(one, other) | 0:one 1:other -/
def b394_2a_0 : B := .cons (.raise 86) .nil
def b394_2 : B := .cons (.ite (.cmp .NotEq (.bi .len (.cons (.sub (.var 0) (.cst (.int 0))) .nil)) (.bi .len (.cons (.sub (.var 1) (.cst (.int 0))) .nil))) b394_2a_0 .nil) .nil
def b394_1 : B := .cons (.ex (.call 265 (.cons (.var 1) .nil))) b394_2
def b394_0 : B := .cons (.ex (.call 265 (.cons (.var 0) .nil))) b394_1
/-! closest(one, other) | 0:one 1:other -/
def b389_1 : B := .cons (.ret (.call 105 (.cons (.var 0) (.cons (.var 1) .nil)))) .nil
def b389_0 : B := .cons (.ex (.call 394 (.cons (.var 0) (.cons (.var 1) .nil)))) b389_1
/-! boxes_apart(way, one, other) | 0:way 1:one 2:other 3:ends -/
def b104_1 : B := .cons (.ret (.call 15 (.cons (.var 0) (.cons (.sub (.var 3) (.cst (.int 0))) (.cons (.sub (.var 3) (.cst (.int 1))) .nil))))) .nil
def b104_0 : B := .cons (.set 3 (.call 105 (.cons (.var 1) (.cons (.var 2) .nil)))) b104_1
/-! apart(way, one, other) | 0:way 1:one 2:other -/
def b388_2 : B := .cons (.ret (.call 104 (.cons (.var 0) (.cons (.var 1) (.cons (.var 2) .nil))))) .nil
def b388_1 : B := .cons (.ex (.call 394 (.cons (.var 1) (.cons (.var 2) .nil)))) b388_2
def b388_0 : B := .cons (.ex (.call 37 (.cons (.var 0) .nil))) b388_1
end T
/-! Sd1: nearest and farthest points of boxes, closest points of two. -/
namespace Sd
open PySem PySem.Spec PyProof.Rows L2 Nd T Sa Sb Sc
/-- what is called -/
structure HB (P : Pr) : Prop where
  f2 : HasF P 2 b2_0 3 3
  f1 : HasF P 1 b1_0 1 2
  f33 : HasF P 33 b33_0 1 1
  f37 : HasF P 37 b37_0 1 1
  f34 : HasF P 34 b34_0 1 1
  f35 : HasF P 35 b35_0 2 2
  f17 : HasF P 17 b17_0 2 3
  f15 : HasF P 15 b15_0 3 5
  f16 : HasF P 16 b16_0 1 4
  f265 : HasF P 265 b265_0 1 1
  f264 : HasF P 264 b264_0 2 2
section
variable {P : Pr} {q : VQ} {r : XQ} {h : HD} {s : Addr}
def nearN (l n h : Int) : Int := if (if n < h then n else h) > l then (if n < h then n else h) else l
def farN (l n h : Int) : Int := if n - l < h - n then h else l
def nearZ (lo is hi : List Int) : List Int := (lo.zip (is.zip hi)).map fun p => nearN p.1 p.2.1 p.2.2
def farZ (lo is hi : List Int) : List Int := (lo.zip (is.zip hi)).map fun p => farN p.1 p.2.1 p.2.2
theorem z3_len {lo is hi : List Int} : (lo.zip (is.zip hi)).length = min lo.length (min is.length hi.length) := by
  rw [List.length_zip, List.length_zip]
theorem pt_map {α : Type} {l : List α} {f : α → Int} : D.tup (l.map fun x => D.int (f x)) = pt (l.map f) := by
  show _ = D.tup ((l.map f).map D.int)
  rw [List.map_map]; rfl
theorem nearest_ok (H50 : HasF P 50 b50_0 2 5) {n : Nat} {lo is hi : List Int} (hl : lo.length ≤ 1000) (k : q (pt (nearZ lo is hi)) h) : P.call (n + 1) 50 [bx lo hi, pt is] h q r := by
  refine call_of H50 rfl ?_
  have sz : sizeLine = 16777216 := rfl
  simp! [b50_0]
  rw [at_nn (by decide) (by simp), at_nn (by decide) (by simp)]
  simp! [Int.reduceToNat, zipL3_int]
  refine cmp_mapL (fun p => .int (nearN p.1 p.2.1 p.2.2)) (fun p _ q' hq => ?_) gds_nil (by rw [z3_len]; omega) ?_
  · simp! []
    exact hq
  · rw [pt_map]
    exact dq_of k
theorem farther_ok (H51 : HasF P 51 b51_0 3 3) {n : Nat} {a b c : Int} (k : q (.int (farN a b c)) h) : P.call (n + 1) 51 [.int a, .int b, .int c] h q r := by
  refine call_of H51 rfl ?_
  simp! [b51_0]
  unfold farN at k
  split
  · rename_i w
    rw [if_pos (of_decide_eq_true w)] at k
    simp! [b51_0a_0]
    exact dq_of k
  · rename_i w
    rw [if_neg (fun z => w (decide_eq_true z))] at k
    simp! [b51_1]
    exact dq_of k
theorem farthest_ok (H52 : HasF P 52 b52_0 2 5) (H51 : HasF P 51 b51_0 3 3) {n : Nat} {lo is hi : List Int} (hl : lo.length ≤ 1000) (k : q (pt (farZ lo is hi)) h) : P.call (n + 2) 52 [bx lo hi, pt is] h q r := by
  refine call_of H52 rfl ?_
  have sz : sizeLine = 16777216 := rfl
  simp! [b52_0]
  rw [at_nn (by decide) (by simp), at_nn (by decide) (by simp)]
  simp! [Int.reduceToNat, zipL3_int]
  refine cmp_mapL (fun p => .int (farN p.1 p.2.1 p.2.2)) (fun p _ q' hq => ?_) gds_nil (by rw [z3_len]; omega) ?_
  · simp! []
    exact farther_ok H51 (n := n) hq
  · rw [pt_map]
    exact dq_of k
theorem z3_bd {lo is hi : List Int} (B : Bx lo hi) (p : Pt is) (el : is.length = lo.length) {f : Int → Int → Int → Int} (hf : ∀ a b c, a ≤ c → f a b c = a ∨ f a b c = c ∨ (f a b c = b)) : Pt ((lo.zip (is.zip hi)).map fun p => f p.1 p.2.1 p.2.2) ∧ ((lo.zip (is.zip hi)).map fun p => f p.1 p.2.1 p.2.2).length = lo.length := by
  have e1 := B.el
  have l : ((lo.zip (is.zip hi)).map fun p => f p.1 p.2.1 p.2.2).length = lo.length := by rw [List.length_map, z3_len]; omega
  refine ⟨⟨by rw [l]; exact B.p1.l1, by rw [l]; exact B.p1.l4, fun i hi => ?_⟩, l⟩
  obtain ⟨x, hx, rfl⟩ := List.mem_map.mp hi
  obtain ⟨m1, m2⟩ := List.of_mem_zip hx
  obtain ⟨m2, m3⟩ := List.of_mem_zip m2
  have b1 := B.p1.bd _ m1
  have b2 := p.bd _ m2
  have b3 := B.p2.bd _ m3
  by_cases z : x.1 ≤ x.2.2
  · rcases hf x.1 x.2.1 x.2.2 z with e | e | e <;> rw [e] <;> assumption
  · exfalso
    obtain ⟨k, hk⟩ := List.mem_iff_getElem?.mp hx
    obtain ⟨z1, z2⟩ := List.getElem?_zip_eq_some.mp hk
    obtain ⟨z2, z3⟩ := List.getElem?_zip_eq_some.mp z2
    have le := B.le
    unfold leZ at le
    have := List.all_eq_true.mp le (x.1, x.2.2) (List.mem_of_getElem? (i := k) (List.getElem?_zip_eq_some.mpr ⟨z1, z3⟩))
    exact z (of_decide_eq_true this)
theorem near_pt {lo is hi : List Int} (B : Bx lo hi) (p : Pt is) (el : is.length = lo.length) : Pt (nearZ lo is hi) ∧ (nearZ lo is hi).length = lo.length := by
  refine z3_bd B p el fun a b c h => ?_
  unfold nearN
  split <;> split <;> simp
theorem far_pt {lo is hi : List Int} (B : Bx lo hi) (p : Pt is) (el : is.length = lo.length) : Pt (farZ lo is hi) ∧ (farZ lo is hi).length = lo.length := by
  refine z3_bd B p el fun a b c h => ?_
  unfold farN
  split <;> simp
theorem apartP (H : HB P) {n : Nat} {w : Str} {is js : List Int} (p1 : Pt is) (p2 : Pt js) (k : q (.int (apartZ w is js)) h) : P.call (n + 2) 15 [.str w, pt is, pt js] h q r :=
  apartBy_ok H.f15 H.f17 p1.ne p2.ne (by have := p1.l4; omega) p1.bd p2.bd k
theorem leastBy_ok (H : HB P) (H49 : HasF P 49 b49_0 3 3) (H50 : HasF P 50 b50_0 2 5) {n : Nat} {w : Str} {lo is hi : List Int} (B : Bx lo hi) (p : Pt is) (el : is.length = lo.length) (k : q (.int (apartZ w (nearZ lo is hi) is)) h) : P.call (n + 3) 49 [.str w, bx lo hi, pt is] h q r := by
  refine call_of H49 rfl ?_
  simp! [b49_0]
  have := B.p1.l4
  refine nearest_ok H50 (n := n + 1) (by omega) ?_
  simp! []
  exact apartP H (n := n) (near_pt B p el).1 p (dq_of k)
theorem mostBy_ok (H : HB P) (H53 : HasF P 53 b53_0 3 3) (H52 : HasF P 52 b52_0 2 5) (H51 : HasF P 51 b51_0 3 3) {n : Nat} {w : Str} {lo is hi : List Int} (B : Bx lo hi) (p : Pt is) (el : is.length = lo.length) (k : q (.int (apartZ w (farZ lo is hi) is)) h) : P.call (n + 3) 53 [.str w, bx lo hi, pt is] h q r := by
  refine call_of H53 rfl ?_
  simp! [b53_0]
  have := B.p1.l4
  refine farthest_ok H52 H51 (n := n) (by omega) ?_
  simp! []
  exact apartP H (n := n) (far_pt B p el).1 p (dq_of k)
theorem needWayK (H : HB P) {n : Nat} {d : D} (kd : Kd s h d) (k1 : ∀ z, d = .str z → wayD d = true → q .non h) (k2 : wayD d = false → r 11 h) : P.call (n + 2) 37 [d] h q r := by
  obtain ⟨t, ht⟩ := kd.ty
  refine needWay_ok H.f37 H.f33 ht (fun e => ?_) k2
  cases d with
  | str z => exact k1 z rfl e
  | _ => cases e
theorem needBothK (H : HB P) {n : Nat} {b d : D} (kb : Kd s h b) (kd : Kd s h d)
    (k1 : ∀ lo hi is, b = bx lo hi → Bx lo hi → d = pt is → Pt is → is.length = lo.length → q .non h) (k2 : boxD b = false → r 86 h) (k3 : ∀ lo hi, b = bx lo hi → Bx lo hi → (∀ is, d = pt is → Pt is → is.length ≠ lo.length) → r 14 h) : P.call (n + 5) 264 [b, d] h q r :=
  needBoth_ok H.f264 H.f265 H.f16 H.f35 H.f34 H.f1 H.f2 kb kd k1 k2 k3
/-- the doors of a box and a point -/
theorem nearestIn_ok (H : HB P) (H393 : HasF P 393 b393_0 2 2) (H50 : HasF P 50 b50_0 2 5) {n : Nat} {b d : D} (kb : Kd s h b) (kd : Kd s h d)
    (k1 : ∀ lo hi is, b = bx lo hi → Bx lo hi → d = pt is → Pt is → is.length = lo.length → q (pt (nearZ lo is hi)) h) (k2 : boxD b = false → r 86 h) (k3 : ∀ lo hi, b = bx lo hi → Bx lo hi → (∀ is, d = pt is → Pt is → is.length ≠ lo.length) → r 14 h) : P.call (n + 6) 393 [b, d] h q r := by
  refine call_of H393 rfl ?_
  simp! [b393_0]
  refine needBothK H (n := n) kb kd (fun lo hi is e1 B e2 p el => ?_) (fun e => dx_of (k2 e)) fun lo hi e B z => dx_of (k3 lo hi e B z)
  subst e1 e2
  simp! [b393_1]
  have := B.p1.l4
  exact nearest_ok H50 (n := n + 4) (by omega) (dq_of (k1 lo hi is rfl B rfl p el))
theorem farthestIn_ok (H : HB P) (H390 : HasF P 390 b390_0 2 2) (H52 : HasF P 52 b52_0 2 5) (H51 : HasF P 51 b51_0 3 3) {n : Nat} {b d : D} (kb : Kd s h b) (kd : Kd s h d)
    (k1 : ∀ lo hi is, b = bx lo hi → Bx lo hi → d = pt is → Pt is → is.length = lo.length → q (pt (farZ lo is hi)) h) (k2 : boxD b = false → r 86 h) (k3 : ∀ lo hi, b = bx lo hi → Bx lo hi → (∀ is, d = pt is → Pt is → is.length ≠ lo.length) → r 14 h) : P.call (n + 6) 390 [b, d] h q r := by
  refine call_of H390 rfl ?_
  simp! [b390_0]
  refine needBothK H (n := n) kb kd (fun lo hi is e1 B e2 p el => ?_) (fun e => dx_of (k2 e)) fun lo hi e B z => dx_of (k3 lo hi e B z)
  subst e1 e2
  simp! [b390_1]
  have := B.p1.l4
  exact farthest_ok H52 H51 (n := n + 3) (by omega) (dq_of (k1 lo hi is rfl B rfl p el))
theorem least_ok (H : HB P) (H391 : HasF P 391 b391_0 3 3) (H49 : HasF P 49 b49_0 3 3) (H50 : HasF P 50 b50_0 2 5) {n : Nat} {w b d : D} (kw : Kd s h w) (kb : Kd s h b) (kd : Kd s h d)
    (k1 : ∀ z lo hi is, w = .str z → wayD w = true → b = bx lo hi → Bx lo hi → d = pt is → Pt is → is.length = lo.length → q (.int (apartZ z (nearZ lo is hi) is)) h) (k0 : wayD w = false → r 11 h) (k2 : wayD w = true → boxD b = false → r 86 h)
    (k3 : wayD w = true → ∀ lo hi, b = bx lo hi → Bx lo hi → (∀ is, d = pt is → Pt is → is.length ≠ lo.length) → r 14 h) : P.call (n + 6) 391 [w, b, d] h q r := by
  refine call_of H391 rfl ?_
  simp! [b391_0]
  refine needWayK H (n := n + 3) kw (fun z ew ww => ?_) fun e => dx_of (k0 e)
  simp! [b391_1]
  refine needBothK H (n := n) kb kd (fun lo hi is e1 B e2 p el => ?_) (fun e => dx_of (k2 ww e)) fun lo hi e B z => dx_of (k3 ww lo hi e B z)
  subst e1 e2 ew
  simp! [b391_2]
  exact leastBy_ok H H49 H50 (n := n + 2) B p el (dq_of (k1 z lo hi is rfl ww rfl B rfl p el))
theorem most_ok (H : HB P) (H392 : HasF P 392 b392_0 3 3) (H53 : HasF P 53 b53_0 3 3) (H52 : HasF P 52 b52_0 2 5) (H51 : HasF P 51 b51_0 3 3) {n : Nat} {w b d : D} (kw : Kd s h w) (kb : Kd s h b) (kd : Kd s h d)
    (k1 : ∀ z lo hi is, w = .str z → wayD w = true → b = bx lo hi → Bx lo hi → d = pt is → Pt is → is.length = lo.length → q (.int (apartZ z (farZ lo is hi) is)) h) (k0 : wayD w = false → r 11 h) (k2 : wayD w = true → boxD b = false → r 86 h)
    (k3 : wayD w = true → ∀ lo hi, b = bx lo hi → Bx lo hi → (∀ is, d = pt is → Pt is → is.length ≠ lo.length) → r 14 h) : P.call (n + 6) 392 [w, b, d] h q r := by
  refine call_of H392 rfl ?_
  simp! [b392_0]
  refine needWayK H (n := n + 3) kw (fun z ew ww => ?_) fun e => dx_of (k0 e)
  simp! [b392_1]
  refine needBothK H (n := n) kb kd (fun lo hi is e1 B e2 p el => ?_) (fun e => dx_of (k2 ww e)) fun lo hi e B z => dx_of (k3 ww lo hi e B z)
  subst e1 e2 ew
  simp! [b392_2]
  exact mostBy_ok H H53 H52 H51 (n := n + 2) B p el (dq_of (k1 z lo hi is rfl ww rfl B rfl p el))
/-! ### two boxes -/
def faceN (a b c d : Int) : Int × Int := if b < c then (b, c) else if d < a then (a, d) else (if c > a then c else a, if c > a then c else a)
theorem facing_ok (H106 : HasF P 106 b106_0 2 2) {n : Nat} {a b c d : Int} (k : q (.tup [.int (faceN a b c d).1, .int (faceN a b c d).2]) h) : P.call (n + 1) 106 [.tup [.int a, .int b], .tup [.int c, .int d]] h q r := by
  refine call_of H106 rfl ?_
  simp! [b106_0]
  rw [at_nn (by decide) (by simp), at_nn (by decide) (by simp)]
  simp! [Int.reduceToNat]
  unfold faceN at k
  split
  · rename_i w
    rw [if_pos (of_decide_eq_true w)] at k
    simp! [b106_0a_0]
    rw [at_nn (by decide) (by simp), at_nn (by decide) (by simp)]
    simp! [Int.reduceToNat]
    exact dq_of k
  · rename_i w
    rw [if_neg (fun z => w (decide_eq_true z))] at k
    simp! [b106_1]
    rw [at_nn (by decide) (by simp), at_nn (by decide) (by simp)]
    simp! [Int.reduceToNat]
    split
    · rename_i w
      rw [if_pos (of_decide_eq_true w)] at k
      simp! [b106_1a_0]
      rw [at_nn (by decide) (by simp), at_nn (by decide) (by simp)]
      simp! [Int.reduceToNat]
      exact dq_of k
    · rename_i w
      rw [if_neg (fun z => w (decide_eq_true z))] at k
      simp! [b106_2]
      rw [at_nn (by decide) (by simp), at_nn (by decide) (by simp)]
      simp! [Int.reduceToNat]
      exact dq_of k
/-- axis by axis -/
def faceZ (lo hi lo' hi' : List Int) : List (Int × Int) := (List.range lo.length).map fun ax => faceN (lo.getD ax 0) (hi.getD ax 0) (lo'.getD ax 0) (hi'.getD ax 0)
abbrev closA (lo hi lo' hi' : List Int) : List Int := (faceZ lo hi lo' hi').map (·.1)
abbrev closB (lo hi lo' hi' : List Int) : List Int := (faceZ lo hi lo' hi').map (·.2)
abbrev prD (p : Int × Int) : D := .tup [.int p.1, .int p.2]
theorem bmT_app {a : Addr} {xs : List D} (e : h a = some (.lst xs)) : bmT .append (.ref a) h := by
  unfold bmT
  dsimp only
  rw [e]
  trivial
theorem bm_app {a : Addr} {xs : List D} {d : D} (e : h a = some (.lst xs)) (hl : xs.length < sizeLine) (z : q .non (hup h a (.lst (xs ++ [d])))) : bmV .append (.ref a) [d] h q := by
  unfold bmV
  dsimp only
  rw [e]
  exact ⟨hl, z⟩
theorem sub_wr {h h1 : HD} {p : Addr} {m : MO} (s : Sub h h1) (n : h p = none) : Sub h (hup h1 p m) := fun a o e => by
  rw [hup_ne (fun z => by rw [z, n] at e; cases e)]
  exact s a o e
theorem closestOf_ok (H105 : HasF P 105 b105_0 2 5) (H106 : HasF P 106 b106_0 2 2) {n : Nat} {lo hi lo' hi' : List Int} (B : Bx lo hi) (B' : Bx lo' hi') (el : lo'.length = lo.length)
    (k : q (.tup [pt (closA lo hi lo' hi'), pt (closB lo hi lo' hi')]) h) : P.call (n + 2) 105 [bx lo hi, bx lo' hi'] h q r := by
  refine call_of H105 rfl ?_
  have sz : sizeLine = 16777216 := rfl
  have l4 := B.p1.l4
  have e1 := B.el
  have e2 := B'.el
  simp! [b105_0]
  intro p hp
  simp! [b105_1]
  rw [at_nn (by decide) (by simp)]
  simp! [Int.reduceToNat, List.length_map]
  refine ⟨by omega, ?_⟩
  rw [rng0, show (lo.length : Int).toNat = lo.length by omega]
  have fl : (faceZ lo hi lo' hi').length = lo.length := by unfold faceZ; rw [List.length_map, List.length_range]
  refine for_of (fun j σ h1 => Sub h h1 ∧ (∃ x y, σ = [some (bx lo hi), some (bx lo' hi'), some (.ref p), x, y]) ∧ h1 p = some (.lst (((faceZ lo hi lo' hi').take j).map prD))) ?_ ?_ ⟨sub_wr Sub.refl hp, ⟨_, _, rfl⟩, hup_same⟩
  · rintro j x σ h1 V hj ⟨sub, ⟨x0, y0, rfl⟩, g1⟩ hV
    rw [List.getElem?_map] at hj
    obtain ⟨ax, hax, ex⟩ := Option.map_eq_some_iff.mp hj
    have hjl := (List.getElem?_eq_some_iff.mp hax).1
    rw [List.length_range] at hjl
    rw [List.getElem?_range hjl] at hax
    cases hax
    subst ex
    simp! [b105_1a_0]
    refine ⟨bmT_app g1, ?_⟩
    rw [at_nn (by decide) (by simp), at_nn (by decide) (by simp), at_nn (by decide) (by simp), at_nn (by decide) (by simp)]
    simp! [Int.reduceToNat]
    rw [at_pt hjl]
    simp! []
    rw [at_pt (by omega)]
    simp! []
    rw [at_pt (by omega)]
    simp! []
    rw [at_pt (by omega)]
    simp! []
    have hf : (faceZ lo hi lo' hi')[j]? = some (faceN (lo.getD j 0) (hi.getD j 0) (lo'.getD j 0) (hi'.getD j 0)) := by
      unfold faceZ
      rw [List.getElem?_map, List.getElem?_range hjl]; rfl
    refine facing_ok H106 (n := n) (bm_app g1 (by rw [List.length_map, List.length_take]; omega) ?_)
    refine hV _ _ ⟨sub_wr sub hp, ⟨_, _, rfl⟩, ?_⟩ gds_nil
    rw [hup_same, List.take_add_one, hf, List.map_append]
    rfl
  · rintro σ h1 ⟨sub, ⟨x0, y0, rfl⟩, g1⟩
    rw [List.length_map, List.length_range, ← fl, List.take_length] at g1
    simp! [b105_2]
    rw [iv_ref g1]
    simp! []
    refine cmp_mapL (fun x => .int x.1) (fun x _ q' hq => ?_) (gds_ls g1) (by omega) ?_
    · simp! []
      rw [at_nn (by decide) (by simp)]
      simp! [Int.reduceToNat]
      exact hq
    simp! []
    rw [iv_ref g1]
    simp! []
    refine cmp_mapL (fun x => .int x.2) (fun x _ q' hq => ?_) (gds_ls g1) (by omega) ?_
    · simp! []
      rw [at_nn (by decide) (by simp)]
      simp! [Int.reduceToNat]
      exact hq
    rw [pt_map, pt_map]
    exact ⟨h, sub, k⟩
theorem face_pt {lo hi lo' hi' : List Int} (B : Bx lo hi) (B' : Bx lo' hi') (el : lo'.length = lo.length) : (Pt (closA lo hi lo' hi') ∧ (closA lo hi lo' hi').length = lo.length) ∧ Pt (closB lo hi lo' hi') ∧ (closB lo hi lo' hi').length = lo.length := by
  have fl : (faceZ lo hi lo' hi').length = lo.length := by unfold faceZ; rw [List.length_map, List.length_range]
  have e1 := B.el
  have e2 := B'.el
  have bd : ∀ x ∈ faceZ lo hi lo' hi', (-1000000000 ≤ x.1 ∧ x.1 ≤ 1000000000) ∧ -1000000000 ≤ x.2 ∧ x.2 ≤ 1000000000 := fun x hx => by
    obtain ⟨ax, hax, rfl⟩ := List.mem_map.mp hx
    have hax := List.mem_range.mp hax
    have g : ∀ {l : List Int}, Pt l → ax < l.length → -1000000000 ≤ l.getD ax 0 ∧ l.getD ax 0 ≤ 1000000000 := fun p hl => by
      rw [List.getD_eq_getElem?_getD, List.getElem?_eq_getElem hl]
      exact p.bd _ (List.getElem_mem hl)
    have g1 := g B.p1 hax
    have g2 := g B.p2 (by omega)
    have g3 := g B'.p1 (by omega)
    have g4 := g B'.p2 (by omega)
    unfold faceN
    split
    · exact ⟨g2, g3⟩
    · split
      · exact ⟨g1, g4⟩
      · refine ⟨?_, ?_⟩ <;> (show -1000000000 ≤ (if _ then _ else _) ∧ (if _ then _ else _) ≤ _; split <;> assumption)
  have l1 := B.p1.l1
  have l4 := B.p1.l4
  refine ⟨⟨⟨by rw [List.length_map]; omega, by rw [List.length_map]; omega, fun i hi => ?_⟩, by rw [List.length_map]; exact fl⟩, ⟨by rw [List.length_map]; omega, by rw [List.length_map]; omega, fun i hi => ?_⟩, by rw [List.length_map]; exact fl⟩
  · obtain ⟨x, hx, rfl⟩ := List.mem_map.mp hi
    exact (bd x hx).1
  · obtain ⟨x, hx, rfl⟩ := List.mem_map.mp hi
    exact (bd x hx).2
theorem needBoxes_ok (H : HB P) (H394 : HasF P 394 b394_0 2 2) {n : Nat} {a b : D} (ka : Kd s h a) (kb : Kd s h b)
    (k1 : ∀ lo hi lo' hi', a = bx lo hi → Bx lo hi → b = bx lo' hi' → Bx lo' hi' → lo'.length = lo.length → q .non h) (k2 : (∀ lo hi lo' hi', a = bx lo hi → Bx lo hi → b = bx lo' hi' → Bx lo' hi' → lo'.length ≠ lo.length) → r 86 h) : P.call (n + 5) 394 [a, b] h q r := by
  refine call_of H394 rfl ?_
  simp! [b394_0]
  have inj : ∀ {lo hi lo' hi' : List Int}, bx lo hi = bx lo' hi' → lo = lo' ∧ hi = hi' := fun e => by
    have e := D.tup.inj e
    rw [List.cons.injEq, List.cons.injEq] at e
    have pi : ∀ {is js : List Int}, pt is = pt js → is = js := fun e => (List.map_inj_right (fun _ _ => D.int.inj)).mp (D.tup.inj e)
    exact ⟨pi e.1, pi e.2.1⟩
  refine needBox_ok H.f265 H.f16 H.f1 H.f2 (n := n) ka (fun e => ?_) fun e => dx_of (k2 fun lo hi lo' hi' ea B _ _ _ => by rw [ea, bx_is B] at e; cases e)
  obtain ⟨lo, hi, rfl, B⟩ := bx_of e
  simp! [b394_1]
  refine needBox_ok H.f265 H.f16 H.f1 H.f2 (n := n) kb (fun e => ?_) fun e => dx_of (k2 fun lo hi lo' hi' _ _ eb B _ => by rw [eb, bx_is B] at e; cases e)
  obtain ⟨lo', hi', rfl, B'⟩ := bx_of e
  simp! [b394_2]
  rw [at_nn (by decide) (by simp), at_nn (by decide) (by simp)]
  simp! [Int.reduceToNat, List.length_map]
  by_cases el : (lo.length : Int) = lo'.length
  · rw [if_neg (by rw [decide_eq_true el]; decide)]
    exact dq_of (k1 lo hi lo' hi' rfl B rfl B' (by omega))
  · rw [if_pos (by rw [decide_eq_false el]; rfl)]
    simp! [b394_2a_0]
    refine dx_of (k2 fun l1 h1 l2 h2 e1 _ e2 _ e3 => el ?_)
    rw [(inj e1).1, (inj e2).1]
    omega
theorem closest_ok (H : HB P) (H389 : HasF P 389 b389_0 2 2) (H394 : HasF P 394 b394_0 2 2) (H105 : HasF P 105 b105_0 2 5) (H106 : HasF P 106 b106_0 2 2) {n : Nat} {a b : D} (ka : Kd s h a) (kb : Kd s h b)
    (k1 : ∀ lo hi lo' hi', a = bx lo hi → Bx lo hi → b = bx lo' hi' → Bx lo' hi' → lo'.length = lo.length → q (.tup [pt (closA lo hi lo' hi'), pt (closB lo hi lo' hi')]) h)
    (k2 : (∀ lo hi lo' hi', a = bx lo hi → Bx lo hi → b = bx lo' hi' → Bx lo' hi' → lo'.length ≠ lo.length) → r 86 h) : P.call (n + 6) 389 [a, b] h q r := by
  refine call_of H389 rfl ?_
  simp! [b389_0]
  refine needBoxes_ok H H394 (n := n) ka kb (fun lo hi lo' hi' e1 B e2 B' el => ?_) fun z => dx_of (k2 z)
  subst e1 e2
  simp! [b389_1]
  exact closestOf_ok H105 H106 (n := n + 3) B B' el (dq_of (k1 lo hi lo' hi' rfl B rfl B' el))
theorem boxesApart_ok (H : HB P) (H104 : HasF P 104 b104_0 3 4) (H105 : HasF P 105 b105_0 2 5) (H106 : HasF P 106 b106_0 2 2) {n : Nat} {w : Str} {lo hi lo' hi' : List Int} (B : Bx lo hi) (B' : Bx lo' hi') (el : lo'.length = lo.length)
    (k : q (.int (apartZ w (closA lo hi lo' hi') (closB lo hi lo' hi'))) h) : P.call (n + 3) 104 [.str w, bx lo hi, bx lo' hi'] h q r := by
  refine call_of H104 rfl ?_
  simp! [b104_0]
  refine closestOf_ok H105 H106 (n := n) B B' el ?_
  simp! [b104_1]
  rw [at_nn (by decide) (by simp), at_nn (by decide) (by simp)]
  simp! [Int.reduceToNat]
  obtain ⟨⟨p1, _⟩, p2, _⟩ := face_pt B B' el
  exact apartP H (n := n) p1 p2 (dq_of k)
theorem apart_ok (H : HB P) (H388 : HasF P 388 b388_0 3 3) (H394 : HasF P 394 b394_0 2 2) (H104 : HasF P 104 b104_0 3 4) (H105 : HasF P 105 b105_0 2 5) (H106 : HasF P 106 b106_0 2 2) {n : Nat} {w a b : D} (kw : Kd s h w) (ka : Kd s h a) (kb : Kd s h b)
    (k1 : ∀ z lo hi lo' hi', w = .str z → wayD w = true → a = bx lo hi → Bx lo hi → b = bx lo' hi' → Bx lo' hi' → lo'.length = lo.length → q (.int (apartZ z (closA lo hi lo' hi') (closB lo hi lo' hi'))) h) (k0 : wayD w = false → r 11 h)
    (k2 : wayD w = true → (∀ lo hi lo' hi', a = bx lo hi → Bx lo hi → b = bx lo' hi' → Bx lo' hi' → lo'.length ≠ lo.length) → r 86 h) : P.call (n + 6) 388 [w, a, b] h q r := by
  refine call_of H388 rfl ?_
  simp! [b388_0]
  refine needWayK H (n := n + 3) kw (fun z ew ww => ?_) fun e => dx_of (k0 e)
  simp! [b388_1]
  refine needBoxes_ok H H394 (n := n) ka kb (fun lo hi lo' hi' e1 B e2 B' el => ?_) fun z => dx_of (k2 ww z)
  subst e1 e2 ew
  simp! [b388_2]
  exact boxesApart_ok H H104 H105 H106 (n := n + 2) B B' el (dq_of (k1 z lo hi lo' hi' rfl ww rfl B rfl B' el))
end
end Sd
namespace T
open PySem PySem.Spec PyProof.Rows L2 Nd
/-! _law_distance(_law_way, _law_one, _law_other) | 0:_law_way 1:_law_one 2:_law_other 3:_law_found 4:_law_first 5:_law_second 6:_law_step -/
def b159_1a_1a_0 : B := .cons (.set 3 (.bin .Add (.var 3) (.bin .Mult (.var 6) (.var 6)))) .nil
def b159_1a_1b_0a_0 : B := .cons (.set 3 (.bin .Add (.var 3) (.sub (.lst (.cons (.var 6) (.cons (.neg (.var 6)) .nil))) (.bi .int1 (.cons (.cmp .Lt (.var 6) (.cst (.int 0))) .nil))))) .nil
def b159_1a_1b_0b_0 : B := .cons (.set 3 (.sub (.lst (.cons (.var 3) (.cons (.var 6) (.cons (.neg (.var 6)) .nil)))) (.bm .index (.lst (.cons (.var 3) (.cons (.var 6) (.cons (.neg (.var 6)) .nil)))) (.cons (.bi .max3 (.cons (.var 3) (.cons (.var 6) (.cons (.neg (.var 6)) .nil)))) .nil)))) .nil
def b159_1a_1b_0 : B := .cons (.ite (.cmp .Eq (.var 0) (.cst (.str "taxi"))) b159_1a_1b_0a_0 b159_1a_1b_0b_0) .nil
def b159_1a_1 : B := .cons (.ite (.cmp .Eq (.var 0) (.cst (.str "square"))) b159_1a_1a_0 b159_1a_1b_0) .nil
def b159_1a_0 : B := .cons (.set 6 (.bin .Sub (.var 4) (.var 5))) b159_1a_1
def b159_2 : B := .cons (.ret (.var 3)) .nil
def b159_1 : B := .cons (.for_ .zip2 (.cons (.var 1) (.cons (.var 2) .nil)) (.tp [4, 5]) b159_1a_0) b159_2
def b159_0 : B := .cons (.set 3 (.cst (.int 0))) b159_1
end T
/-! Se1: the laws' own distance. -/
namespace Se
open PySem PySem.Spec PyProof.Rows L2 Nd T Sa Sb Sc Sd
section
variable {P : Pr} {q : VQ} {r : XQ} {h : HD}
theorem way3 {w : Str} (e : wayD (.str w) = true) : w = "taxi" ∨ w = "chess" ∨ w = "square" := by
  have e : (("taxi" : Str) == w || (("chess" : Str) == w || (("square" : Str) == w || false))) = true := e
  simp only [Bool.or_eq_true, beq_iff_eq, Bool.or_false] at e
  rcases e with e | e | e
  · exact .inl e.symm
  · exact .inr (.inl e.symm)
  · exact .inr (.inr e.symm)
/-- the law's own adding -/
def ownZ (w : Str) (l : List Int) : Int := if w = "square" then (l.map fun i => i * i).sum else if w = "taxi" then (l.map absZ).sum else l.foldl (fun a i => max a (absZ i)) 0
theorem fold_max : ∀ (l : List Int) (a b : Int), l.foldl (fun a i => max a i) (max a b) = max a (l.foldl (fun a i => max a i) b)
  | [], a, b => rfl
  | x :: l, a, b => by
    rw [List.foldl_cons, List.foldl_cons, ← fold_max l a (max b x)]
    congr 1
    omega
theorem maxZ_fold : ∀ (x : Int) (l : List Int), maxZ (x :: l) = l.foldl (fun a i => max a i) x
  | x, [] => rfl
  | x, y :: l => by
    show max x (maxZ (y :: l)) = _
    rw [maxZ_fold y l, List.foldl_cons, fold_max]
theorem own_apart {w : Str} (hw : w = "taxi" ∨ w = "chess" ∨ w = "square") {is js : List Int} (n1 : is ≠ []) (n2 : js ≠ []) : ownZ w ((is.zip js).map fun p => p.1 - p.2) = apartZ w is js := by
  have es : stepsZ is js = ((is.zip js).map fun p => p.1 - p.2).map absZ := by unfold stepsZ; rw [List.map_map]; rfl
  unfold apartZ
  rw [es]
  generalize hl : ((is.zip js).map fun p => p.1 - p.2) = l
  have ne : l ≠ [] := by
    subst hl
    cases is with
    | nil => exact absurd rfl n1
    | cons a b => cases js with
      | nil => exact absurd rfl n2
      | cons c d => exact fun z => by cases z
  rcases hw with rfl | rfl | rfl
  · rfl
  · show l.foldl (fun a i => max a (absZ i)) 0 = maxZ (l.map absZ)
    cases l with
    | nil => exact absurd rfl ne
    | cons x l =>
      rw [List.map_cons, maxZ_fold, List.foldl_cons, List.foldl_map]
      congr 1
      unfold absZ
      split <;> omega
  · show (l.map fun i => i * i).sum = ((l.map absZ).map fun i => i * i).sum
    rw [List.map_map]
    congr 1
    refine List.map_congr_left fun x _ => ?_
    show x * x = absZ x * absZ x
    unfold absZ
    split
    · rw [Int.neg_mul_neg]
    · rfl
theorem own_snoc (w : Str) (l : List Int) (x : Int) : ownZ w (l ++ [x]) = if w = "square" then ownZ w l + x * x else if w = "taxi" then ownZ w l + absZ x else max (ownZ w l) (absZ x) := by
  unfold ownZ
  split
  · simp
  · split
    · simp
    · rw [List.foldl_append]; rfl
theorem pys_int {l : List Int} : Pys h (l.map .int) (l.map .int) := by
  induction l with
  | nil => exact .nil
  | cons b l ih => exact .cons (.int b) ih
theorem idx_ints {a : Addr} {xs : List Int} (e : h a = some (.lst (xs.map .int))) {m : Int} {j : Nat} (h1 : SeqAt.shaped (.list (xs.map .int)) = true) (h2 : SeqAt.shaped (PyData.int m) = true) (hj : xs[j]? = some m) (hn : ∀ i < j, ∀ y, xs[i]? = some y → y ≠ m) {Q : VQ} (z : Q (.int (j : Nat)) h) : bmV .index (.ref a) [.int m] h Q := by
  unfold bmV
  dsimp only
  rw [e]
  refine ⟨_, _, j, .int m, pys_int, .int m, h1, h2, by rw [List.getElem?_map, hj]; rfl, by simp [PyData.eqv], fun i z' hi hz => ?_, z⟩
  rw [List.getElem?_map] at hz
  obtain ⟨y, hy, rfl⟩ := Option.map_eq_some_iff.mp hz
  have := hn i hi y hy
  simp [PyData.eqv, this]
theorem lawDist_ok (H159 : HasF P 159 b159_0 3 7) {n : Nat} {w : Str} {is js : List Int} (hw : wayD (.str w) = true) (n1 : is ≠ []) (n2 : js ≠ []) (b1 : ∀ i ∈ is, -1000000000 ≤ i ∧ i ≤ 1000000000) (b2 : ∀ i ∈ js, -1000000000 ≤ i ∧ i ≤ 1000000000) (k : q (.int (apartZ w is js)) h) :
    P.call (n + 1) 159 [.str w, .tup (is.map .int), .tup (js.map .int)] h q r := by
  refine call_of H159 rfl ?_
  have hw3 := way3 hw
  simp! [b159_0, b159_1]
  rw [zipL_int]
  have ln : ((is.zip js).map fun p => D.tup [.int p.1, .int p.2]).length = (is.zip js).length := List.length_map _
  refine for_of (fun j σ h1 => (∀ a m, h a = some m → h1 a = some m) ∧ ∃ x4 x5 x6, σ = [some (.str w), some (.tup (is.map .int)), some (.tup (js.map .int)), some (.int (ownZ w (((is.zip js).take j).map fun p => p.1 - p.2))), x4, x5, x6]) ?_ ?_ ⟨fun _ _ e => e, _, _, _, by
    have : ownZ w [] = 0 := by unfold ownZ; split <;> first | rfl | (split <;> rfl)
    show _ = [_, _, _, some (D.int (ownZ w [])), _, _, _]
    rw [this]⟩
  · rintro j x σ h1 V hj ⟨sb, x4, x5, x6, rfl⟩ hV
    rw [List.getElem?_map] at hj
    obtain ⟨p, hp, rfl⟩ := Option.map_eq_some_iff.mp hj
    obtain ⟨a1, a2⟩ := List.of_mem_zip (List.mem_of_getElem? hp)
    have c1 := b1 _ a1
    have c2 := b2 _ a2
    have et : ((is.zip js).take (j + 1)).map (fun p => p.1 - p.2) = ((is.zip js).take j).map (fun p => p.1 - p.2) ++ [p.1 - p.2] := by rw [List.take_add_one, hp]; simp
    generalize hf : ownZ w (((is.zip js).take j).map fun p => p.1 - p.2) = f
    have go : ∀ (h2 : HD) (y : Int), (∀ a m, h a = some m → h2 a = some m) → y = (if w = "square" then f + (p.1 - p.2) * (p.1 - p.2) else if w = "taxi" then f + absZ (p.1 - p.2) else max f (absZ (p.1 - p.2))) → V [some (.str w), some (.tup (is.map .int)), some (.tup (js.map .int)), some (.int y), some (.int p.1), some (.int p.2), some (.int (p.1 - p.2))] h2 := by
      intro h2 y s2 hy
      refine hV _ _ ⟨s2, some (.int p.1), some (.int p.2), some (.int (p.1 - p.2)), ?_⟩ gds_nil
      rw [et, own_snoc, hf, hy]
    simp! [b159_1a_0, List.zip_cons_cons, List.zip_nil_right, List.foldl_cons, List.foldl_nil]
    simp! [b159_1a_1]
    generalize hst : p.1 - p.2 = st at *
    rcases hw3 with rfl | rfl | rfl
    · rw [if_neg (by decide)]
      simp! [b159_1a_1b_0]
      simp! [b159_1a_1b_0a_0]
      intro p1 hp1
      rw [sub_ref hup_same (y := .non), at_nn (by split <;> decide) (by split <;> simp)]
      by_cases h0 : st < 0
      · rw [if_pos (decide_eq_true h0)]
        rw [show [Nd.D.int st, Nd.D.int (-st)][(1 : Int).toNat]? = some (.int (-st)) from rfl]
        simp! []
        refine go _ _ (fun a m e => hup_old hp1 (sb a m e)) ?_
        rw [if_neg (by decide), if_pos rfl]
        unfold absZ
        rw [if_pos h0]
      · rw [if_neg (by rw [decide_eq_true_eq]; exact h0)]
        rw [show [Nd.D.int st, Nd.D.int (-st)][(0 : Int).toNat]? = some (.int st) from rfl]
        simp! []
        refine go _ _ (fun a m e => hup_old hp1 (sb a m e)) ?_
        rw [if_neg (by decide), if_pos rfl]
        unfold absZ
        rw [if_neg h0]
    · rw [if_neg (by decide)]
      simp! [b159_1a_1b_0]
      rw [if_neg (by decide)]
      simp! [b159_1a_1b_0b_0]
      intro p1 hp1 p2 hp2
      refine ⟨by unfold bmT; dsimp only; rw [hup_same]; trivial, ?_⟩
      rw [show ∀ Q : VQ, ∀ h2, biV (P.ca (P.call n)).exm .max3 [.int f, .int st, .int (-st)] h2 Q = Q (.int (if st > f then (if -st > st then -st else st) else if -st > f then -st else f)) h2 from fun _ _ => rfl]
      have hm : (if st > f then (if -st > st then -st else st) else if -st > f then -st else f) = max f (absZ st) := by
        unfold absZ
        split <;> split <;> split <;> omega
      rw [hm]
      have fin : ∀ j : Nat, [f, st, -st][j]? = some (max f (absZ st)) → (∀ i < j, ∀ y, [f, st, -st][i]? = some y → y ≠ max f (absZ st)) → bmV .index (.ref p2) [.int (max f (absZ st))] (hup (hup h1 p1 (.lst [.int f, .int st, .int (-st)])) p2 (.lst [.int f, .int st, .int (-st)])) fun y h2 =>
          subV' (.ref p1) y h2 fun d h1 => V [some (.str "chess"), some (.tup (is.map .int)), some (.tup (js.map .int)), some d, some (.int p.1), some (.int p.2), some (.int st)] h1 := by
        intro j hj hn
        refine idx_ints (xs := [f, st, -st]) hup_same rfl rfl hj hn ?_
        have lj := (List.getElem?_eq_some_iff.mp hj).1
        rw [sub_ref (hup_old hp2 hup_same) (y := .non), at_nn (by omega) (by simp at lj ⊢; omega), Int.toNat_natCast]
        rw [show [Nd.D.int f, Nd.D.int st, Nd.D.int (-st)] = [f, st, -st].map Nd.D.int from rfl, List.getElem?_map, hj]
        refine go _ _ (fun a m e => hup_old hp2 (hup_old hp1 (sb a m e))) ?_
        rw [if_neg (by decide), if_neg (by decide)]
      by_cases c0 : f = max f (absZ st)
      · exact fin 0 (by rw [← c0]; rfl) fun i hi => absurd hi (Nat.not_lt_zero _)
      · by_cases c1 : st = max f (absZ st)
        · refine fin 1 (by rw [← c1]; rfl) fun i hi y hy => ?_
          have : i = 0 := by omega
          subst this
          cases hy
          exact c0
        · have c2 : -st = max f (absZ st) := by
            unfold absZ at c0 c1 ⊢
            split at c0 <;> rename_i z
            · rw [if_pos z] at c1 ⊢; omega
            · rw [if_neg z] at c1 ⊢; omega
          refine fin 2 (by rw [← c2]; rfl) fun i hi y hy => ?_
          have : i = 0 ∨ i = 1 := by omega
          rcases this with rfl | rfl
          · cases hy; exact c0
          · cases hy; exact c1
    · rw [if_pos (by decide)]
      simp! [b159_1a_1a_0]
      exact ⟨.inl (by omega), go _ _ sb (by rw [if_pos rfl])⟩
  · rintro σ h1 ⟨sb, x4, x5, x6, rfl⟩
    simp! [b159_2]
    rw [ln, List.take_length, own_apart hw3 n1 n2]
    exact ⟨h, sb, k⟩
end
end Se
/-! Sf1: helpers that the laws share. -/
namespace Sf
open PySem PySem.Spec PyProof.Rows L2 Nd T Sa Sb Sc Sd Se
section
variable {q : VQ} {r : XQ} {h : HD} {s : Addr}
theorem at_got {is : List Int} {i : Nat} {v : Int} (h : is[i]? = some v) : atD (is.map D.int) (i : Int) = some (.int v) := by
  have hl := (List.getElem?_eq_some_iff.mp h).1
  rw [at_nn (by omega) (by rw [List.length_map]; omega), List.getElem?_map]
  have : ((i : Nat) : Int).toNat = i := by omega
  rw [this, h]
  rfl
theorem getD_at {l : List Int} {k : Nat} (h : k < l.length) : l[k]? = some (l.getD k 0) := by
  rw [List.getD_eq_getElem?_getD, List.getElem?_eq_getElem h]; rfl
theorem set_got {l : List Int} {k ax : Nat} {v : Int} : (l.set k v)[ax]? = if ax = k then (if k < l.length then some v else none) else l[ax]? := by
  by_cases z : ax = k
  · subst z
    rw [if_pos rfl, List.getElem?_set_self']
    split
    · rename_i w
      rw [List.getElem?_eq_getElem w]; rfl
    · rename_i w
      rw [List.getElem?_eq_none (by omega)]; rfl
  · rw [if_neg z, List.getElem?_set_ne (Ne.symm z)]
theorem cut_to {l : List Int} {k : Nat} (hk : k ≤ l.length) : Nd.cutD (l.map D.int) none (some (k : Int)) = (l.take k).map D.int := by
  unfold Nd.cutD HT.sIx
  dsimp only
  rw [if_neg (by omega), List.length_map, List.drop_zero, Nat.sub_zero, show min (k : Int).toNat l.length = k by omega, List.map_take]
theorem cut_from {l : List Int} {k : Nat} (hk : k ≤ l.length) : Nd.cutD (l.map D.int) (some (k : Int)) none = (l.drop k).map D.int := by
  unfold Nd.cutD HT.sIx
  dsimp only
  rw [if_neg (by omega), List.length_map, show min (k : Int).toNat l.length = k by omega, List.take_of_length_le (by rw [List.length_drop, List.length_map]; omega), List.map_drop]
theorem cut_to1 {l : List Int} (hk : 1 ≤ l.length) : Nd.cutD (l.map D.int) none (some (-1)) = (l.take (l.length - 1)).map D.int := by
  unfold Nd.cutD HT.sIx
  dsimp only
  rw [if_pos (by omega), List.length_map, List.drop_zero, Nat.sub_zero, show (-1 + (l.length : Int)).toNat = l.length - 1 by omega, List.map_take]
theorem cut_from1 {l : List Int} (hk : 1 ≤ l.length) : Nd.cutD (l.map D.int) (some (-1)) none = (l.drop (l.length - 1)).map D.int := by
  unfold Nd.cutD HT.sIx
  dsimp only
  rw [if_pos (by omega), List.length_map, show (-1 + (l.length : Int)).toNat = l.length - 1 by omega, List.take_of_length_le (by rw [List.length_drop, List.length_map]; omega), List.map_drop]
theorem set_parts {l : List Int} {k : Nat} {v : Int} (hk : k < l.length) : l.take k ++ [v] ++ l.drop (k + 1) = l.set k v := by
  rw [List.set_eq_take_append_cons_drop, if_pos hk, List.append_assoc]
  rfl
theorem pt_set {l : List Int} {k : Nat} {v : Int} (p : Pt l) (h1 : -1000000000 ≤ v) (h2 : v ≤ 1000000000) : Pt (l.set k v) :=
  ⟨by rw [List.length_set]; exact p.l1, by rw [List.length_set]; exact p.l4, fun i hi => (List.mem_or_eq_of_mem_set hi).elim (p.bd i) fun e => e ▸ ⟨h1, h2⟩⟩
theorem mul_ref {a : Addr} {xs : List D} {k : Int} (e : h a = some (.lst xs)) {Q : VQ} : mulV (.ref a) (.int k) h Q = ((-(2 ^ 63) ≤ k ∧ k < 2 ^ 63 ∧ xs.length * k.toNat ≤ sizeLine) ∧ ∀ p, h p = none → Q (.ref p) (hup h p (.lst (List.replicate k.toNat xs).flatten))) := by
  unfold mulV
  dsimp only
  rw [e]
theorem kd_tup2 {a b : D} (ka : Kd s h a) (kb : Kd s h b) : Kd s h (.tup [a, b]) := .tup fun x hx => by
  simp only [List.mem_cons, List.not_mem_nil, or_false] at hx
  rcases hx with rfl | rfl <;> assumption
theorem kd_tup1 {a : D} (ka : Kd s h a) : Kd s h (.tup [a]) := .tup fun x hx => by
  rw [List.mem_singleton.mp hx]; exact ka
theorem kd_app {a b : List D} (ka : ∀ x ∈ a, Kd s h x) (kb : ∀ x ∈ b, Kd s h x) : Kd s h (.tup (a ++ b)) := .tup fun x hx => (List.mem_append.mp hx).elim (ka x) (kb x)
theorem kd_is {is : List Int} : ∀ x ∈ is.map D.int, Kd s h x := fun x hx => by
  obtain ⟨i, _, rfl⟩ := List.mem_map.mp hx
  exact .int i
theorem kd_rep {n : Nat} {d : D} (k : Kd s h d) : ∀ x ∈ List.replicate n d, Kd s h x := fun x hx => by rw [(List.mem_replicate.mp hx).2]; exact k
theorem box_r {a b : D} (e : pointD b = false) : boxD (.tup [a, b]) = false := by
  show (pointD a && pointD b && _) = false
  rw [e, Bool.and_false]; rfl
theorem box_l {a b : D} (e : pointD a = false) : boxD (.tup [a, b]) = false := by
  show (pointD a && pointD b && _) = false
  rw [e, Bool.false_and]; rfl
theorem box_len {a b : D} (e : lenD a ≠ lenD b) : boxD (.tup [a, b]) = false := by
  show (pointD a && pointD b && (decide _ && _)) = false
  rw [decide_eq_false e, Bool.false_and, Bool.and_false]
theorem box_le {is js : List Int} {k : Nat} {a b : Int} (e1 : is[k]? = some a) (e2 : js[k]? = some b) (z : b < a) : boxD (bx is js) = false := by
  show (pointD _ && pointD _ && (_ && leD _ _)) = false
  have : leZ is js = false := by
    unfold leZ
    rw [List.all_eq_false]
    refine ⟨(a, b), List.mem_of_getElem? (i := k) (List.getElem?_zip_eq_some.mpr ⟨e1, e2⟩), ?_⟩
    show ¬ decide (a ≤ b) = true
    rw [decide_eq_true_eq]
    omega
  rw [leD_pt, this, Bool.and_false, Bool.and_false]
theorem box_pt {is : List Int} : boxD (pt is) = false := by
  match is with
  | [] => rfl
  | [_] => rfl
  | [_, _] => rfl
  | _ :: _ :: _ :: _ => rfl
theorem over_no {xs : List D} (e : ∃ x ∈ xs, wholeD x (-1000000000) 1000000000 = false) : pointD (.tup xs) = false := by
  show (_ && _ && xs.all _) = false
  obtain ⟨x, hx, z⟩ := e
  rw [show (xs.all fun x => wholeD x (-1000000000) 1000000000) = false from List.all_eq_false.mpr ⟨x, hx, by rw [z]; exact Bool.false_ne_true⟩, Bool.and_false]
theorem at_last {l : List Int} (h1 : 1 ≤ l.length) : atD (l.map D.int) (-1) = some (.int (l.getD (l.length - 1) 0)) := by
  rw [at_neg (by decide) (by rw [List.length_map]; omega), List.length_map, show (-1 + (l.length : Int)).toNat = l.length - 1 by omega, List.getElem?_map, List.getD_eq_getElem?_getD, List.getElem?_eq_getElem (by omega)]
  rfl
theorem pt_inj {is js : List Int} (e : pt is = pt js) : is = js := by
  have e : is.map D.int = js.map D.int := D.tup.inj e
  exact (List.map_inj_right (fun _ _ => D.int.inj)).mp e
theorem pts_inj {a b : List (List Int)} (e : a.map pt = b.map pt) : a = b := (List.map_inj_right (fun _ _ => pt_inj)).mp e
theorem pt_nums {xs : List D} {w : Nat} (hl : xs.length = w) (h1 : 1 ≤ w) (h4 : w ≤ 4) (hn : ∀ x ∈ xs, Num x) : ∃ is, xs = is.map D.int ∧ Pt is ∧ is.length = w := by
  have key : ∀ l : List D, (∀ x ∈ l, Num x) → ∃ is : List Int, l = is.map .int ∧ ∀ i ∈ is, -1000000000 ≤ i ∧ i ≤ 1000000000 := by
    intro l
    induction l with
    | nil => exact fun _ => ⟨[], rfl, fun _ h => by cases h⟩
    | cons y l ih =>
      intro hn
      obtain ⟨i, rfl, b1, b2⟩ := hn y List.mem_cons_self
      obtain ⟨is, rfl, hb⟩ := ih fun x hx => hn x (List.mem_cons_of_mem _ hx)
      exact ⟨i :: is, rfl, fun j hj => (List.mem_cons.mp hj).elim (fun e => e ▸ ⟨b1, b2⟩) (hb j)⟩
  obtain ⟨is, rfl, hb⟩ := key xs hn
  rw [List.length_map] at hl
  exact ⟨is, rfl, ⟨by omega, by omega, hb⟩, hl⟩
theorem kd_pts {pss : List (List Int)} : ∀ x ∈ pss.map pt, Kd s h x := fun x hx => by
  obtain ⟨is, _, rfl⟩ := List.mem_map.mp hx
  exact kd_ints
theorem cl_bx {lo hi : List Int} : clN 2 (bx lo hi) = true := by
  show (clN 1 (pt lo) && (clN 1 (pt hi) && true)) = true
  rw [cl_ints, cl_ints]; rfl
theorem cl_pts {pss : List (List Int)} : (pss.map pt).all (clN 1) = true := by
  rw [List.all_eq_true]
  intro x hx
  obtain ⟨is, _, rfl⟩ := List.mem_map.mp hx
  exact cl_ints
theorem ul_ref {a : Addr} {xs : List D} {k : List D → Prop} (e : h a = some (.lst xs)) : ulK (.ref a) h k = k xs := by
  unfold ulK
  dsimp only
  rw [e]
theorem flat_rep {n : Nat} {d : D} : (List.replicate n [d]).flatten = List.replicate n d := by
  induction n with
  | zero => rfl
  | succ n ih => rw [List.replicate_succ, List.flatten_cons, ih]; rfl
theorem repr_pp {C : Ca} {lo hi : List Int} (p1 : Pt lo) (p2 : Pt hi) {Q : VQ} (k : ∀ z : Str, z = (toP (bx lo hi)).shown → Q (.str z) h) : biV C.exm .repr1 [bx lo hi] h Q := by
  have c : clN 2 (bx lo hi) = true := by
    show (clN 1 (pt lo) && (clN 1 (pt hi) && true)) = true
    rw [cl_ints, cl_ints]; rfl
  have p := py_cl (h := h) 2 c
  have b1 : ∀ i ∈ lo, i.natAbs < 2 ^ 40 := fun i hi => by have := p1.bd i hi; omega
  have b2 : ∀ i ∈ hi, i.natAbs < 2 ^ 40 := fun i hi => by have := p2.bd i hi; omega
  have w1 := wgt_ints b1
  have w2 := wgt_ints b2
  have l4 := p1.l4
  have l5 := p2.l4
  have e : toP (bx lo hi) = .tuple [.tuple (lo.map .int), .tuple (hi.map .int)] := by
    have t : ∀ is : List Int, toPs (is.map D.int) = is.map .int := fun is => by rw [toPs_map, List.map_map]; rfl
    show PyData.tuple [.tuple (toPs _), .tuple (toPs _)] = _
    rw [t, t]
  have sm : ∀ is : List Int, (∀ i ∈ is, i.natAbs < 2 ^ 40) → smPs (is.map .int) = true := fun is hb => by
    rw [smPs_all]
    intro x hx
    obtain ⟨i, hi, rfl⟩ := List.mem_map.mp hx
    exact decide_eq_true (Nat.lt_trans (hb i hi) (by decide))
  refine ⟨_, p.1, ⟨by rw [e]; rfl, ?_⟩, ?_, Nat.le_trans p.2 (by decide), k _ rfl⟩
  · rw [e]
    show (smPs (lo.map .int) && (smPs (hi.map .int) && true)) = true
    rw [sm lo b1, sm hi b2]; rfl
  · rw [e]
    show PyData.weightAll (lo.map .int) + 1 + (PyData.weightAll (hi.map .int) + 1 + 0) ≤ 300000
    omega
theorem repr_bx {C : Ca} {lo hi : List Int} (B : Bx lo hi) {Q : VQ} (k : ∀ z : Str, z = (toP (bx lo hi)).shown → Q (.str z) h) : biV C.exm .repr1 [bx lo hi] h Q := repr_pp B.p1 B.p2 k
theorem bx_inj {lo hi lo' hi' : List Int} (e : bx lo hi = bx lo' hi') : lo = lo' ∧ hi = hi' := by
  have e := D.tup.inj e
  rw [List.cons.injEq, List.cons.injEq] at e
  have pi : ∀ {is js : List Int}, pt is = pt js → is = js := fun e => (List.map_inj_right (fun _ _ => D.int.inj)).mp (D.tup.inj e)
  exact ⟨pi e.1, pi e.2.1⟩
theorem callK_glo {C : Ca} {g : Nat} {k : Nat → Prop} : callK C (some (.glo g)) k = (C.fv g = true ∧ k g) := rfl
theorem cl_strs {xs : List Str} : (xs.map D.str).all (clN 0) = true := by
  rw [List.all_eq_true]
  intro x hx
  obtain ⟨i, _, rfl⟩ := List.mem_map.mp hx
  rfl
theorem wayIn {x : D} (hx : x ∈ [D.str "taxi", .str "chess", .str "square"]) : wayD x = true ∧ ∃ z, x = .str z := by
  simp only [List.mem_cons, List.not_mem_nil, or_false] at hx
  rcases hx with rfl | rfl | rfl <;> exact ⟨rfl, _, rfl⟩
theorem ne_go {i : Str} {A B : HD → Prop} (z : B h) : neV (.str i) (.str i) h fun z h3 => asB z fun k => if k = true then A h3 else B h3 := ⟨true, congrArg D.bl (decide_eq_true rfl), by
  show (if (!true) = true then A h else B h)
  rw [if_neg (by decide)]
  exact z⟩
theorem szl : sizeLine = 16777216 := rfl
end
end Sf
/-! Sg1: plain laws of distances: monotone axis by axis. -/
namespace Sg
open PySem PySem.Spec PyProof.Rows L2 Nd T Sa Sb Sc Sd Se Sf
theorem leZ_get : ∀ {a b : List Int}, leZ a b = true → a.length = b.length → ∀ (i : Nat) (x y : Int), a[i]? = some x → b[i]? = some y → x ≤ y
  | [], _, _, _, _, _, _, z, _ => by cases z
  | _ :: _, [], _, e, _, _, _, _, _ => by cases e
  | u :: a, v :: b, f, e, 0, x, y, z, w => by
    have f : (decide (u ≤ v) && leZ a b) = true := f
    rw [Bool.and_eq_true] at f
    cases z
    cases w
    exact of_decide_eq_true f.1
  | u :: a, v :: b, f, e, i + 1, x, y, z, w => by
    have f : (decide (u ≤ v) && leZ a b) = true := f
    rw [Bool.and_eq_true] at f
    exact leZ_get f.2 (Nat.succ.inj e) i x y z w
theorem sum_mono : ∀ {a b : List Int}, leZ a b = true → a.length = b.length → a.sum ≤ b.sum
  | [], [], _, _ => Int.le_refl _
  | u :: a, v :: b, f, e => by
    have f : (decide (u ≤ v) && leZ a b) = true := f
    rw [Bool.and_eq_true] at f
    have h1 := of_decide_eq_true f.1
    have h2 := sum_mono f.2 (Nat.succ.inj e)
    rw [List.sum_cons, List.sum_cons]
    omega
theorem sq_mono : ∀ {a b : List Int}, (∀ x ∈ a, 0 ≤ x) → leZ a b = true → a.length = b.length → (a.map fun i => i * i).sum ≤ (b.map fun i => i * i).sum
  | [], [], _, _, _ => Int.le_refl _
  | u :: a, v :: b, n, f, e => by
    have f : (decide (u ≤ v) && leZ a b) = true := f
    rw [Bool.and_eq_true] at f
    have h0 := n u List.mem_cons_self
    have h1 : u ≤ v := of_decide_eq_true f.1
    have h2 := sq_mono (fun x hx => n x (List.mem_cons_of_mem _ hx)) f.2 (Nat.succ.inj e)
    have h3 : u * u ≤ v * v := Int.mul_le_mul h1 h1 h0 (Int.le_trans h0 h1)
    rw [List.map_cons, List.map_cons, List.sum_cons, List.sum_cons]
    omega
theorem max_mono {a b : List Int} (ne : a ≠ []) (f : leZ a b = true) (e : a.length = b.length) : maxZ a ≤ maxZ b := by
  obtain ⟨i, hi⟩ := List.getElem?_of_mem (maxZ_mem ne)
  have hl := (List.getElem?_eq_some_iff.mp hi).1
  have hb : b[i]? = some (b[i]'(by omega)) := List.getElem?_eq_getElem _
  exact Int.le_trans (leZ_get f e i _ _ hi hb) (maxZ_le _ (List.mem_of_getElem? hb))
theorem length_mono {w : Str} {a b : List Int} (ne : a ≠ []) (n : ∀ x ∈ a, 0 ≤ x) (f : leZ a b = true) (e : a.length = b.length) : lengthZ w a ≤ lengthZ w b := by
  unfold lengthZ
  split
  · exact sum_mono f e
  · split
    · exact max_mono ne f e
    · exact sq_mono n f e
theorem nearN_eq {a b c : Int} (e : a ≤ c) : nearN a b c = if b < a then a else if b > c then c else b := by
  unfold nearN
  split <;> split <;> (try split) <;> (try split) <;> omega
theorem steps_nn {is js : List Int} : ∀ x ∈ stepsZ is js, 0 ≤ x := fun x hx => by
  obtain ⟨p, _, rfl⟩ := List.mem_map.mp hx
  show 0 ≤ absZ _
  unfold absZ
  split <;> omega
theorem near_steps : ∀ {lo is hi os : List Int}, insZ lo os hi = true → lo.length = is.length → lo.length = hi.length → lo.length = os.length → leZ (stepsZ (nearZ lo is hi) is) (stepsZ os is) = true ∧ leZ (stepsZ os is) (stepsZ (farZ lo is hi) is) = true
  | [], [], [], [], _, _, _, _ => ⟨rfl, rfl⟩
  | l :: lo, i :: is, u :: hi, o :: os, f, e1, e2, e3 => by
    have f : ((decide (l ≤ o) && decide (o ≤ u)) && insZ lo os hi) = true := f
    rw [Bool.and_eq_true, Bool.and_eq_true] at f
    have a1 := of_decide_eq_true f.1.1
    have a2 := of_decide_eq_true f.1.2
    have ih := near_steps (is := is) f.2 (Nat.succ.inj e1) (Nat.succ.inj e2) (Nat.succ.inj e3)
    refine ⟨?_, ?_⟩
    · show (decide (absZ (nearN l i u - i) ≤ absZ (o - i)) && leZ (stepsZ (nearZ lo is hi) is) (stepsZ os is)) = true
      rw [ih.1, Bool.and_true, decide_eq_true_eq]
      rw [nearN_eq (by omega)]
      unfold absZ
      repeat' split
      all_goals omega
    · show (decide (absZ (o - i) ≤ absZ (farN l i u - i)) && leZ (stepsZ os is) (stepsZ (farZ lo is hi) is)) = true
      rw [ih.2, Bool.and_true, decide_eq_true_eq]
      unfold farN absZ
      repeat' split
      all_goals omega
end Sg
namespace T
open PySem PySem.Spec PyProof.Rows L2 Nd
/-! _law_box(_law_state) | 0:_law_state 1:_law_low 2:_law_high 3:_law_number_here 4:_law_width 5:_law_kind 6:_law_wide -/
def b446_3a_1 : B := .cons (.ex (.bm .append (.var 2) (.cons (.bi .min2 (.cons (.bin .Pow (.cst (.int 10)) (.cst (.int 9))) (.cons (.bin .Add (.var 3) (.var 6)) .nil))) .nil))) .nil
def b446_3a_0 : B := .cons (.set 6 (.call 0 (.cons (.var 0) (.cons (.lst (.cons (.call 3 (.cons (.var 0) (.cons (.cst (.int 3)) .nil))) (.cons (.cst (.int 0)) (.cons (.call 3 (.cons (.var 0) (.cons (.cst (.int 4)) .nil))) (.cons (.call 3 (.cons (.var 0) (.cons (.bin .Add (.bin .Mult (.cst (.int 2)) (.bin .Pow (.cst (.int 10)) (.cst (.int 9)))) (.cst (.int 1))) .nil))) .nil))))) .nil)))) b446_3a_1
def b446_4 : B := .cons (.ret (.tup (.cons (.var 1) (.cons (.bl .tuple (.var 2)) .nil)))) .nil
def b446_3 : B := .cons (.for_ .seq (.cons (.var 1) .nil) (.nm 3) b446_3a_0) b446_4
def b446_2 : B := .cons (.set 2 (.lst .nil)) b446_3
def b446_1 : B := .cons (.set 1 (.call 9 (.cons (.var 0) (.cons (.var 4) (.cons (.var 5) .nil))))) b446_2
def b446_0 : B := .cons (.par 4 5 (.bin .Add (.cst (.int 1)) (.call 3 (.cons (.var 0) (.cons (.cst (.int 4)) .nil)))) (.call 3 (.cons (.var 0) (.cons (.cst (.int 4)) .nil)))) b446_1
/-! _law_beside(_law_state, _law_box_here) | 0:_law_state 1:_law_box_here 2:_law_found 3:_law_low 4:_law_high 5:_law_half 6:_law_some 7:_law_number_here -/
def b441_1a_3 : B := .cons (.ex (.bm .append (.var 2) (.cons (.bi .max2 (.cons (.neg (.bin .Pow (.cst (.int 10)) (.cst (.int 9)))) (.cons (.bi .min2 (.cons (.bin .Pow (.cst (.int 10)) (.cst (.int 9))) (.cons (.var 7) .nil))) .nil))) .nil))) .nil
def b441_1a_2 : B := .cons (.set 7 (.call 0 (.cons (.var 0) (.cons (.bin .Add (.var 6) (.lst (.cons (.bin .Sub (.call 3 (.cons (.var 0) (.cons (.bin .Add (.bin .Mult (.cst (.int 2)) (.bin .Pow (.cst (.int 10)) (.cst (.int 9)))) (.cst (.int 1))) .nil))) (.bin .Pow (.cst (.int 10)) (.cst (.int 9)))) .nil))) .nil)))) b441_1a_3
def b441_1a_1 : B := .cons (.set 6 (.lst (.cons (.var 3) (.cons (.var 4) (.cons (.var 5) (.cons (.bin .Add (.var 5) (.cst (.int 1))) (.cons (.bin .Sub (.bin .Sub (.var 3) (.cst (.int 1))) (.call 3 (.cons (.var 0) (.cons (.cst (.int 5)) .nil)))) (.cons (.bin .Add (.bin .Add (.var 4) (.cst (.int 1))) (.call 3 (.cons (.var 0) (.cons (.cst (.int 5)) .nil)))) .nil)))))))) b441_1a_2
def b441_1a_0 : B := .cons (.set 5 (.bin .FloorDiv (.bin .Add (.var 3) (.var 4)) (.cst (.int 2)))) b441_1a_1
def b441_2 : B := .cons (.ret (.bl .tuple (.var 2))) .nil
def b441_1 : B := .cons (.for_ .zip2 (.cons (.sub (.var 1) (.cst (.int 0))) (.cons (.sub (.var 1) (.cst (.int 1))) .nil)) (.tp [3, 4]) b441_1a_0) b441_2
def b441_0 : B := .cons (.set 2 (.lst .nil)) b441_1
/-! _law_ends_due(_law_box_here, _law_point_here) | 0:_law_box_here 1:_law_point_here 2:_law_nears 3:_law_fars 4:_law_low 5:_law_number_here 6:_law_high -/
def b512_2a_1 : B := .cons (.ex (.bm .append (.var 3) (.cons (.ife (.cmp .Gt (.bi .abs (.cons (.bin .Sub (.var 6) (.var 5)) .nil)) (.bi .abs (.cons (.bin .Sub (.var 5) (.var 4)) .nil))) (.var 6) (.var 4)) .nil))) .nil
def b512_2a_0 : B := .cons (.ex (.bm .append (.var 2) (.cons (.ife (.cmp .Lt (.var 5) (.var 4)) (.var 4) (.ife (.cmp .Gt (.var 5) (.var 6)) (.var 6) (.var 5))) .nil))) b512_2a_1
def b512_3 : B := .cons (.ret (.tup (.cons (.bl .tuple (.var 2)) (.cons (.bl .tuple (.var 3)) .nil)))) .nil
def b512_2 : B := .cons (.for_ .zip3 (.cons (.sub (.var 0) (.cst (.int 0))) (.cons (.var 1) (.cons (.sub (.var 0) (.cst (.int 1))) .nil))) (.tp [4, 5, 6]) b512_2a_0) b512_3
def b512_1 : B := .cons (.set 3 (.lst .nil)) b512_2
def b512_0 : B := .cons (.set 2 (.lst .nil)) b512_1
/-! _law_longer(_law_points, _law_low, _law_high) | 0:_law_points 1:_law_low 2:_law_high 3:_law_found 4:_law_point_here 5:_law_number_here -/
def b364_1a_0 : B := .cons (.set 3 (.bin .Add (.var 3) (.comp .rng2 (.cons (.var 1) (.cons (.bin .Add (.var 2) (.cst (.int 1))) .nil)) (.nm 5) [5] .nil (.bin .Add (.var 4) (.tup (.cons (.var 5) .nil)))))) .nil
def b364_2 : B := .cons (.ret (.var 3)) .nil
def b364_1 : B := .cons (.for_ .seq (.cons (.var 0) .nil) (.nm 4) b364_1a_0) b364_2
def b364_0 : B := .cons (.set 3 (.lst .nil)) b364_1
/-! _law_some_within(_law_state, _law_box_here) | 0:_law_state 1:_law_box_here 2:_law_many 3:_law_found 4:_law_low 5:_law_high 6:_law_turn 7:_law_point_here 8:_law_number_here -/
def b738_1a_0 : B := .cons (.set 2 (.bin .Mult (.var 2) (.bin .Add (.bin .Sub (.var 5) (.var 4)) (.cst (.int 1))))) .nil
def b738_3a_0a_1a_1 : B := .cons (.set 7 (.bin .Add (.var 7) (.tup (.cons (.call 0 (.cons (.var 0) (.cons (.lst (.cons (.var 4) (.cons (.var 5) (.cons (.var 8) .nil)))) .nil))) .nil)))) .nil
def b738_3a_0a_1a_0 : B := .cons (.set 8 (.bin .Add (.var 4) (.call 3 (.cons (.var 0) (.cons (.bin .Add (.bin .Sub (.var 5) (.var 4)) (.cst (.int 1))) .nil))))) b738_3a_0a_1a_1
def b738_3a_0a_2 : B := .cons (.ex (.bm .append (.var 3) (.cons (.var 7) .nil))) .nil
def b738_3a_0a_1 : B := .cons (.for_ .zip2 (.cons (.sub (.var 1) (.cst (.int 0))) (.cons (.sub (.var 1) (.cst (.int 1))) .nil)) (.tp [4, 5]) b738_3a_0a_1a_0) b738_3a_0a_2
def b738_3a_0a_0 : B := .cons (.set 7 (.tup .nil)) b738_3a_0a_1
def b738_3a_1 : B := .cons (.ret (.slL (.var 3) (.cst (.int 1)))) .nil
def b738_3a_0 : B := .cons (.for_ .rng1 (.cons (.cst (.int 40)) .nil) (.nm 6) b738_3a_0a_0) b738_3a_1
def b738_4a_0 : B := .cons (.set 3 (.call 364 (.cons (.var 3) (.cons (.var 4) (.cons (.var 5) .nil))))) .nil
def b738_5 : B := .cons (.ret (.var 3)) .nil
def b738_4 : B := .cons (.for_ .zip2 (.cons (.sub (.var 1) (.cst (.int 0))) (.cons (.sub (.var 1) (.cst (.int 1))) .nil)) (.tp [4, 5]) b738_4a_0) b738_5
def b738_3 : B := .cons (.ite (.cmp .Gt (.var 2) (.cst (.int 40))) b738_3a_0 .nil) b738_4
def b738_2 : B := .cons (.set 3 (.lst (.cons (.tup .nil) .nil))) b738_3
def b738_1 : B := .cons (.for_ .zip2 (.cons (.sub (.var 1) (.cst (.int 0))) (.cons (.sub (.var 1) (.cst (.int 1))) .nil)) (.tp [4, 5]) b738_1a_0) b738_2
def b738_0 : B := .cons (.set 2 (.cst (.int 1))) b738_1
/-! law(_law_script) | 0:_law_script 1:_law_state 2:_law_turn 3:_law_box_here 4:_law_point_here 5:_law_due 6:_law_between 7:_law_told 8:_law_inside 9:_law_way 10:_law_ends 11:_law_wanted 12:_law_numbers 13:_law_low 14:_law_number_here 15:_law_high 16:_law_other -/
def b887_1a_3a_0 : B := .cons (.ret (.cst (.bl false))) .nil
def b887_1a_6a_0 : B := .cons (.ret (.cst (.bl false))) .nil
def b887_1a_8a_0 : B := .cons (.ret (.cst (.bl false))) .nil
def b887_1a_9a_2a_0 : B := .cons (.ret (.cst (.bl false))) .nil
def b887_1a_9a_4a_0 : B := .cons (.ret (.cst (.bl false))) .nil
def b887_1a_9a_4 : B := .cons (.ite (.or (.cons (.cmp .Lt (.bl .min (.var 12)) (.sub (.var 10) (.cst (.int 0)))) (.cons (.cmp .Gt (.bl .max (.var 12)) (.sub (.var 10) (.cst (.int 1)))) .nil))) b887_1a_9a_4a_0 .nil) .nil
def b887_1a_9a_3 : B := .cons (.set 12 (.comp .seq (.cons (.var 8) .nil) (.nm 16) [16] .nil (.call 159 (.cons (.var 9) (.cons (.var 16) (.cons (.var 4) .nil)))))) b887_1a_9a_4
def b887_1a_9a_2 : B := .cons (.ite (.cmp .NotEq (.bi .repr1 (.cons (.var 10) .nil)) (.bi .repr1 (.cons (.var 11) .nil))) b887_1a_9a_2a_0 .nil) b887_1a_9a_3
def b887_1a_9a_1 : B := .cons (.set 11 (.tup (.cons (.call 159 (.cons (.var 9) (.cons (.sub (.var 5) (.cst (.int 0))) (.cons (.var 4) .nil)))) (.cons (.call 159 (.cons (.var 9) (.cons (.sub (.var 5) (.cst (.int 1))) (.cons (.var 4) .nil)))) .nil)))) b887_1a_9a_2
def b887_1a_9a_0 : B := .cons (.set 10 (.tup (.cons (.call 391 (.cons (.var 9) (.cons (.var 3) (.cons (.var 4) .nil)))) (.cons (.call 392 (.cons (.var 9) (.cons (.var 3) (.cons (.var 4) .nil)))) .nil)))) b887_1a_9a_1
def b887_1a_9 : B := .cons (.for_ .seq (.cons (.lst (.cons (.cst (.str "taxi")) (.cons (.cst (.str "chess")) (.cons (.cst (.str "square")) .nil)))) .nil) (.nm 9) b887_1a_9a_0) .nil
def b887_1a_8 : B := .cons (.ite (.cmp .NotEq (.comp .seq (.cons (.bin .Add (.var 8) (.bl .list (.var 5))) .nil) (.nm 16) [16] (.cons (.cmp .IsNot (.call 258 (.cons (.var 3) (.cons (.var 16) .nil))) (.cst (.bl true))) .nil) (.var 16)) (.lst .nil)) b887_1a_8a_0 .nil) b887_1a_9
def b887_1a_7 : B := .cons (.set 8 (.call 738 (.cons (.var 1) (.cons (.var 3) .nil)))) b887_1a_8
def b887_1a_6 : B := .cons (.ite (.or (.cons (.nt (.bi .isi (.cons (.var 7) (.cons (.ty "bool") .nil)))) (.cons (.cmp .NotEq (.var 7) (.cmp .NotIn (.cst (.bl false)) (.var 6))) .nil))) b887_1a_6a_0 .nil) b887_1a_7
def b887_1a_5 : B := .cons (.set 7 (.call 258 (.cons (.var 3) (.cons (.var 4) .nil)))) b887_1a_6
def b887_1a_4 : B := .cons (.set 6 (.comp .zip3 (.cons (.sub (.var 3) (.cst (.int 0))) (.cons (.var 4) (.cons (.sub (.var 3) (.cst (.int 1))) .nil))) (.tp [13, 14, 15]) [13, 14, 15] .nil (.chn .LtE .LtE (.var 13) (.var 14) (.var 15)))) b887_1a_5
def b887_1a_3 : B := .cons (.ite (.cmp .NotEq (.bi .repr1 (.cons (.tup (.cons (.call 393 (.cons (.var 3) (.cons (.var 4) .nil))) (.cons (.call 390 (.cons (.var 3) (.cons (.var 4) .nil))) .nil))) .nil)) (.bi .repr1 (.cons (.var 5) .nil))) b887_1a_3a_0 .nil) b887_1a_4
def b887_1a_2 : B := .cons (.set 5 (.call 512 (.cons (.var 3) (.cons (.var 4) .nil)))) b887_1a_3
def b887_1a_1 : B := .cons (.set 4 (.call 441 (.cons (.var 1) (.cons (.var 3) .nil)))) b887_1a_2
def b887_1a_0 : B := .cons (.set 3 (.call 446 (.cons (.var 1) .nil))) b887_1a_1
def b887_2 : B := .cons (.ret (.cst (.bl true))) .nil
def b887_1 : B := .cons (.for_ .rng1 (.cons (.cst (.int 8)) .nil) (.nm 2) b887_1a_0) b887_2
def b887_0 : B := .cons (.set 1 (.call 8 (.cons (.var 0) .nil))) b887_1
end T
namespace k04
open PySem PySem.Spec PyProof.Rows L2 Nd T
abbrev PW : Program := PySem.Challenge.pw_nigh_k04_whole_nearest_and_farthest
abbrev LW : PySem.W.OpenLaw := PySem.Challenge.rw_nigh_k04_whole_nearest_and_farthest
def top (i : Nat) : Stmt := PW.main.body.getD i (.Pass ⟨0, 0, 0, 0⟩)
def f2 : Fd := { at_ := ("is_whole", none), name := "is_whole", qual := "is_whole", params := defArgs (top 9), stmts := defBody (top 9), scope := defScope (top 9), ps := ["thing", "least", "most"], N := ["thing", "least", "most"], body := b2_0 }
def f1 : Fd := { at_ := ("is_point", none), name := "is_point", qual := "is_point", params := defArgs (top 10), stmts := defBody (top 10), scope := defScope (top 10), ps := ["thing"], N := ["thing", "number"], body := b1_0 }
def f33 : Fd := { at_ := ("is_way", none), name := "is_way", qual := "is_way", params := defArgs (top 11), stmts := defBody (top 11), scope := defScope (top 11), ps := ["thing"], N := ["thing"], body := b33_0 }
def f37 : Fd := { at_ := ("need_way", none), name := "need_way", qual := "need_way", params := defArgs (top 12), stmts := defBody (top 12), scope := defScope (top 12), ps := ["way"], N := ["way"], body := b37_0 }
def f34 : Fd := { at_ := ("need_point", none), name := "need_point", qual := "need_point", params := defArgs (top 13), stmts := defBody (top 13), scope := defScope (top 13), ps := ["point"], N := ["point"], body := b34_0 }
def f35 : Fd := { at_ := ("need_width", none), name := "need_width", qual := "need_width", params := defArgs (top 14), stmts := defBody (top 14), scope := defScope (top 14), ps := ["point", "width"], N := ["point", "width"], body := b35_0 }
def f17 : Fd := { at_ := ("length", none), name := "length", qual := "length", params := defArgs (top 15), stmts := defBody (top 15), scope := defScope (top 15), ps := ["way", "steps"], N := ["way", "steps", "step"], body := b17_0 }
def f15 : Fd := { at_ := ("apart_by", none), name := "apart_by", qual := "apart_by", params := defArgs (top 16), stmts := defBody (top 16), scope := defScope (top 16), ps := ["way", "one", "other"], N := ["way", "one", "other", "first", "second"], body := b15_0 }
def f16 : Fd := { at_ := ("is_box", none), name := "is_box", qual := "is_box", params := defArgs (top 18), stmts := defBody (top 18), scope := defScope (top 18), ps := ["thing"], N := ["thing", "end", "low", "high"], body := b16_0 }
def f265 : Fd := { at_ := ("need_box", none), name := "need_box", qual := "need_box", params := defArgs (top 19), stmts := defBody (top 19), scope := defScope (top 19), ps := ["box"], N := ["box"], body := b265_0 }
def f264 : Fd := { at_ := ("need_both", none), name := "need_both", qual := "need_both", params := defArgs (top 20), stmts := defBody (top 20), scope := defScope (top 20), ps := ["box", "point"], N := ["box", "point"], body := b264_0 }
def f258 : Fd := { at_ := ("holds", none), name := "holds", qual := "holds", params := defArgs (top 21), stmts := defBody (top 21), scope := defScope (top 21), ps := ["box", "point"], N := ["box", "point", "low", "number", "high"], body := b258_0 }
def f50 : Fd := { at_ := ("nearest_to", none), name := "nearest_to", qual := "nearest_to", params := defArgs (top 22), stmts := defBody (top 22), scope := defScope (top 22), ps := ["box", "point"], N := ["box", "point", "low", "number", "high"], body := b50_0 }
def f51 : Fd := { at_ := ("farther_end", none), name := "farther_end", qual := "farther_end", params := defArgs (top 23), stmts := defBody (top 23), scope := defScope (top 23), ps := ["low", "number", "high"], N := ["low", "number", "high"], body := b51_0 }
def f52 : Fd := { at_ := ("farthest_from", none), name := "farthest_from", qual := "farthest_from", params := defArgs (top 24), stmts := defBody (top 24), scope := defScope (top 24), ps := ["box", "point"], N := ["box", "point", "low", "number", "high"], body := b52_0 }
def f393 : Fd := { at_ := ("nearest_in", none), name := "nearest_in", qual := "nearest_in", params := defArgs (top 25), stmts := defBody (top 25), scope := defScope (top 25), ps := ["box", "point"], N := ["box", "point"], body := b393_0 }
def f390 : Fd := { at_ := ("farthest_in", none), name := "farthest_in", qual := "farthest_in", params := defArgs (top 26), stmts := defBody (top 26), scope := defScope (top 26), ps := ["box", "point"], N := ["box", "point"], body := b390_0 }
def f49 : Fd := { at_ := ("least_by", none), name := "least_by", qual := "least_by", params := defArgs (top 27), stmts := defBody (top 27), scope := defScope (top 27), ps := ["way", "box", "point"], N := ["way", "box", "point"], body := b49_0 }
def f53 : Fd := { at_ := ("most_by", none), name := "most_by", qual := "most_by", params := defArgs (top 28), stmts := defBody (top 28), scope := defScope (top 28), ps := ["way", "box", "point"], N := ["way", "box", "point"], body := b53_0 }
def f391 : Fd := { at_ := ("least", none), name := "least", qual := "least", params := defArgs (top 29), stmts := defBody (top 29), scope := defScope (top 29), ps := ["way", "box", "point"], N := ["way", "box", "point"], body := b391_0 }
def f392 : Fd := { at_ := ("most", none), name := "most", qual := "most", params := defArgs (top 30), stmts := defBody (top 30), scope := defScope (top 30), ps := ["way", "box", "point"], N := ["way", "box", "point"], body := b392_0 }
def f8 : Fd := { at_ := ("_law_begun", none), name := "_law_begun", qual := "_law_begun", params := defArgs (top 32), stmts := defBody (top 32), scope := defScope (top 32), ps := ["_law_script"], N := ["_law_script", "_law_cell"], body := b8_0 }
def f3 : Fd := { at_ := ("_law_take", none), name := "_law_take", qual := "_law_take", params := defArgs (top 33), stmts := defBody (top 33), scope := defScope (top 33), ps := ["_law_state", "_law_many"], N := ["_law_state", "_law_many", "_law_cells", "_law_cell", "_law_found"], body := b3_0 }
def f0 : Fd := { at_ := ("_law_pick", none), name := "_law_pick", qual := "_law_pick", params := defArgs (top 34), stmts := defBody (top 34), scope := defScope (top 34), ps := ["_law_state", "_law_some"], N := ["_law_state", "_law_some"], body := b0_0 }
def f5 : Fd := { at_ := ("_law_number", none), name := "_law_number", qual := "_law_number", params := defArgs (top 35), stmts := defBody (top 35), scope := defScope (top 35), ps := ["_law_state", "_law_kind"], N := ["_law_state", "_law_kind"], body := b5_0 }
def f9 : Fd := { at_ := ("_law_point", none), name := "_law_point", qual := "_law_point", params := defArgs (top 36), stmts := defBody (top 36), scope := defScope (top 36), ps := ["_law_state", "_law_width", "_law_kind"], N := ["_law_state", "_law_width", "_law_kind", "_law_axis"], body := b9_0 }
def f159 : Fd := { at_ := ("_law_distance", none), name := "_law_distance", qual := "_law_distance", params := defArgs (top 37), stmts := defBody (top 37), scope := defScope (top 37), ps := ["_law_way", "_law_one", "_law_other"], N := ["_law_way", "_law_one", "_law_other", "_law_found", "_law_first", "_law_second", "_law_step"], body := b159_0 }
def f446 : Fd := { at_ := ("_law_box", none), name := "_law_box", qual := "_law_box", params := defArgs (top 38), stmts := defBody (top 38), scope := defScope (top 38), ps := ["_law_state"], N := ["_law_state", "_law_low", "_law_high", "_law_number_here", "_law_width", "_law_kind", "_law_wide"], body := b446_0 }
def f441 : Fd := { at_ := ("_law_beside", none), name := "_law_beside", qual := "_law_beside", params := defArgs (top 39), stmts := defBody (top 39), scope := defScope (top 39), ps := ["_law_state", "_law_box_here"], N := ["_law_state", "_law_box_here", "_law_found", "_law_low", "_law_high", "_law_half", "_law_some", "_law_number_here"], body := b441_0 }
def f512 : Fd := { at_ := ("_law_ends_due", none), name := "_law_ends_due", qual := "_law_ends_due", params := defArgs (top 40), stmts := defBody (top 40), scope := defScope (top 40), ps := ["_law_box_here", "_law_point_here"], N := ["_law_box_here", "_law_point_here", "_law_nears", "_law_fars", "_law_low", "_law_number_here", "_law_high"], body := b512_0 }
def f364 : Fd := { at_ := ("_law_longer", none), name := "_law_longer", qual := "_law_longer", params := defArgs (top 41), stmts := defBody (top 41), scope := defScope (top 41), ps := ["_law_points", "_law_low", "_law_high"], N := ["_law_points", "_law_low", "_law_high", "_law_found", "_law_point_here", "_law_number_here"], body := b364_0 }
def f738 : Fd := { at_ := ("_law_some_within", none), name := "_law_some_within", qual := "_law_some_within", params := defArgs (top 42), stmts := defBody (top 42), scope := defScope (top 42), ps := ["_law_state", "_law_box_here"], N := ["_law_state", "_law_box_here", "_law_many", "_law_found", "_law_low", "_law_high", "_law_turn", "_law_point_here", "_law_number_here"], body := b738_0 }
def f887 : Fd := { at_ := ("law", none), name := "law", qual := "law", params := defArgs (top 43), stmts := defBody (top 43), scope := defScope (top 43), ps := ["_law_script"], N := ["_law_script", "_law_state", "_law_turn", "_law_box_here", "_law_point_here", "_law_due", "_law_between", "_law_told", "_law_inside", "_law_way", "_law_ends", "_law_wanted", "_law_numbers", "_law_low", "_law_number_here", "_law_high", "_law_other"], body := b887_0 }
abbrev nE (x : PySem.Str) (i : Nat) : PySem.Str × Nat := (x, i)
abbrev gE (i : Nat) (x : PySem.Str) : Nat × (PySem.Str × Option PySem.Str) := (i, (x, none))
abbrev cE (x : PySem.Str) (d : D) : PySem.Str × D := (x, d)
abbrev eE (c g : Nat) (b : Bool) : (Nat × Nat) × Bool := ((c, g), b)
abbrev sE (x : PySem.Str) : PySem.Str := x
abbrev pE (i : Nat) (f : Fd) : Nat × Fd := (i, f)
def P : Pr := { fns := [pE 2 f2, pE 1 f1, pE 33 f33, pE 37 f37, pE 34 f34, pE 35 f35, pE 17 f17, pE 15 f15, pE 16 f16, pE 265 f265, pE 264 f264, pE 258 f258, pE 50 f50, pE 51 f51, pE 52 f52, pE 393 f393, pE 390 f390, pE 49 f49, pE 53 f53, pE 391 f391, pE 392 f392, pE 8 f8, pE 3 f3, pE 0 f0, pE 5 f5, pE 9 f9, pE 159 f159, pE 446 f446, pE 441 f441, pE 512 f512, pE 364 f364, pE 738 f738, pE 887 f887], consts := [cE "MOST_WIDE" (.int 4), cE "GREATEST" (.int 1000000000), cE "WAYS" (.tup [(.str "taxi"), (.str "chess"), (.str "square")])], names := [nE "is_whole" 2, nE "is_point" 1, nE "is_way" 33, nE "need_way" 37, nE "need_point" 34, nE "need_width" 35, nE "length" 17, nE "apart_by" 15, nE "is_box" 16, nE "need_box" 265, nE "need_both" 264, nE "holds" 258, nE "nearest_to" 50, nE "farther_end" 51, nE "farthest_from" 52, nE "nearest_in" 393, nE "farthest_in" 390, nE "least_by" 49, nE "most_by" 53, nE "least" 391, nE "most" 392, nE "_law_begun" 8, nE "_law_take" 3, nE "_law_pick" 0, nE "_law_number" 5, nE "_law_point" 9, nE "_law_distance" 159, nE "_law_box" 446, nE "_law_beside" 441, nE "_law_ends_due" 512, nE "_law_longer" 364, nE "_law_some_within" 738, nE "law" 887], cls := [nE "NoBox" 86, nE "NoPoint" 14, nE "NoWay" 11], blt := [sE "abs", sE "all", sE "bool", sE "int", sE "isinstance", sE "len", sE "list", sE "max", sE "min", sE "range", sE "repr", sE "str", sE "sum", sE "tuple", sE "zip"], gl := [gE 2 "is_whole", gE 1 "is_point", gE 33 "is_way", gE 37 "need_way", gE 34 "need_point", gE 35 "need_width", gE 17 "length", gE 15 "apart_by", gE 16 "is_box", gE 265 "need_box", gE 264 "need_both", gE 258 "holds", gE 50 "nearest_to", gE 51 "farther_end", gE 52 "farthest_from", gE 393 "nearest_in", gE 390 "farthest_in", gE 49 "least_by", gE 53 "most_by", gE 391 "least", gE 392 "most", gE 8 "_law_begun", gE 3 "_law_take", gE 0 "_law_pick", gE 5 "_law_number", gE 9 "_law_point", gE 159 "_law_distance", gE 446 "_law_box", gE 441 "_law_beside", gE 512 "_law_ends_due", gE 364 "_law_longer", gE 738 "_law_some_within", gE 887 "law", gE 4 "NighError", gE 14 "NoPoint", gE 11 "NoWay", gE 86 "NoBox"], exl := [] }
theorem okP : P.okB = true := by decide +kernel
theorem h2 : HasF P 2 b2_0 3 3 := ⟨f2, rfl, rfl, rfl, rfl⟩
theorem h1 : HasF P 1 b1_0 1 2 := ⟨f1, rfl, rfl, rfl, rfl⟩
theorem h33 : HasF P 33 b33_0 1 1 := ⟨f33, rfl, rfl, rfl, rfl⟩
theorem h37 : HasF P 37 b37_0 1 1 := ⟨f37, rfl, rfl, rfl, rfl⟩
theorem h34 : HasF P 34 b34_0 1 1 := ⟨f34, rfl, rfl, rfl, rfl⟩
theorem h35 : HasF P 35 b35_0 2 2 := ⟨f35, rfl, rfl, rfl, rfl⟩
theorem h17 : HasF P 17 b17_0 2 3 := ⟨f17, rfl, rfl, rfl, rfl⟩
theorem h15 : HasF P 15 b15_0 3 5 := ⟨f15, rfl, rfl, rfl, rfl⟩
theorem h16 : HasF P 16 b16_0 1 4 := ⟨f16, rfl, rfl, rfl, rfl⟩
theorem h265 : HasF P 265 b265_0 1 1 := ⟨f265, rfl, rfl, rfl, rfl⟩
theorem h264 : HasF P 264 b264_0 2 2 := ⟨f264, rfl, rfl, rfl, rfl⟩
theorem h258 : HasF P 258 b258_0 2 5 := ⟨f258, rfl, rfl, rfl, rfl⟩
theorem h50 : HasF P 50 b50_0 2 5 := ⟨f50, rfl, rfl, rfl, rfl⟩
theorem h51 : HasF P 51 b51_0 3 3 := ⟨f51, rfl, rfl, rfl, rfl⟩
theorem h52 : HasF P 52 b52_0 2 5 := ⟨f52, rfl, rfl, rfl, rfl⟩
theorem h393 : HasF P 393 b393_0 2 2 := ⟨f393, rfl, rfl, rfl, rfl⟩
theorem h390 : HasF P 390 b390_0 2 2 := ⟨f390, rfl, rfl, rfl, rfl⟩
theorem h49 : HasF P 49 b49_0 3 3 := ⟨f49, rfl, rfl, rfl, rfl⟩
theorem h53 : HasF P 53 b53_0 3 3 := ⟨f53, rfl, rfl, rfl, rfl⟩
theorem h391 : HasF P 391 b391_0 3 3 := ⟨f391, rfl, rfl, rfl, rfl⟩
theorem h392 : HasF P 392 b392_0 3 3 := ⟨f392, rfl, rfl, rfl, rfl⟩
theorem h8 : HasF P 8 b8_0 1 2 := ⟨f8, rfl, rfl, rfl, rfl⟩
theorem h3 : HasF P 3 b3_0 2 5 := ⟨f3, rfl, rfl, rfl, rfl⟩
theorem h0 : HasF P 0 b0_0 2 2 := ⟨f0, rfl, rfl, rfl, rfl⟩
theorem h5 : HasF P 5 b5_0 2 2 := ⟨f5, rfl, rfl, rfl, rfl⟩
theorem h9 : HasF P 9 b9_0 3 4 := ⟨f9, rfl, rfl, rfl, rfl⟩
theorem h159 : HasF P 159 b159_0 3 7 := ⟨f159, rfl, rfl, rfl, rfl⟩
theorem h446 : HasF P 446 b446_0 1 7 := ⟨f446, rfl, rfl, rfl, rfl⟩
theorem h441 : HasF P 441 b441_0 2 8 := ⟨f441, rfl, rfl, rfl, rfl⟩
theorem h512 : HasF P 512 b512_0 2 7 := ⟨f512, rfl, rfl, rfl, rfl⟩
theorem h364 : HasF P 364 b364_0 3 6 := ⟨f364, rfl, rfl, rfl, rfl⟩
theorem h738 : HasF P 738 b738_0 2 9 := ⟨f738, rfl, rfl, rfl, rfl⟩
theorem h887 : HasF P 887 b887_0 1 17 := ⟨f887, rfl, rfl, rfl, rfl⟩
abbrev loose : List PySem.Str := [sE "NighError", sE "NoPoint", sE "NoWay", sE "NoBox", sE "GREATEST", sE "MOST_WIDE", sE "WAYS", sE "is_whole", sE "is_point", sE "is_way", sE "need_way", sE "need_point", sE "need_width", sE "length", sE "apart_by", sE "is_box", sE "need_box", sE "need_both", sE "holds", sE "nearest_to", sE "farther_end", sE "farthest_from", sE "nearest_in", sE "farthest_in", sE "least_by", sE "most_by", sE "least", sE "most", sE "_law_begun", sE "_law_take", sE "_law_pick", sE "_law_number", sE "_law_point", sE "_law_distance", sE "_law_box", sE "_law_beside", sE "_law_ends_due", sE "_law_longer", sE "_law_some_within"]
theorem run (w : World) : HandSHeadRun.RunEq (PySem.W.OpenLaw.row LW) (PySem.W.view PW [43]) (hookN 4 P) (obN 4 P) 12800 loose w := by
  intro os
  kernel_rfl
theorem law_end (k : Nat) (hk : Room k callerA) (hlaw : ∀ ns : List Int, ns.length ≤ 63 → P.call k 887 [.kls (ns.map .int)] (fun _ => none) (fun d _ => d = .bl true) fun _ _ => False) : LW.Holds := by
  w_on; o_law
  refine HandSHeadRun.head_any (r := PySem.W.OpenLaw.row LW) (q := PySem.W.view (PySem.W.OpenLaw.row LW).prog [43]) (H := Nd.hookN 4 P) (ob := Nd.obN 4 P) (M := 12800) (loose := loose) (d := HandSHeadRun.topDef (PySem.W.OpenLaw.row LW).prog 43) (kwd := []) Nd.obN_eq
    (by kernel_rfl) (fun s => by kernel_rfl) run (by kernel_rfl) (by kernel_rfl) (by kernel_rfl) (by rfl) (by first | assumption | decide +kernel) (by decide +kernel) ⟨rfl, rfl, rfl, rfl, rfl, by decide +kernel⟩ ?hw ?hc
  case hw => w_witness2
  case hc => exact Nd.walk (l := LW) (n := 63) (k := k) (x := "_law_script") (nm := "law") (i := 887) (f := f887) rfl (by decide) (by kernel_rfl) hk (by kernel_rfl) okP (by kernel_rfl) rfl rfl hlaw
end k04
namespace k04
open PySem PySem.Spec PyProof.Rows L2 Nd T Sa Sb Sc Sd Se Sf Sg
section
variable {q : VQ} {r : XQ} {h : HD} {s : Addr}
theorem hb : HB P := ⟨h2, h1, h33, h37, h34, h35, h17, h15, h16, h265, h264⟩
theorem leZ_snoc : ∀ {a b : List Int} {x y : Int}, a.length = b.length → leZ a b = true → x ≤ y → leZ (a ++ [x]) (b ++ [y]) = true
  | [], [], x, y, _, _, z => by
    show (decide (x ≤ y) && true) = true
    rw [decide_eq_true z]; rfl
  | a :: as, b :: bs, x, y, e, f, z => by
    have f : (decide (a ≤ b) && leZ as bs) = true := f
    rw [Bool.and_eq_true] at f
    show (decide (a ≤ b) && leZ (as ++ [x]) (bs ++ [y])) = true
    rw [f.1, leZ_snoc (Nat.succ.inj e) f.2 z]; rfl
theorem take_snoc' {α : Type} {l : List α} {j : Nat} {i : α} (e : l[j]? = some i) : l.take (j + 1) = l.take j ++ [i] := by
  rw [List.take_add_one, e]; rfl
theorem take_snoc {l : List Int} {j : Nat} {i : Int} (e : l[j]? = some i) : l.take (j + 1) = l.take j ++ [i] := by
  rw [List.take_add_one, e]; rfl
/-- a drawn box -/
theorem box_ok {n : Nat} (S : St h s) (k : ∀ (h' : HD) (lo hi : List Int), Kp s h h' → St h' s → Bx lo hi → q (bx lo hi) h') : P.call (n + 5) 446 [.ref s] h q r := by
  refine call_of h446 rfl ?_
  have sz := szl
  simp! [b446_0]
  refine take_ok h3 (n0 := n + 3) (by decide) (by decide) S fun g1 w kp1 S w0 w1 => ?_
  simp! []
  refine take_ok h3 (n0 := n + 3) (by decide) (by decide) S fun g2 kd kp2 S k0 k1 => ?_
  simp! [b446_1]
  refine point_ok h9 h5 h0 h3 (n := n) (by omega) (by omega) S fun g3 xs xl xn kp3 S => ?_
  obtain ⟨lo, rfl, pl, ll⟩ := pt_nums xl (by omega) (by omega) xn
  have l4 := pl.l4
  simp! [b446_2]
  intro p hp
  have S3 := S
  generalize hh : hup g3 p _ = g4
  obtain ⟨e4, n4, kp4, S4⟩ := alc hh hp S
  simp! [b446_3]
  refine for_of (fun j σ h1 => Kp s g3 h1 ∧ St h1 s ∧ (∃ x3 x6, σ = [some (.ref s), some (pt lo), some (.ref p), x3, some (.int (1 + w)), some (.int kd), x6]) ∧ ∃ hs : List Int, h1 p = some (.lst (hs.map .int)) ∧ hs.length = j ∧ leZ (lo.take j) hs = true ∧ ∀ i ∈ hs, -1000000000 ≤ i ∧ i ≤ 1000000000) ?_ ?_ ⟨kp4, S4, ⟨_, _, rfl⟩, [], e4, rfl, rfl, fun _ z => by cases z⟩
  · rintro j x σ h1 V hj ⟨kp, S, ⟨x3, x6, rfl⟩, hs, e, hl, le, bd⟩ hV
    rw [List.getElem?_map] at hj
    obtain ⟨i, hi, rfl⟩ := Option.map_eq_some_iff.mp hj
    have hjl := (List.getElem?_eq_some_iff.mp hi).1
    have bi := pl.bd _ (List.mem_of_getElem? hi)
    simp! [b446_3a_0]
    refine take_ok h3 (n0 := n + 3) (by decide) (by decide) S fun f1 t1 q1 S a1 b1 => ?_
    simp! []
    refine take_ok h3 (n0 := n + 3) (by decide) (by decide) S fun f2 t2 q2 S a2 b2 => ?_
    simp! []
    refine take_ok h3 (n0 := n + 3) (by decide) (by decide) S fun f3 t3 q3 S a3 b3 => ?_
    intro p5 hp5
    generalize hh : hup f3 p5 _ = f4
    obtain ⟨e5, n5, q4, S⟩ := alc hh hp5 S
    refine pick_ok h0 h3 (n := n + 2) e5 (by simp) (by simp) S fun f5 x hx q5 S => ?_
    have hx : ∃ t, x = .int t ∧ 0 ≤ t := by
      simp only [List.mem_cons, List.not_mem_nil, or_false] at hx
      rcases hx with rfl | rfl | rfl | rfl
      · exact ⟨_, rfl, a1⟩
      · exact ⟨_, rfl, Int.le_refl _⟩
      · exact ⟨_, rfl, a2⟩
      · exact ⟨_, rfl, a3⟩
    obtain ⟨t, rfl, t0⟩ := hx
    have Q := ((((kp.trans q1).trans q2).trans q3).trans q4).trans q5
    have e := q5 _ n4 _ (q4 _ n4 _ (q3 _ n4 _ (q2 _ n4 _ (q1 _ n4 _ e))))
    simp! [b446_3a_1]
    refine ⟨bmT_app e, bm_app e (by rw [List.length_map]; omega) ?_⟩
    refine hV _ _ ⟨kp_wr Q hp, st_wr S3 hp Q S, ⟨_, _, rfl⟩, hs ++ [if i + t < 1000000000 then i + t else 1000000000], ?_, ?_, ?_, ?_⟩ ?_
    · rw [hup_same, List.map_append]
      rfl
    · rw [List.length_append, hl]; rfl
    · rw [take_snoc hi]
      refine leZ_snoc (by rw [List.length_take]; omega) le ?_
      split <;> omega
    · intro y hy
      rcases List.mem_append.mp hy with hy | hy
      · exact bd _ hy
      · rw [List.mem_singleton.mp hy]
        split <;> omega
    · exact gds_tp
  · rintro σ h1 ⟨kp, S, ⟨x3, x6, rfl⟩, hs, e, hl, le, bd⟩
    rw [List.length_map] at hl
    rw [List.length_map, List.take_length] at le
    simp! [b446_4]
    rw [iv_ref e]
    simp! []
    refine dq_of (k _ lo hs (((kp1.trans kp2).trans kp3).trans kp) S ⟨pl, ⟨by have := pl.l1; omega, by omega, bd⟩, hl.symm, le⟩)
/-- a drawn point by a box -/
theorem beside_ok {n : Nat} {lo hi : List Int} (B : Bx lo hi) (S : St h s) (k : ∀ (h' : HD) (is : List Int), Kp s h h' → St h' s → Pt is → is.length = lo.length → q (pt is) h') : P.call (n + 3) 441 [.ref s, bx lo hi] h q r := by
  refine call_of h441 rfl ?_
  have sz := szl
  have l1 := B.p1.l1
  have l4 := B.p1.l4
  have el := B.el
  simp! [b441_0]
  intro p hp
  have S3 := S
  generalize hh : hup h p _ = g4
  obtain ⟨e4, n4, kp4, S4⟩ := alc hh hp S
  simp! [b441_1]
  rw [at_nn (by decide) (by simp)]
  simp! [Int.reduceToNat]
  rw [at_nn (by decide) (by simp)]
  simp! [Int.reduceToNat]
  rw [zipL_int]
  refine for_of (fun j σ h1 => Kp s h h1 ∧ St h1 s ∧ (∃ x3 x4 x5 x6 x7, σ = [some (.ref s), some (bx lo hi), some (.ref p), x3, x4, x5, x6, x7]) ∧ ∃ hs : List Int, h1 p = some (.lst (hs.map .int)) ∧ hs.length = j ∧ ∀ i ∈ hs, -1000000000 ≤ i ∧ i ≤ 1000000000) ?_ ?_ ⟨kp4, S4, ⟨_, _, _, _, _, rfl⟩, [], e4, rfl, fun _ z => by cases z⟩
  · rintro j x σ h1 V hj ⟨kp, S, ⟨x3, x4, x5, x6, x7, rfl⟩, hs, e, hl, bd⟩ hV
    rw [List.getElem?_map] at hj
    obtain ⟨⟨a, b⟩, hi', rfl⟩ := Option.map_eq_some_iff.mp hj
    have hjl := (List.getElem?_eq_some_iff.mp hi').1
    rw [List.length_zip] at hjl
    simp! []
    simp! [b441_1a_0, b441_1a_1]
    refine take_ok h3 (n0 := n + 1) (by decide) (by decide) S fun f1 t1 q1 S a1 b1 => ?_
    simp! []
    refine take_ok h3 (n0 := n + 1) (by decide) (by decide) S fun f2 t2 q2 S a2 b2 => ?_
    simp! []
    intro p5 hp5
    generalize hh : hup f2 p5 _ = f4
    obtain ⟨e5, n5, q4, S⟩ := alc hh hp5 S
    simp! [b441_1a_2]
    refine take_ok h3 (n0 := n + 1) (by decide) (by decide) S fun f5 t3 q5 S a3 b3 => ?_
    simp! []
    intro p6 hp6
    have e5 := q5 _ n5 _ e5
    generalize hh : hup f5 p6 _ = f6
    obtain ⟨e6, n6, q6, S⟩ := alc hh hp6 S
    rw [add_ref (q6 _ n5 _ e5) e6]
    refine ⟨by rw [szl]; simp, ?_⟩
    intro p7 hp7
    generalize hh : hup f6 p7 _ = f7
    obtain ⟨e7, n7, q7, S⟩ := alc hh hp7 S
    simp! [] at e7
    refine pick_ok h0 h3 (n := n) e7 (by simp) (by simp) S fun f8 x hx q8 S => ?_
    have hx : ∃ t, x = .int t := by
      simp only [List.mem_cons, List.mem_append, List.not_mem_nil, or_false] at hx
      rcases hx with rfl | rfl | rfl | rfl | rfl | rfl | rfl <;> exact ⟨_, rfl⟩
    obtain ⟨t, rfl⟩ := hx
    have Q := ((((((kp.trans q1).trans q2).trans q4).trans q5).trans q6).trans q7).trans q8
    have e := q8 _ n4 _ (q7 _ n4 _ (q6 _ n4 _ (q5 _ n4 _ (q4 _ n4 _ (q2 _ n4 _ (q1 _ n4 _ e))))))
    simp! [b441_1a_3]
    refine ⟨bmT_app e, bm_app e (by rw [List.length_map]; omega) ?_⟩
    refine hV _ _ ⟨kp_wr Q hp, st_wr S3 hp Q S, ⟨_, _, _, _, _, rfl⟩, hs ++ [_], by rw [hup_same, List.map_append]; rfl, by rw [List.length_append, hl]; rfl, ?_⟩ ?_
    · intro y hy
      rcases List.mem_append.mp hy with hy | hy
      · exact bd _ hy
      · rw [List.mem_singleton.mp hy]
        split <;> split <;> omega
    · exact gds_nil
  · rintro σ h1 ⟨kp, S, ⟨x3, x4, x5, x6, x7, rfl⟩, hs, e, hl, bd⟩
    rw [List.length_map, List.length_zip] at hl
    simp! [b441_2]
    rw [iv_ref e]
    simp! []
    exact dq_of (k _ hs kp S ⟨by omega, by omega, bd⟩ (by omega))
theorem le_z3 : ∀ {lo is hi : List Int} {j : Nat} {a b c : Int}, leZ lo hi = true → (lo.zip (is.zip hi))[j]? = some (a, b, c) → a ≤ c
  | l :: lo, i :: is, u :: hi, 0, a, b, c, e, z => by
    have e : (decide (l ≤ u) && leZ lo hi) = true := e
    rw [Bool.and_eq_true] at e
    cases z
    exact of_decide_eq_true e.1
  | l :: lo, i :: is, u :: hi, j + 1, a, b, c, e, z => by
    have e : (decide (l ≤ u) && leZ lo hi) = true := e
    rw [Bool.and_eq_true] at e
    exact le_z3 (j := j) e.2 z
  | [], _, _, _, _, _, _, _, z => by cases z
  | _ :: _, [], _, _, _, _, _, _, z => by cases z
  | _ :: _, _ :: _, [], _, _, _, _, _, z => by cases z
theorem nearN_law {a b c : Int} (e : a ≤ c) : nearN a b c = if b < a then a else if b > c then c else b := by
  unfold nearN
  split <;> split <;> (try split) <;> (try split) <;> omega
/-- the law's own ends -/
theorem due_ok {n : Nat} {lo hi is : List Int} (B : Bx lo hi) (pi : Pt is) (el : is.length = lo.length) (k : q (.tup [pt (nearZ lo is hi), pt (farZ lo is hi)]) h) : P.call (n + 1) 512 [bx lo hi, pt is] h q r := by
  refine call_of h512 rfl ?_
  have sz := szl
  have l4 := B.p1.l4
  simp! [b512_0]
  intro p hp
  simp! [b512_1]
  intro p2 hp2
  have np : p ≠ p2 := fun z => by rw [z, hup_same] at hp2; cases hp2
  have hp2' : h p2 = none := by rw [hup_ne np.symm] at hp2; exact hp2
  simp! [b512_2]
  rw [at_nn (by decide) (by simp)]
  simp! [Int.reduceToNat]
  rw [at_nn (by decide) (by simp)]
  simp! [Int.reduceToNat, zipL3_int]
  refine for_of (fun j σ h1 => Sub h h1 ∧ (∃ x4 x5 x6, σ = [some (bx lo hi), some (pt is), some (.ref p), some (.ref p2), x4, x5, x6]) ∧ h1 p = some (.lst (((nearZ lo is hi).take j).map .int)) ∧ h1 p2 = some (.lst (((farZ lo is hi).take j).map .int))) ?_ ?_ ⟨sub_wr (sub_wr Sub.refl hp) hp2', ⟨_, _, _, rfl⟩, ?_, hup_same⟩
  · rintro j x σ h1 V hj ⟨kp, ⟨x4, x5, x6, rfl⟩, e, e2⟩ hV
    rw [List.getElem?_map] at hj
    obtain ⟨⟨a, b, c⟩, hi', rfl⟩ := Option.map_eq_some_iff.mp hj
    have hjl := (List.getElem?_eq_some_iff.mp hi').1
    rw [z3_len] at hjl
    have le := le_z3 B.le hi'
    have g1 : (nearZ lo is hi)[j]? = some (nearN a b c) := by unfold nearZ; rw [List.getElem?_map, hi']; rfl
    have g2 : (farZ lo is hi)[j]? = some (farN a b c) := by unfold farZ; rw [List.getElem?_map, hi']; rfl
    have len : ∀ f : Int → Int → Int → Int, (((lo.zip (is.zip hi)).map fun p => f p.1 p.2.1 p.2.2).take j).length ≤ 4 := fun f => by
      rw [List.length_take, List.length_map, z3_len]; omega
    simp! []
    simp! [b512_2a_0]
    have go : ∀ (Z : En) (h2 : HD) (v : Int), Z.nx = V → v = nearN a b c → h2 = hup h1 p (.lst (((nearZ lo is hi).take j).map .int ++ [.int v])) → denB (P.ca (P.call n)) b512_2a_1 Z [some (bx lo hi), some (pt is), some (.ref p), some (.ref p2), some (.int a), some (.int b), some (.int c)] h2 := by
      rintro Z h2 v rfl rfl rfl
      have e2' : hup h1 p (.lst (((nearZ lo is hi).take j).map .int ++ [.int (nearN a b c)])) p2 = some (.lst (((farZ lo is hi).take j).map .int)) := by
        rw [hup_ne np.symm]; exact e2
      have fin : ∀ v : Int, v = farN a b c → bmV .append (.ref p2) [.int v] (hup h1 p (.lst (((nearZ lo is hi).take j).map .int ++ [.int (nearN a b c)]))) fun _ h3 => Z.nx [some (bx lo hi), some (pt is), some (.ref p), some (.ref p2), some (.int a), some (.int b), some (.int c)] h3 := by
        rintro v rfl
        refine bm_app e2' (by rw [List.length_map]; have := len farN; unfold farZ; omega) ?_
        refine hV _ _ ⟨sub_wr (sub_wr kp hp) hp2', ⟨_, _, _, rfl⟩, ?_, ?_⟩ gds_nil
        · rw [hup_ne np, hup_same, take_snoc g1, List.map_append]; rfl
        · rw [hup_same, take_snoc g2, List.map_append]; rfl
      simp! [b512_2a_1]
      refine ⟨bmT_app e2', ?_⟩
      have eqc : c = farN a b c ∨ a = farN a b c := by unfold farN; split <;> simp
      repeat' split
      all_goals
        refine fin _ ?_
        rename_i w
        simp only [decide_eq_true_eq] at w
        unfold farN
        split <;> omega
    have pre : ∀ (Z : En) (v : Int), Z.nx = V → v = nearN a b c → bmV .append (.ref p) [.int v] h1 fun _ h2 => denB (P.ca (P.call n)) b512_2a_1 Z [some (bx lo hi), some (pt is), some (.ref p), some (.ref p2), some (.int a), some (.int b), some (.int c)] h2 := by
      rintro Z v hZ rfl
      exact bm_app e (by rw [List.length_map]; have := len nearN; unfold nearZ; omega) (go _ _ _ hZ rfl rfl)
    rw [nearN_law le] at pre
    refine ⟨bmT_app e, ?_⟩
    split
    · rename_i w
      exact pre _ _ rfl (by rw [if_pos (of_decide_eq_true w)])
    · rename_i w
      rw [if_neg (fun z => w (decide_eq_true z))] at pre
      split
      · rename_i w
        exact pre _ _ rfl (by rw [if_pos (of_decide_eq_true w)])
      · rename_i w
        exact pre _ _ rfl (by rw [if_neg (fun z => w (decide_eq_true z))])
  · rintro σ h1 ⟨kp, ⟨x4, x5, x6, rfl⟩, e, e2⟩
    have t1 : (nearZ lo is hi).take (((lo.zip (is.zip hi)).map fun p => D.tup [.int p.1, .int p.2.1, .int p.2.2]).length) = nearZ lo is hi := List.take_of_length_le (by unfold nearZ; rw [List.length_map, List.length_map]; exact Nat.le_refl _)
    have t2 : (farZ lo is hi).take (((lo.zip (is.zip hi)).map fun p => D.tup [.int p.1, .int p.2.1, .int p.2.2]).length) = farZ lo is hi := List.take_of_length_le (by unfold farZ; rw [List.length_map, List.length_map]; exact Nat.le_refl _)
    rw [t1] at e
    rw [t2] at e2
    simp! [b512_3]
    rw [iv_ref e]
    simp! []
    rw [iv_ref e2]
    simp! []
    exact ⟨h, kp, k⟩
  · rw [hup_ne np]; exact hup_same
theorem Kp_sub {h h' : HD} (b : Sub h h') : Kp s h h' := ⟨fun a _ m e => b a m e, fun c z => by
  obtain ⟨kv, e, f⟩ := z
  exact ⟨kv, b _ _ e, f⟩⟩
/-- points with each number of a stretch more -/
def longZ (pss : List (List Int)) (lo hi : Int) : List (List Int) := pss.flatMap fun is => (List.range (hi + 1 - lo).toNat).map fun i => is ++ [lo + (i : Nat)]
/-- a point of the first so many axes, within -/
def Wi (lo hi is : List Int) : Prop := ∀ (j : Nat) (a : Int), is[j]? = some a → lo.getD j 0 ≤ a ∧ a ≤ hi.getD j 0
theorem long_len (l : List (List Int)) (lo hi : Int) : (longZ l lo hi).length = l.length * (hi + 1 - lo).toNat := by
  induction l with
  | nil => simp [longZ]
  | cons y l ih =>
    have : longZ (y :: l) lo hi = (List.range (hi + 1 - lo).toNat).map (fun i => y ++ [lo + (i : Nat)]) ++ longZ l lo hi := by simp [longZ]
    rw [this, List.length_append, ih, List.length_map, List.length_range, List.length_cons, Nat.succ_mul, Nat.add_comm]
theorem wi_snoc {lo hi is : List Int} {j : Nat} {a b v : Int} (wi : Wi lo hi is) (hl : is.length = j) (ea : lo[j]? = some a) (eb : hi[j]? = some b) (h1 : a ≤ v) (h2 : v ≤ b) : (is ++ [v]).length = j + 1 ∧ Wi lo hi (is ++ [v]) := by
  refine ⟨by rw [List.length_append, hl]; rfl, fun i c z => ?_⟩
  by_cases e : i < is.length
  · rw [List.getElem?_append_left e] at z
    exact wi i c z
  · have := (List.getElem?_eq_some_iff.mp z).1
    rw [List.length_append, List.length_singleton] at this
    have ij : i = j := by omega
    subst ij
    rw [List.getElem?_append_right (by omega), hl, Nat.sub_self] at z
    cases z
    rw [List.getD_eq_getElem?_getD, List.getD_eq_getElem?_getD, ea, eb]
    exact ⟨h1, h2⟩
theorem longer_ok {n : Nat} {a : Addr} {pss : List (List Int)} {lo hi : Int} (e : h a = some (.lst (pss.map pt))) (hm : ∀ is ∈ pss, is.length ≤ 100) (lo1 : -2000000000 ≤ lo) (hi1 : hi ≤ 2000000000) (hlh : lo ≤ hi) (sm : pss.length * (hi + 1 - lo).toNat ≤ 1000) (sm2 : (hi + 1 - lo).toNat ≤ 1000)
    (k : ∀ h' p, Sub h h' → h p = none → h' p = some (.lst ((longZ pss lo hi).map pt)) → q (.ref p) h') : P.call (n + 1) 364 [.ref a, .int lo, .int hi] h q r := by
  refine call_of h364 rfl ?_
  have sz := szl
  simp! [b364_0]
  intro p hp
  simp! [b364_1]
  rw [iv_ref (show hup h p _ a = _ from Sub.hup hp _ _ e)]
  simp! []
  refine for_of (fun j σ h1 => Sub h h1 ∧ ∃ p3 x4 x5, σ = [some (.ref a), some (.int lo), some (.int hi), some (.ref p3), x4, x5] ∧ h p3 = none ∧ h1 p3 = some (.lst ((longZ (pss.take j) lo hi).map pt))) ?_ ?_ ⟨Sub.hup hp, p, _, _, rfl, hp, show (hup h p (.lst [])) p = some (.lst ((longZ (pss.take 0) lo hi).map pt)) from hup_same⟩
  · rintro j x σ h1 V hj ⟨kp, p3, x4, x5, rfl, hp3, e3⟩ hV
    rw [List.getElem?_map] at hj
    obtain ⟨is, hi', rfl⟩ := Option.map_eq_some_iff.mp hj
    have hjl := (List.getElem?_eq_some_iff.mp hi').1
    have ml := hm _ (List.mem_of_getElem? hi')
    simp! []
    simp! [b364_1a_0]
    refine ⟨by omega, ?_⟩
    unfold rngL
    refine cmp_mapL (fun i : Nat => pt (is ++ [lo + (i : Nat)])) (fun i _ q' hq => ?_) gds_nil (by rw [List.length_range]; omega) ?_
    · simp! [add_tup, List.length_map]
      refine ⟨by omega, ?_⟩
      have z : (is ++ [lo + (i : Nat)]).map D.int = is.map D.int ++ [.int (lo + (i : Nat))] := by rw [List.map_append]; rfl
      rw [← z]
      exact hq
    intro p4 hp4
    have n34 : p3 ≠ p4 := fun z => by rw [z, hp4] at e3; cases e3
    have hp4' : h p4 = none := by
      cases z : h p4 with
      | none => rfl
      | some m => rw [kp _ _ z] at hp4; cases hp4
    rw [add_ref (show hup h1 p4 _ p3 = _ by rw [hup_ne n34]; exact e3) hup_same]
    have ll : ∀ l : List (List Int), (longZ l lo hi).length = l.length * (hi + 1 - lo).toNat := fun l => by
      induction l with
      | nil => simp [longZ]
      | cons y l ih =>
        have : longZ (y :: l) lo hi = (List.range (hi + 1 - lo).toNat).map (fun i => y ++ [lo + (i : Nat)]) ++ longZ l lo hi := by simp [longZ]
        rw [this, List.length_append, ih, List.length_map, List.length_range, List.length_cons, Nat.succ_mul, Nat.add_comm]
    refine ⟨?_, fun p5 hp5 => ?_⟩
    · rw [List.length_map, List.length_map, List.length_range, ll, szl]
      have : (pss.take j).length * (hi + 1 - lo).toNat ≤ pss.length * (hi + 1 - lo).toNat := Nat.mul_le_mul_right _ (by rw [List.length_take]; omega)
      omega
    have hp5' : h p5 = none := by
      cases z : h p5 with
      | none => rfl
      | some m => rw [Sub.hup hp4 _ _ (kp _ _ z)] at hp5; cases hp5
    refine hV _ _ ⟨(kp.trans (Sub.hup hp4)).trans (Sub.hup hp5), _, _, _, rfl, hp5', ?_⟩ (gds_ls (Sub.hup hp5 _ _ (Sub.hup hp4 _ _ (kp _ _ e))))
    rw [hup_same, take_snoc' hi']
    have : longZ (pss.take j ++ [is]) lo hi = longZ (pss.take j) lo hi ++ (List.range (hi + 1 - lo).toNat).map (fun i => is ++ [lo + (i : Nat)]) := by simp [longZ]
    rw [this, List.map_append, List.map_map]
    rfl
  · rintro σ h1 ⟨kp, p3, x4, x5, rfl, hp3, e3⟩
    rw [List.length_map, List.take_length] at e3
    simp! [b364_2]
    exact dq_of (k _ _ kp hp3 e3)
def prN (l : List (Int × Int)) (m : Nat) : Nat := l.foldl (fun m p => m * (p.2 + 1 - p.1).toNat) m
theorem prN_le : ∀ {l : List (Int × Int)} {m : Nat}, (∀ p ∈ l, p.1 ≤ p.2) → m ≤ prN l m
  | [], m, _ => Nat.le_refl _
  | p :: l, m, e => by
    have := e p List.mem_cons_self
    refine Nat.le_trans ?_ (prN_le (l := l) (m := m * (p.2 + 1 - p.1).toNat) fun p hp => e p (List.mem_cons_of_mem _ hp))
    exact Nat.le_mul_of_pos_right _ (by omega)
theorem prN_snoc {l : List (Int × Int)} {m : Nat} {p : Int × Int} : prN (l ++ [p]) m = prN l m * (p.2 + 1 - p.1).toNat := by
  unfold prN
  rw [List.foldl_append]; rfl
theorem le_zip : ∀ {lo hi : List Int}, leZ lo hi = true → ∀ p ∈ lo.zip hi, p.1 ≤ p.2
  | [], _, _, p, z => by cases z
  | _ :: _, [], _, p, z => by cases z
  | l :: lo, u :: hi, e, p, z => by
    have e : (decide (l ≤ u) && leZ lo hi) = true := e
    rw [Bool.and_eq_true] at e
    rcases List.mem_cons.mp z with rfl | z
    · exact of_decide_eq_true e.1
    · exact le_zip e.2 p z
theorem zip_at {lo hi : List Int} {j : Nat} {a b : Int} (e : (lo.zip hi)[j]? = some (a, b)) : lo[j]? = some a ∧ hi[j]? = some b := by
  rw [List.getElem?_zip_eq_some] at e
  exact e
theorem cut_tl {x : D} {l : List D} : Nd.cutD (x :: l) (some 1) none = l := by
  unfold Nd.cutD
  simp [HT.sIx]
theorem within_ok {n : Nat} {lo hi : List Int} (B : Bx lo hi) (S : St h s) (k : ∀ (h' : HD) (p : Addr) (pss : List (List Int)), Kp s h h' → St h' s → p ≠ s → h' p = some (.lst (pss.map pt)) → pss ≠ [] → pss.length ≤ 40 → (∀ is ∈ pss, is.length = lo.length ∧ Wi lo hi is) → q (.ref p) h') : P.call (n + 3) 738 [.ref s, bx lo hi] h q r := by
  refine call_of h738 rfl ?_
  have sz := szl
  have l1 := B.p1.l1
  have l4 := B.p1.l4
  have el := B.el
  have zl := le_zip B.le
  simp! [b738_0]
  simp! [b738_1]
  rw [at_nn (by decide) (by simp)]
  simp! [Int.reduceToNat]
  rw [at_nn (by decide) (by simp)]
  simp! [Int.reduceToNat]
  rw [zipL_int]
  refine for_of (fun j σ h1 => h1 = h ∧ ∃ x4 x5, σ = [some (.ref s), some (bx lo hi), some (.int (prN ((lo.zip hi).take j) 1 : Nat)), none, x4, x5, none, none, none]) ?_ ?_ ⟨rfl, _, _, rfl⟩
  · rintro j x σ h1 V hj ⟨rfl, x4, x5, rfl⟩ hV
    rw [List.getElem?_map] at hj
    obtain ⟨⟨a, b⟩, hi', rfl⟩ := Option.map_eq_some_iff.mp hj
    have le := zl _ (List.mem_of_getElem? hi')
    simp! []
    simp! [b738_1a_0]
    obtain ⟨ea, eb⟩ := zip_at hi'
    have ba := B.p1.bd _ (List.mem_of_getElem? ea)
    have bb := B.p2.bd _ (List.mem_of_getElem? eb)
    refine ⟨.inr ⟨by omega, by omega⟩, hV _ _ ⟨rfl, some (.int a), some (.int b), ?_⟩ gds_nil⟩
    rw [take_snoc' hi', prN_snoc, Int.natCast_mul, show (((b + 1 - a).toNat : Nat) : Int) = b - a + 1 by have : a ≤ b := le; omega]
  · rintro σ h1 ⟨rfl, x4, x5, rfl⟩
    rw [List.length_map, List.take_length]
    simp! [b738_2]
    intro p hp
    have S3 := S
    generalize hh : hup h1 p _ = g4
    obtain ⟨e4, n4, kp4, S4⟩ := alc hh hp S
    simp! [b738_3]
    split
    · simp! [b738_3a_0]
      rw [rng0]
      refine for_of (fun j σ h2 => Kp s h1 h2 ∧ St h2 s ∧ ∃ x2 x4 x5 x6 x7 x8 pss, σ = [some (.ref s), some (bx lo hi), x2, some (.ref p), x4, x5, x6, x7, x8] ∧ h2 p = some (.lst (.tup [] :: pss.map pt)) ∧ pss.length = j ∧ ∀ is ∈ pss, is.length = lo.length ∧ Wi lo hi is) ?_ ?_ ⟨kp4, S4, _, _, _, _, _, _, [], rfl, e4, rfl, fun is z => by cases z⟩
      · rintro j x σ h2 V hj ⟨kp, S, x2, x4, x5, x6, x7, x8, pss, rfl, e3, hl, wi⟩ hV
        have jl := (List.getElem?_eq_some_iff.mp hj).1
        rw [List.length_map, List.length_range] at jl
        have jl : j < 40 := jl
        simp! []
        simp! [b738_3a_0a_0, b738_3a_0a_1]
        rw [at_nn (by decide) (by simp)]
        simp! [Int.reduceToNat]
        rw [at_nn (by decide) (by simp)]
        simp! [Int.reduceToNat]
        rw [zipL_int]
        refine for_of (fun i σ h3 => Kp s h2 h3 ∧ St h3 s ∧ ∃ x4 x5 x8 is, σ = [some (.ref s), some (bx lo hi), x2, some (.ref p), x4, x5, some x, some (pt is), x8] ∧ is.length = i ∧ Wi lo hi is) ?_ ?_ ⟨Kp.refl, S, _, _, _, [], rfl, rfl, fun _ _ z => by cases z⟩
        · rintro i y σ h3 V' hj' ⟨kp', S, x4, x5, x8, is, rfl, il, wi'⟩ hV'
          rw [List.getElem?_map] at hj'
          obtain ⟨⟨a, b⟩, hi', rfl⟩ := Option.map_eq_some_iff.mp hj'
          have le : a ≤ b := zl _ (List.mem_of_getElem? hi')
          obtain ⟨ea, eb⟩ := zip_at hi'
          have ba := B.p1.bd _ (List.mem_of_getElem? ea)
          have bb := B.p2.bd _ (List.mem_of_getElem? eb)
          have il2 := (List.getElem?_eq_some_iff.mp ea).1
          simp! []
          simp! [b738_3a_0a_1a_0]
          refine take_ok k04.h3 (n0 := n + 1) (by have : a ≤ b := le; omega) (by omega) S fun f1 t q1 S t0 t1 => ?_
          simp! [b738_3a_0a_1a_1]
          intro p5 hp5
          generalize hh : hup f1 p5 _ = f4
          obtain ⟨e5, n5, q4, S⟩ := alc hh hp5 S
          refine pick_ok h0 k04.h3 (n := n) e5 (by simp) (by simp) S fun f5 x' hx q5 S => ?_
          have hx : ∃ v, x' = .int v ∧ a ≤ v ∧ v ≤ b := by
            simp only [List.mem_cons, List.not_mem_nil, or_false] at hx
            have le : a ≤ b := le
            rcases hx with rfl | rfl | rfl
            · exact ⟨_, rfl, by omega, by omega⟩
            · exact ⟨_, rfl, by omega, by omega⟩
            · exact ⟨_, rfl, by omega, by omega⟩
          obtain ⟨v, rfl, v0, v1⟩ := hx
          simp! [add_tup, List.length_map]
          refine ⟨by omega, ?_⟩
          have z : is.map D.int ++ [.int v] = (is ++ [v]).map D.int := by rw [List.map_append]; rfl
          rw [z]
          exact hV' _ _ ⟨((kp'.trans q1).trans q4).trans q5, S, _, _, _, is ++ [v], rfl, wi_snoc wi' il ea eb v0 v1⟩ gds_nil
        · rintro σ h3 ⟨kp', S, x4, x5, x8, is, rfl, il, wi'⟩
          rw [List.length_map, List.length_zip] at il
          have e3 := kp' _ n4 _ e3
          simp! [b738_3a_0a_2]
          refine ⟨bmT_app e3, bm_app e3 (by rw [List.length_cons, List.length_map]; omega) ?_⟩
          refine hV _ _ ⟨kp_wr (kp.trans kp') hp, st_wr S3 hp (kp.trans kp') S, _, _, _, _, _, _, pss ++ [is], rfl, ?_, ?_, ?_⟩ gds_nil
          · rw [hup_same, List.map_append]; rfl
          · rw [List.length_append, hl]; rfl
          · intro js hjs
            rcases List.mem_append.mp hjs with z | z
            · exact wi _ z
            · rw [List.mem_singleton.mp z]
              exact ⟨by omega, wi'⟩
      · rintro σ h2 ⟨kp, S, x2, x4, x5, x6, x7, x8, pss, rfl, e3, hl, wi⟩
        rw [List.length_map, List.length_range] at hl
        simp! [b738_3a_1]
        rw [slc_ref e3]
        intro p9 hp9
        generalize hh : hup h2 p9 _ = g9
        obtain ⟨e9, n9, q9, S⟩ := alc hh hp9 S
        rw [cut_tl] at e9
        exact dq_of (k _ _ pss (kp.trans q9) S n9 e9 (fun z => by rw [z] at hl; cases hl) (by omega) wi)
    · rename_i w
      have w : prN (lo.zip hi) 1 ≤ 40 := by
        simp only [decide_eq_true_eq] at w
        omega
      simp! [b738_4]
      rw [at_nn (by decide) (by simp)]
      simp! [Int.reduceToNat]
      rw [at_nn (by decide) (by simp)]
      simp! [Int.reduceToNat]
      rw [zipL_int]
      refine for_of (fun j σ h2 => Kp s h1 h2 ∧ St h2 s ∧ ∃ x2 x4 x5 p3 pss, σ = [some (.ref s), some (bx lo hi), x2, some (.ref p3), x4, x5, none, none, none] ∧ p3 ≠ s ∧ h2 p3 = some (.lst (pss.map pt)) ∧ pss ≠ [] ∧ pss.length = prN ((lo.zip hi).take j) 1 ∧ ∀ is ∈ pss, is.length = j ∧ Wi lo hi is) ?_ ?_ ⟨kp4, S4, _, _, _, p, [[]], rfl, n4, e4, by simp, rfl, fun is z => ?_⟩
      · rintro j x σ h2 V hj ⟨kp, S, x2, x4, x5, p3, pss, rfl, n3, e3, ne, hl, wi⟩ hV
        rw [List.getElem?_map] at hj
        obtain ⟨⟨a, b⟩, hi', rfl⟩ := Option.map_eq_some_iff.mp hj
        have le : a ≤ b := zl _ (List.mem_of_getElem? hi')
        obtain ⟨ea, eb⟩ := zip_at hi'
        have ba := B.p1.bd _ (List.mem_of_getElem? ea)
        have bb := B.p2.bd _ (List.mem_of_getElem? eb)
        have jl := (List.getElem?_eq_some_iff.mp ea).1
        have m2 : prN ((lo.zip hi).take j) 1 * (b + 1 - a).toNat ≤ 40 := by
          have t : prN ((lo.zip hi).take (j + 1)) 1 ≤ prN (lo.zip hi) 1 := by
            have u : lo.zip hi = (lo.zip hi).take (j + 1) ++ (lo.zip hi).drop (j + 1) := (List.take_append_drop ..).symm
            have v : prN (lo.zip hi) 1 = prN ((lo.zip hi).drop (j + 1)) (prN ((lo.zip hi).take (j + 1)) 1) := by
              conv => lhs; rw [u]
              unfold prN
              rw [List.foldl_append]
            rw [v]
            exact prN_le fun p hp => zl p (List.mem_of_mem_drop hp)
          rw [take_snoc' hi', prN_snoc] at t
          exact Nat.le_trans t w
        have m3 : (b + 1 - a).toNat ≤ 40 := by
          have : 1 ≤ prN ((lo.zip hi).take j) 1 := prN_le fun p hp => zl p (List.mem_of_mem_take hp)
          have := Nat.mul_le_mul_right (b + 1 - a).toNat this
          omega
        simp! []
        simp! [b738_4a_0]
        refine longer_ok (n := n + 1) e3 (fun is hi => by have := (wi is hi).1; omega) (by omega) (by omega) le (by rw [hl]; omega) (by omega) fun h3 p4 sub hp4 e4' => ?_
        have S4' : St h3 s := by
          obtain ⟨c, cs, a, r, t, m', S⟩ := S
          exact ⟨c, cs, a, r, t, m', ⟨sub _ _ S.hs, sub _ _ S.hc, S.cp, S.a0, S.r0, S.t0, S.m0, S.m1⟩⟩
        refine hV _ _ ⟨kp.trans (Kp_sub sub), S4', _, _, _, p4, longZ pss a b, rfl, fun z => ?_, e4', ?_, ?_, fun is hi => ?_⟩ gds_nil
        · obtain ⟨c, cs, a, r, t, m', S⟩ := S
          rw [z, S.hs] at hp4
          cases hp4
        · intro z
          have := long_len pss a b
          rw [z, hl] at this
          have g : 1 ≤ prN ((lo.zip hi).take j) 1 := prN_le fun p hp => zl p (List.mem_of_mem_take hp)
          have := Nat.mul_le_mul g (show 1 ≤ (b + 1 - a).toNat by omega)
          simp at *
          omega
        · rw [long_len, hl, take_snoc' hi', prN_snoc]
        · unfold longZ at hi
          obtain ⟨ps, hps, hz⟩ := List.mem_flatMap.mp hi
          obtain ⟨i, hz2, rfl⟩ := List.mem_map.mp hz
          rw [List.mem_range] at hz2
          exact wi_snoc (wi ps hps).2 (wi ps hps).1 ea eb (by omega) (by omega)
      · rintro σ h2 ⟨kp, S, x2, x4, x5, p3, pss, rfl, n3, e3, ne, hl, wi⟩
        rw [List.length_map, List.length_zip] at wi
        rw [List.length_map, List.take_length] at hl
        simp! [b738_5]
        exact dq_of (k _ _ pss kp S n3 e3 ne (by omega) fun is hi => ⟨by rw [(wi is hi).1]; omega, (wi is hi).2⟩)
      · rcases List.mem_singleton.mp z with rfl
        exact ⟨rfl, fun j a z => by cases z⟩
theorem wi_pt {lo hi is : List Int} (B : Bx lo hi) (e : is.length = lo.length) (w : Wi lo hi is) : Pt is ∧ insZ lo is hi = true := by
  have el := B.el
  refine ⟨⟨by have := B.p1.l1; omega, by have := B.p1.l4; omega, fun x hx => ?_⟩, ?_⟩
  · obtain ⟨i, hi'⟩ := List.getElem?_of_mem hx
    have hl := (List.getElem?_eq_some_iff.mp hi').1
    have := w i x hi'
    have b1 := B.p1.bd _ (List.mem_of_getElem? (getD_at (l := lo) (k := i) (by omega)))
    have b2 := B.p2.bd _ (List.mem_of_getElem? (getD_at (l := hi) (k := i) (by omega)))
    omega
  · unfold insZ
    rw [List.all_eq_true]
    rintro ⟨a, b, c⟩ hp
    obtain ⟨i, hi'⟩ := List.getElem?_of_mem hp
    rw [List.getElem?_zip_eq_some] at hi'
    obtain ⟨h1, h2⟩ := hi'
    rw [List.getElem?_zip_eq_some] at h2
    have := w i b h2.1
    rw [List.getD_eq_getElem?_getD, List.getD_eq_getElem?_getD, h1, h2.2] at this
    have z1 : a ≤ b := this.1
    have z2 : b ≤ c := this.2
    show (decide (a ≤ b) && decide (b ≤ c)) = true
    rw [decide_eq_true z1, decide_eq_true z2]; rfl
theorem holdsGood {n : Nat} {lo hi is : List Int} (B : Bx lo hi) (p : Pt is) (el : is.length = lo.length) (k : q (.bl (insZ lo is hi)) h) : P.call (n + 6) 258 [bx lo hi, pt is] h q r := by
  refine holds_ok (s := 0) h258 h264 h265 h16 h35 h34 h1 h2 (n := n) kd_bx kd_ints (fun lo' hi' is' e1 _ e2 _ _ => ?_) (fun e => by rw [bx_is B] at e; cases e) fun lo' hi' e1 _ z => absurd el ?_
  · have e3 := D.tup.inj e1
    rw [List.cons.injEq, List.cons.injEq] at e3
    rw [← pt_inj e3.1, ← pt_inj e3.2.1, ← pt_inj e2]
    exact k
  · have e3 := D.tup.inj e1
    rw [List.cons.injEq, List.cons.injEq] at e3
    rw [pt_inj e3.1]
    exact z is rfl p
theorem between_ins {l : List (Int × Int × Int)} : (!inF (.bl false) (l.map fun p => D.bl (decide (p.1 ≤ p.2.1) && decide (p.2.1 ≤ p.2.2)))) = l.all fun p => decide (p.1 ≤ p.2.1) && decide (p.2.1 ≤ p.2.2) := by
  unfold inF
  induction l with
  | nil => rfl
  | cons p l ih =>
    rw [List.map_cons, List.any_cons, List.all_cons, Bool.not_or, ih]
    congr 1
    show (!((decide (p.1 ≤ p.2.1) && decide (p.2.1 ≤ p.2.2)) == false)) = _
    cases (decide (p.1 ≤ p.2.1) && decide (p.2.1 ≤ p.2.2)) <;> rfl
theorem sum_bd {m : Int} : ∀ {l : List Int}, (∀ x ∈ l, 0 ≤ x ∧ x ≤ m) → 0 ≤ l.sum ∧ l.sum ≤ l.length * m
  | [], _ => by simp
  | x :: l, h => by
    have ih := sum_bd (l := l) fun y hy => h y (List.mem_cons_of_mem _ hy)
    have hx := h x List.mem_cons_self
    rw [List.sum_cons, List.length_cons, show ((l.length + 1 : Nat) : Int) * m = l.length * m + m by rw [Int.natCast_add, Int.add_mul]; simp]
    omega
theorem step_bd {is js : List Int} (p1 : Pt is) (p2 : Pt js) : ∀ x ∈ stepsZ is js, 0 ≤ x ∧ x ≤ 2000000000 := fun x hx => by
  refine ⟨steps_nn x hx, ?_⟩
  obtain ⟨p, hp, rfl⟩ := List.mem_map.mp hx
  obtain ⟨a1, a2⟩ := List.of_mem_zip hp
  have := p1.bd _ a1
  have := p2.bd _ a2
  unfold absZ
  split <;> omega
theorem step_len {is js : List Int} (p1 : Pt is) : (stepsZ is js).length ≤ 4 := by
  unfold stepsZ
  rw [List.length_map, List.length_zip]
  have := p1.l4
  omega
theorem apart_bd {w : Str} {is js : List Int} (p1 : Pt is) (p2 : Pt js) : 0 ≤ apartZ w is js ∧ apartZ w is js ≤ 100000000000000000000 := by
  have b := step_bd p1 p2
  have l := step_len (js := js) p1
  unfold apartZ lengthZ
  generalize stepsZ is js = st at *
  have l2 : (st.length : Int) ≤ 4 := by omega
  split
  · obtain ⟨h1, h2⟩ := sum_bd b
    have : (st.length : Int) * 2000000000 ≤ 4 * 2000000000 := Int.mul_le_mul_of_nonneg_right l2 (by decide)
    omega
  · split
    · cases st with
      | nil => decide
      | cons x st =>
        have := b _ (maxZ_mem (l := x :: st) fun z => by cases z)
        omega
    · have b2 : ∀ x ∈ st.map fun i => i * i, 0 ≤ x ∧ x ≤ 4000000000000000000 := fun x hx => by
        obtain ⟨y, hy, rfl⟩ := List.mem_map.mp hx
        obtain ⟨h0, h1⟩ := b y hy
        exact ⟨Int.mul_nonneg h0 h0, Int.le_trans (Int.mul_le_mul h1 h1 h0 (by decide)) (by decide)⟩
      obtain ⟨h1, h2⟩ := sum_bd b2
      rw [List.length_map] at h2
      have : (st.length : Int) * 4000000000000000000 ≤ 4 * 4000000000000000000 := Int.mul_le_mul_of_nonneg_right l2 (by decide)
      omega
theorem repr_ii {C : Ca} {a b : Int} (ha : a.natAbs < 10 ^ 40) (hb : b.natAbs < 10 ^ 40) {Q : VQ} (k : ∀ z : Str, z = (toP (.tup [.int a, .int b])).shown → Q (.str z) h) : biV C.exm .repr1 [.tup [.int a, .int b]] h Q := by
  have p := py_cl (h := h) 1 (d := .tup [.int a, .int b]) rfl
  have w : ∀ i : Int, i.natAbs < 10 ^ 40 → (if (i == 0) = true then 0 else i.natAbs.log2 + 1) ≤ 2000 := fun i hi => by
    have := log_small hi
    split <;> omega
  refine ⟨_, p.1, ⟨rfl, ?_⟩, ?_, Nat.le_trans p.2 (by decide), k _ rfl⟩
  · show (decide (a.natAbs < 10 ^ 40) && (decide (b.natAbs < 10 ^ 40) && true)) = true
    rw [decide_eq_true ha, decide_eq_true hb]; rfl
  · show (if (a == 0) = true then 0 else a.natAbs.log2 + 1) + 1 + ((if (b == 0) = true then 0 else b.natAbs.log2 + 1) + 1 + 0) ≤ 300000
    have := w a ha
    have := w b hb
    omega
theorem z3_ins {f : Int → Int → Int → Int} : ∀ {lo is hi : List Int}, leZ lo hi = true → lo.length = hi.length → is.length = lo.length → (∀ a b c, a ≤ c → a ≤ f a b c ∧ f a b c ≤ c) → insZ lo ((lo.zip (is.zip hi)).map fun p => f p.1 p.2.1 p.2.2) hi = true
  | [], _, _, _, _, _, _ => rfl
  | a :: lo, b :: is, c :: hi, f1, e1, e2, g => by
    have f1 : (decide (a ≤ c) && leZ lo hi) = true := f1
    rw [Bool.and_eq_true] at f1
    have h1 := g a b c (of_decide_eq_true f1.1)
    have ih := z3_ins (f := f) (is := is) f1.2 (Nat.succ.inj e1) (Nat.succ.inj e2) g
    show ((decide (a ≤ f a b c) && decide (f a b c ≤ c)) && insZ lo ((lo.zip (is.zip hi)).map fun p => f p.1 p.2.1 p.2.2) hi) = true
    rw [ih, decide_eq_true h1.1, decide_eq_true h1.2]; rfl
theorem far_ins {lo is hi : List Int} (B : Bx lo hi) (p : Pt is) (el : is.length = lo.length) : insZ lo (farZ lo is hi) hi = true :=
  z3_ins B.le B.el el fun a b c e => by unfold farN; split <;> omega
theorem near_ins {lo is hi : List Int} (B : Bx lo hi) (p : Pt is) (el : is.length = lo.length) : insZ lo (nearZ lo is hi) hi = true :=
  z3_ins B.le B.el el fun a b c e => by unfold nearN; repeat' split
                                        all_goals omega
theorem law_ok (ns : List Int) (hl : ns.length ≤ 63) : P.call 60 887 [.kls (ns.map .int)] (fun _ => none) (fun d _ => d = .bl true) fun _ _ => False := by
  refine call_of h887 rfl ?_
  have sz := szl
  simp! [b887_0]
  refine begun_ok h8 (n := 58) (by omega) fun h1' s _ _ S => ?_
  simp! [b887_1]
  rw [rng0]
  refine for_of (fun j σ h1 => St h1 s ∧ ∃ x2 x3 x4 x5 x6 x7 x8 x9 y0 y1 y2, σ = [some (.kls (ns.map .int)), some (.ref s), x2, x3, x4, x5, x6, x7, x8, x9, y0, y1, y2, none, none, none, none]) ?_ ?_ ⟨S, _, _, _, _, _, _, _, _, _, _, _, rfl⟩
  · rintro j x σ h1' V hj ⟨S, x2, x3, x4, x5, x6, x7, x8, x9, y0, y1, y2, rfl⟩ hV
    simp! [b887_1a_0]
    refine box_ok (n := 54) S fun g1 lo hi kp1 S B => ?_
    simp! [b887_1a_1]
    refine beside_ok (n := 56) B S fun g2 is kp2 S pi il => ?_
    simp! [b887_1a_2]
    refine due_ok (n := 58) B pi il ?_
    simp! [b887_1a_3]
    have kb : Kd s g2 (bx lo hi) := kd_tup2 (.tup kd_is) (.tup kd_is)
    have kp : Kd s g2 (pt is) := .tup kd_is
    refine nearestIn_ok hb h393 h50 (n := 53) kb kp (fun lo' hi' is' e1 _ e2 _ _ => ?_) (fun z => by rw [bx_is B] at z; cases z) fun lo' hi' e1 B' z => absurd il (by obtain ⟨rfl, rfl⟩ := bx_inj e1; exact z is rfl pi)
    obtain ⟨rfl, rfl⟩ := bx_inj e1
    obtain rfl := pt_inj e2
    refine farthestIn_ok hb h390 h52 h51 (n := 53) kb kp (fun lo' hi' is' e1 _ e2 _ _ => ?_) (fun z => by rw [bx_is B] at z; cases z) fun lo' hi' e1 B' z => absurd il (by obtain ⟨rfl, rfl⟩ := bx_inj e1; exact z is rfl pi)
    obtain ⟨rfl, rfl⟩ := bx_inj e1
    obtain rfl := pt_inj e2
    have np := near_pt B pi il
    have fp := far_pt B pi il
    refine repr_pp np.1 fp.1 fun z1 ez1 => repr_pp np.1 fp.1 fun z2 ez2 => ?_
    rw [ez2, ← ez1]
    refine ne_go ?_
    simp! [b887_1a_4]
    rw [at_nn (by decide) (by simp)]
    simp! [Int.reduceToNat]
    rw [at_nn (by decide) (by simp)]
    simp! [Int.reduceToNat, zipL3_int]
    have l4 := B.p1.l4
    refine cmp_mapL (fun p => .bl (decide (p.1 ≤ p.2.1) && decide (p.2.1 ≤ p.2.2))) (fun p _ q' hq => ?_) gds_nil (by rw [z3_len]; omega) ?_
    · simp! []
      split
      · rename_i w
        rw [w, Bool.true_and] at hq
        exact hq
      · rename_i w
        rw [Bool.not_eq_true] at w
        rw [w, Bool.false_and] at hq
        exact hq
    intro p1 hp1
    generalize hh : hup g2 p1 _ = g3
    obtain ⟨e1, n1, kp3, S⟩ := alc hh hp1 S
    simp! [b887_1a_5]
    refine holdsGood (n := 53) B pi il ?_
    simp! [b887_1a_6, bi_isi ty_bl (n := "bool") rfl]
    unfold ninV
    refine in_lst e1 rfl (by rw [List.all_eq_true]; intro y hy; obtain ⟨p, _, rfl⟩ := List.mem_map.mp hy; rfl) ⟨_, rfl, ?_⟩
    rw [show (!inF (.bl false) ((lo.zip (is.zip hi)).map fun p => D.bl (decide (p.1 ≤ p.2.1) && decide (p.2.1 ≤ p.2.2)))) = insZ lo is hi from between_ins]
    simp! []
    simp! [b887_1a_7]
    refine within_ok (n := 56) B S fun g4 p2 pss kp4 S n2 e2 ne l40 wi => ?_
    simp! [b887_1a_8]
    intro p3 hp3
    generalize hh : hup g4 p3 _ = g5
    obtain ⟨e3, n3, kp5, S⟩ := alc hh hp3 S
    have e2 := kp5 _ n2 _ e2
    rw [add_ref e2 e3]
    simp! [List.length_map]
    refine ⟨by omega, ?_⟩
    intro p4 hp4
    generalize hh : hup g5 p4 _ = g6
    obtain ⟨e4, n4, kp6, S⟩ := alc hh hp4 S
    have e2 := kp6 _ n2 _ e2
    rw [show pss.map pt ++ [pt (nearZ lo is hi), pt (farZ lo is hi)] = (pss ++ [nearZ lo is hi, farZ lo is hi]).map pt by rw [List.map_append]; rfl] at e4
    have far_in : insZ lo (farZ lo is hi) hi = true := far_ins B pi il
    have near_in : insZ lo (nearZ lo is hi) hi = true := near_ins B pi il
    rw [iv_ref e4]
    simp! []
    refine cmp_filtL (fun _ => false) (fun is => pt is) (fun os hos q' k' _ hk => ?_) (gds_ls e4) (by rw [List.length_append]; simp; omega) ?_
    · simp! []
      have oo : Pt os ∧ os.length = lo.length ∧ insZ lo os hi = true := by
        rcases List.mem_append.mp hos with z | z
        · have w := wi os z
          have := wi_pt B w.1 w.2
          exact ⟨this.1, w.1, this.2⟩
        · simp only [List.mem_cons, List.not_mem_nil, or_false] at z
          rcases z with rfl | rfl
          · exact ⟨np.1, np.2, near_in⟩
          · exact ⟨fp.1, fp.2, far_in⟩
      refine holdsGood (n := 53) B oo.1 oo.2.1 ?_
      rw [oo.2.2]
      simp! []
      exact hk rfl
    rw [List.filter_eq_nil_iff.mpr (fun _ _ => Bool.false_ne_true)]
    simp! []
    intro p5 hp5
    generalize hh : hup g6 p5 _ = g7
    obtain ⟨e5, n5, kp7, S⟩ := alc hh hp5 S
    intro p6 hp6
    generalize hh : hup g7 p6 _ = g8
    obtain ⟨e6, n6, kp8, S⟩ := alc hh hp6 S
    have e2 := kp8 _ n2 _ (kp7 _ n2 _ e2)
    refine ne_nil (kp8 _ n5 _ e5) e6 ?_
    simp! [List.isEmpty_nil, b887_1a_9]
    refine for_of (fun _ σ h1 => St h1 s ∧ h1 p2 = some (.lst (pss.map pt)) ∧ ∃ x9 y0 y1 y2, σ = [some (.kls (ns.map .int)), some (.ref s), some x, some (bx lo hi), some (pt is), some (.tup [pt (nearZ lo is hi), pt (farZ lo is hi)]), some (.ref p1), some (.bl (insZ lo is hi)), some (.ref p2), x9, y0, y1, y2, none, none, none, none]) ?_ ?_ ⟨S, e2, _, _, _, _, rfl⟩
    · clear e1 e2 e3 e4 e5 e6 S hp1 hp3 hp4 hp5 hp6
      rintro j w σ h1 V' hjw ⟨S, ee2, x9, y0, y1, y2, rfl⟩ hV'
      obtain ⟨ww, z, rfl⟩ := wayIn (List.mem_of_getElem? hjw)
      have kb : Kd s h1 (bx lo hi) := kd_tup2 (.tup kd_is) (.tup kd_is)
      have kp : Kd s h1 (pt is) := .tup kd_is
      simp! [b887_1a_9a_0]
      refine least_ok hb h391 h49 h50 (n := 53) (.str z) kb kp (fun z' lo' hi' is' e0 _ e1 _ e2 _ _ => ?_) (fun e => by rw [ww] at e; cases e) (fun _ e => by rw [bx_is B] at e; cases e) fun _ lo' hi' e1 B' zz => absurd il (by obtain ⟨rfl, rfl⟩ := bx_inj e1; exact zz is rfl pi)
      obtain ⟨rfl, rfl⟩ := bx_inj e1
      obtain rfl := pt_inj e2
      obtain rfl := D.str.inj e0
      refine most_ok hb h392 h53 h52 h51 (n := 53) (.str z) kb kp (fun z' lo' hi' is' e0 _ e1 _ e2 _ _ => ?_) (fun e => by rw [ww] at e; cases e) (fun _ e => by rw [bx_is B] at e; cases e) fun _ lo' hi' e1 B' zz => absurd il (by obtain ⟨rfl, rfl⟩ := bx_inj e1; exact zz is rfl pi)
      obtain ⟨rfl, rfl⟩ := bx_inj e1
      obtain rfl := pt_inj e2
      obtain rfl := D.str.inj e0
      simp! [b887_1a_9a_1]
      rw [at_nn (by decide) (by simp)]
      simp! [Int.reduceToNat]
      refine lawDist_ok h159 (n := 58) ww np.1.ne pi.ne np.1.bd pi.bd ?_
      rw [at_nn (by decide) (by simp)]
      simp! [Int.reduceToNat]
      refine lawDist_ok h159 (n := 58) ww fp.1.ne pi.ne fp.1.bd pi.bd ?_
      simp! [b887_1a_9a_2]
      have a1 := apart_bd (w := z) np.1 pi
      have a2 := apart_bd (w := z) fp.1 pi
      have big : ∀ i : Int, 0 ≤ i ∧ i ≤ 100000000000000000000 → i.natAbs < 10 ^ 40 := fun i hi => Nat.lt_of_lt_of_le (show i.natAbs < 100000000000000000001 by omega) (by decide)
      refine repr_ii (big _ a1) (big _ a2) fun z1 ez1 => repr_ii (big _ a1) (big _ a2) fun z2 ez2 => ?_
      rw [ez2, ← ez1]
      refine ne_go ?_
      simp! [b887_1a_9a_3]
      rw [iv_ref ee2]
      simp! []
      refine cmp_mapL (fun os => .int (apartZ z os is)) (fun os hos q' hq => ?_) (gds_ls ee2) (by omega) ?_
      · simp! []
        have w := wi os hos
        have := wi_pt B w.1 w.2
        exact lawDist_ok h159 (n := 58) ww this.1.ne pi.ne this.1.bd pi.bd hq
      intro p9 hp9
      generalize hh : hup h1 p9 _ = h2
      obtain ⟨e9, n9, kp9, S⟩ := alc hh hp9 S
      have ee2 := kp9 _ n2 _ ee2
      have mono : ∀ os ∈ pss, apartZ z (nearZ lo is hi) is ≤ apartZ z os is ∧ apartZ z os is ≤ apartZ z (farZ lo is hi) is := fun os hos => by
        have w := wi os hos
        have w2 := wi_pt B w.1 w.2
        have ns := near_steps (is := is) w2.2 il.symm B.el w.1.symm
        have sl : ∀ {js : List Int}, js.length = lo.length → (stepsZ js is).length = lo.length := fun e => by
          unfold stepsZ
          rw [List.length_map, List.length_zip]
          omega
        have sn : ∀ {js : List Int}, js.length = lo.length → stepsZ js is ≠ [] := fun e z => by
          have := sl e
          rw [z] at this
          have := B.p1.l1
          simp at *
          omega
        exact ⟨length_mono (sn np.2) steps_nn ns.1 (by rw [sl np.2, sl w.1]), length_mono (sn w.1) steps_nn ns.2 (by rw [sl w.1, sl fp.2])⟩
      have lo_ok : ¬ loZ (pss.map fun os => apartZ z os is) < apartZ z (nearZ lo is hi) is := fun c => by
        obtain ⟨os, hos, e⟩ := List.mem_map.mp (loZ_mem (l := pss.map fun os => apartZ z os is) (by simpa using ne))
        have := (mono os hos).1
        rw [← e] at c
        omega
      have hi_ok : ¬ apartZ z (farZ lo is hi) is < hiZ (pss.map fun os => apartZ z os is) := fun c => by
        obtain ⟨os, hos, e⟩ := List.mem_map.mp (hiZ_mem (l := pss.map fun os => apartZ z os is) (by simpa using ne))
        have := (mono os hos).2
        rw [← e] at c
        omega
      simp! [b887_1a_9a_4]
      rw [iv_ref e9]
      simp! []
      refine bl_minL rfl ne ?_
      rw [at_nn (by decide) (by simp)]
      simp! [Int.reduceToNat]
      rw [decide_eq_false lo_ok]
      simp! []
      rw [iv_ref e9]
      simp! []
      refine bl_maxL rfl ne ?_
      rw [at_nn (by decide) (by simp)]
      simp! [Int.reduceToNat]
      rw [decide_eq_false hi_ok]
      simp! []
      exact hV' _ _ ⟨S, ee2, _, _, _, _, rfl⟩ gds_hid
    · rintro σ h1 ⟨S, e2, x9, y0, y1, y2, rfl⟩
      simp! []
      exact hV _ _ ⟨S, _, _, _, _, _, _, _, _, _, _, _, rfl⟩ gds_nil
  · rintro σ h1' ⟨S, x2, x3, x4, x5, x6, x7, x8, x9, y0, y1, y2, rfl⟩
    simp! [b887_2]
    exact dq_of rfl
end
theorem holds : LW.Holds := law_end 60 ⟨rfl, by decide, by decide⟩ law_ok
end k04
theorem PySem.Challenge.cw_nigh_k04_whole_nearest_and_farthest_holds : PySem.Challenge.rw_nigh_k04_whole_nearest_and_farthest.Holds :=
  k04.holds
