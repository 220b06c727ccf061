import PyProof.Rows.All
import Wide.All
import OpenK.AllK
import Wide.FinOn
import HandS.ForMost
import HandS.Exc
import HandS.CallSlots
import HandS.Defaults
import HandS.TryOnly
import HandS.ExcOwn
import HandS.ExcValue
import HandS.ExcIs
import HandS.TupMul
import HandS.TupAny
import HandS.TupLe
import HandS.Deep
import HandS.Flow
import HandS.Text
import HandS.Wide
import KE.SortData
import KE.DataCmp
import KE.DataFind
import PyProof.NeKinds
import PyProof.Rows.SeqMore
import PyProof.Rows.SetFrom
import HandS.IsInst
import HandS.WordsDict
import HandS.Conv
import HandS.Iter
import HandS.Zip
import HandS.Rev
import HandS.NoneIn
import HandS.Style
import PyProof.MaxThree
import KE.GoesNew
import PyProof.ReprRoads
import PyProof.ReprLen
import PyProof.CallFns
import PyProof.Rows.ReprOcc
import KE.GoesEnum
import HandS.ListItems
import HandS.SetFor
import HandS.SetKeys
import HandS.Finally
import PyProof.MinMaxWalk
import HandS.HeadEnd
import HandS.HeadHook2
import HandS.HeadHook4
import HandS.Head2
import PySem.Challenge.RW_nigh_k51_balled
set_option Elab.async false
set_option linter.all false
set_option maxRecDepth 100000
set_option maxHeartbeats 0
/-! Ng0: a def's promise that is told only where no repr runs (so that repr may be called in it). -/
namespace Nd
open PySem PySem.Spec PyProof.Rows L2
/-- a def's promise, no repr running around the call -/
structure FnG (P : Program) (w : World) (K : PySem.W.Frag) (mg : Str → Option Value) (base : Heap) (ct : CXT) (k : Nat) (f : Addr) (fd : FuncData) (ps : List Str) (sp : Sp) : Prop where
  len : ∀ vs H Q E, sp vs H Q E → vs.length = ps.length
  go : ∀ A : Around, A.guards = some [] → Room k A → ∀ (outer : List Env) (s : Shared) (H : Hp) (args : Args) (us : List Value) (vs : List V) (Q : VK) (E : XK),
    Env0 P w K mg base A outer s H → BindsTo s fd args (ps.zip us) → Vals vs us → sp vs H Q E → codeAny (model P w) A (.call (.ref f) args) (CR ct outer P w H s Q E) s
section
variable {P : Program} {w : World} {K : PySem.W.Frag} {mg : Str → Option Value} {base : Heap} {ct : CXT} {k : Nat} {f : Addr} {fd : FuncData} {N ps : List Str} {sp : Sp}
theorem FnG.up {j : Nat} (F : FnG P w K mg base ct j f fd ps sp) (h : j ≤ k) : FnG P w K mg base ct k f fd ps sp := ⟨F.len, fun A g r => F.go A g (r.mono h)⟩
/-- of a def without defaults -/
theorem fnG_of {nm qual : Str} {params : Arguments} {body : List Stmt} {scope : Scope} {dv : List V} {kw : List (Str × V)} (D : FunD K nm qual params body scope dv kw f fd) (S : FnScope N ps scope) (len : ∀ vs H Q E, sp vs H Q E → vs.length = ps.length)
    (hb : ∀ (cd : Value) (A : Around), A.guards = some [] → ∀ (outer : List Env) (s : Shared) (H : Hp) (vs : List V) (Q : VK) (E : XK), Room k (A.deeper (envOfC qual scope s.heap.objs.size f cd)) → sp vs H Q E →
      ∃ t, PSs (cxOf ct P w K mg base N qual scope f cd A outer s H E) body t ∧ t { nx := fun _ h => Q .non h, rt := Q } (start N vs) H) : FnG P w K mg base ct (k + 1) f fd ps sp := by
  obtain ⟨oc, od, dV, kV, doc, pm, an, cd, c9, osl, rfl, lk, hcd, -, -⟩ := D.ex
  refine ⟨len, fun A hg hr outer s H args us vs Q E e0 bt rv hsp => ?_⟩
  have hl := len _ _ _ _ hsp
  have kIn : K.In s.heap := e0.mod.kin.keeps fun b o e => (e0.bs b o e).1
  have noL : s.heap.NoLimit := e0.mod.nolimit.keeps fun b o e => (e0.bs b o e).1
  have names : ∀ y ∈ ps.zip us, scope.names.lookup y.1 = some .local ∨ (scope.names.lookup y.1 = some .cell ∧ ((cellsFrom (s.heap.objs.size + 1) scope.names []).lookup y.1).isSome = true) := by
    rintro ⟨n, v⟩ hy
    rcases S.par n (List.of_mem_zip hy).1 with z | z
    · exact Or.inl z
    · exact Or.inr ⟨z, PySem.W.cellsFrom_some _ _ _ (Or.inl z)⟩
  obtain ⟨t, ht, hq⟩ := hb cd A hg outer s H vs Q E (hr.deeper _) hsp
  refine codeAny_call_function hr.depth (kIn _ _ lk) rfl S.co S.gen rfl (PySem.W.codeRec_of kIn hcd) (bt _ _ _ _ (wpAny_newFunctionEnv_cells S.kind names fun env he s1 x => ?_))
  subst he
  refine ⟨noL.keeps x.toInCall.keep, codeAny_func ?_⟩
  have I : Inv (cxOf ct P w K mg base N qual scope f cd A outer s H E) [] (L2.start N vs) H s1 := inv_start S hr.hd e0 hl rv x
  refine wpAny_mono (ht.run [] s1 (start N vs) H _ I hq) (fun fl s2 z => ?_) fun _ _ z => z
  match fl, z with
  | .ret u, ⟨v, σ2, H2, J, r2, q2⟩ => exact ⟨v, H2, J.os, J.bare, J.base, J.hok, r2, q2⟩
  | .next, ⟨σ2, H2, J, q2⟩ => exact ⟨.non, H2, J.os, J.bare, J.base, J.hok, rfl, q2⟩
  | .brk, ⟨_, _, _, q2⟩ => exact q2.elim
  | .cont, ⟨_, _, _, q2⟩ => exact q2.elim
end
section
variable {X : Cx} {ct : CXT} {k : Nat} {f : Addr} {fd : FuncData} {ps : List Str} {sp : Sp} {ex : L2.St → XK}
/-- such a call -/
theorem run_fnG {pins : List (Addr × Obj)} {σ : L2.St} {H : Hp} {s : Shared} {Q : VK} {us : List Value} {vs : List V} (F : FnG X.prog X.w X.K X.mg X.base ct k f fd ps sp) (hg : X.A.guards = some []) (hr : Room k X.A) (hb : Binds X.K fd ps []) (hx : PassesAt ct X σ (ex σ))
    (I : Inv X pins σ H s) (r : Vals vs us) (h : sp vs H Q (ex σ)) : wpAny (model X.prog X.w) X.A (call (.ref f) us) (EP X pins σ Q) X.xe s := by
  have hl : us.length = ps.length := r.length.symm.trans (F.len _ _ _ _ h)
  have bt := hb s us I.kIn (by simpa using hl)
  rw [List.append_nil] at bt
  refine wpAny_call (codeAny_mono (F.go X.A hg hr X.stack s H ⟨us, []⟩ us vs Q (ex σ) I.env0 bt r h) fun z s2 hz => ?_)
  match z, hz with
  | .error e, hz => exact hx pins H s e s2 I hz
  | .ok (.ret u), hz => exact I.after hz
  | .ok .next, hz => exact hz.elim
  | .ok .brk, hz => exact hz.elim
  | .ok .cont, hz => exact hz.elim
def tCallG (sp : Sp) (ex : L2.St → XK) (t : TA) : TE := fun σ H Q => t σ H fun vs H1 => sp vs H1 Q (ex σ)
/-- f(e, ..) by its name -/
theorem pe_callG {x : Str} {p pos : Pos} {e : Expr} {es : List Expr} {t : TA} (F : FnG X.prog X.w X.K X.mg X.base ct k f fd ps sp) (hgd : X.A.guards = some []) (hr : Room k X.A) (hg : Gl X x) (hm : X.mg x = some (.ref f)) (hk : PySem.W.keepIn X.K (.ref f) = true) (hb : Binds X.K fd ps [])
    (hx : ∀ σ, PassesAt ct X σ (ex σ)) (ha : PA X (e :: es) t) (hdb : (x == ("__debug__" : Str)) = false) (he : starEach (e :: es) X.env = (false, eval e X.env) :: starEach es X.env) (hpl : (backTo pos (starEach es X.env)).any (·.1) = false) :
    PE X (.Call (.Name x p) (e :: es) [] pos) (tCallG sp ex t) :=
  ⟨fun pins s σ H Q I h => wpAny_Call_Name_kw (ld_glob I hg hm (PySem.W.callWith_K (h₀ := X.base) I.ok.mod.kin hk
    (thn (ha.run pos pins s σ H _ I h) fun us s1 ⟨vs, H1, I1, r, q⟩ => ⟨I1.kIn, run_fnG F hgd hr hb (hx σ) I1 r q⟩) he hpl) hdb)⟩
end
/-- the law's call: the script is a list that stays as it is -/
theorem lawG {P : Program} {w : World} {K : PySem.W.Frag} {mg mb : Str → Option Value} {ct : CXT} {k : Nat} {fa a : Addr} {fd : FuncData} {x : Str} {sp : Sp} {t : Shared} {vs : List Value} {ns : List Int}
    (kin : K.In t.heap) (g1 : t.heap.Ns mainGlobals mg) (g2 : t.heap.Ns builtinsNs mb) (g3 : ∀ x : Str, x ≠ "__name__" → mb x = bootBuiltins x) (g4 : t.heap.NoLimit) (g5 : t.gens = #[])
    (at_ : t.heap.get? a = some { cls := .type "list", data := .seq vs.toArray }) (hi : IntsAre vs ns) (hl : ns.length ≤ sizeLine) (hr : Room k callerA)
    (F : ∀ base : Heap, K.In base → base.Ns mainGlobals mg → FnG P w K mg base ct k fa fd [x] sp) (hb : ∀ (s : Shared) (u : Value), BindsTo s fd ⟨[u], []⟩ [(x, u)])
    (hsp : ∀ H : Hp, Only H → SqL K H a (ns.map V.int) → sp [.ref a] H (fun v _ => v = .bl true) fun _ _ _ => False)
    (hct : ∀ H e s', ct [] H t (fun _ _ _ => False) e s' → False) :
    codeAny (model P w) callerA (.call (.ref fa) ⟨[.ref a], []⟩) (fun r s' => r = .ok (.ret (.bool true)) ∧ OldK t.heap s'.heap ∧ s'.os = t.os ∧ AllBare s'.gens) t := by
  have rv := vals_ints hi
  have key : ∀ H : Hp, Only H → SqL K H a (ns.map V.int) → HOk P w H t.heap → (∀ b, b ≠ a → H b = none) → (H a = none ∨ K.lookup a = none) →
      codeAny (model P w) callerA (.call (.ref fa) ⟨[.ref a], []⟩) (fun r s' => r = .ok (.ret (.bool true)) ∧ OldK t.heap s'.heap ∧ s'.os = t.os ∧ AllBare s'.gens) t := by
    intro H only hS hok off ka
    have dicts : ∀ {b : Addr} {o : Obj} {es : Array DictEntry} {n : Nat}, t.heap.get? b = some o → o.data = .dict es n → H b = none := by
      intro b o es n e d
      refine off b fun z => ?_
      rw [z, at_] at e
      have d2 := congrArg Obj.data (Option.some.inj e)
      rw [d] at d2
      exact nomatch d2
    have hid : ∀ {b : Addr} {o : Obj}, t.heap.get? b = some o → H b = none → (hidT t.heap H).get? b = some o := fun e n => hidT_get e n
    have spaces : ∀ {b : Addr} {m : Str → Option Value}, t.heap.Ns b m → (hidT t.heap H).Ns b m := by
      rintro b m ⟨o, es, ep, e, d, r⟩
      exact ⟨o, es, ep, hid e (dicts e d), d, r⟩
    have kin2 : K.In (hidT t.heap H) := by
      intro b o e
      refine hid (kin b o e) ?_
      by_cases ba : b = a
      · rcases ka with z | z
        · rw [ba]; exact z
        · rw [ba, z] at e; exact nomatch e
      · exact off b ba
    have md : Mod K mg (hidT t.heap H) := ⟨kin2, spaces g1, ⟨mb, spaces g2, g3⟩, let ⟨mc, z1, z2⟩ := g4; ⟨mc, spaces z1, z2⟩⟩
    have env : Env0 P w K mg (hidT t.heap H) callerA [] t H :=
      { frames := rfl, mod := md, bs := fun b o e => of_hidT e, bsz := Nat.le_of_eq (hidT_size _ _), funs := trivial, frf := fun b z => (nomatch z), hok := hok, bare := .of_eq g5 }
    refine codeAny_mono ((F _ kin2 (spaces g1)).go callerA rfl hr [] t H ⟨[.ref a], []⟩ [.ref a] [.ref a] _ _ env (hb t (.ref a)) (.cons rfl .nil) (hsp H only hS)) fun r s' z => ?_
    match r, z with
    | .error e, z => exact (hct H e s' z).elim
    | .ok (.ret u), ⟨v, H2, os, bare, un, hok2, r2, q2⟩ =>
      have q2 : v = .bl true := q2
      subst q2
      have r2 : u = Value.bool true := r2
      subst r2
      refine ⟨rfl, OldK.of_keep fun b o e => ?_, os, bare⟩
      cases hb2 : H b with
      | none => exact un.keep b o e hb2 (fun z => nomatch z) (fun z => nomatch z)
      | some u =>
        rcases only b with z | ⟨ob, xs, z⟩
        · rw [hb2] at z; exact nomatch z
        · obtain ⟨e1, _⟩ := hok b _ z
          obtain ⟨e2, _⟩ := hok2 b _ (un.frzs b ob _ z)
          rw [e] at e1
          rw [Option.some.inj e1]
          exact e2
    | .ok .next, z => exact z.elim
    | .ok .brk, z => exact z.elim
    | .ok .cont, z => exact z.elim
  cases hk : K.lookup a with
  | some o =>
    have e := kin a o hk
    rw [at_] at e
    cases e
    refine key (fun _ => none) (fun _ => .inl rfl) (.inr ⟨_, vs.toArray, _, hk, rfl, rfl, rfl, ?_, ?_⟩) ?_ (fun _ _ => rfl) (.inl rfl)
    · have := hi.length
      rw [List.size_toArray]
      omega
    · simpa using rv
    · intro b u z
      exact nomatch (show (none : Option HO) = some u from z)
  | none =>
    let o1 : Obj := { cls := .type "list", data := .seq vs.toArray }
    let H1 : Hp := fun b => if b = a then some (.frz o1 (.lst (ns.map V.int))) else none
    have h1 : H1 a = some (.frz o1 (.lst (ns.map V.int))) := if_pos rfl
    have h2 : ∀ b, b ≠ a → H1 b = none := fun b z => if_neg z
    refine key H1 (fun b => ?_) (.inl (.inr ⟨o1, h1⟩)) (fun b u z => ?_) h2 (.inr hk)
    · by_cases z : b = a
      · subst z; exact .inr ⟨_, _, h1⟩
      · exact .inl (h2 b z)
    · by_cases e : b = a
      · subst e
        rw [h1] at z
        cases z
        exact ⟨at_, by rw [List.length_map]; exact hl, vs, _, rv, at_⟩
      · rw [h2 b e] at z
        exact nomatch z
end Nd
/-! Nd1: data D with tuples as values, the heap of mutable things, how both lie over the hand layer's V and Hp, and the lifts. -/
namespace Nd
open PySem PySem.Spec PyProof.Rows L2
/-- a value: tuples are values, mutable things are addresses, the program's own functions and classes are numbers -/
inductive D where
  | non | bl (b : Bool) | int (i : Int) | str (s : Str) | tup (xs : List D) | ref (a : Addr) | ty (n : String) | glo (g : Nat) | exc (c : Nat) | kls (xs : List D) | kdc (ks : List Key) (xs : List D)
/-- a text that may stand in data -/
def StrG (s : Str) : Prop := s.length ≤ sizeLine ∧ PyData.strOk s = true
/-- what stands at an address -/
inductive MO where
  | lst (xs : List D) | dic (kvs : List (Key × D)) | ins (c : Nat) (fs : List (Str × D))
/-- a caught error, of the class cls, at a -/
def ExC (cls : Value) (a : Addr) : HO := .ext fun h => ∃ (oe : Obj) (vs : Array Value), h.get? a = some oe ∧ Zc cls none oe ∧ oe.data = .fields vs
abbrev HD := Addr → Option MO
def hup (H : HD) (a : Addr) (o : MO) : HD := fun b => if b = a then some o else H b
theorem hup_same {H : HD} {a : Addr} {o : MO} : hup H a o a = some o := by unfold hup; rw [if_pos rfl]
theorem hup_ne {H : HD} {a b : Addr} {o : MO} (h : b ≠ a) : hup H a o b = H b := by unfold hup; rw [if_neg h]
/-- all of the one stands in the other -/
def Sub (H H' : HD) : Prop := ∀ a o, H a = some o → H' a = some o
theorem Sub.refl {H : HD} : Sub H H := fun _ _ h => h
theorem Sub.trans {H H1 H2 : HD} (a : Sub H H1) (b : Sub H1 H2) : Sub H H2 := fun x o h => b x o (a x o h)
theorem Sub.hup {H : HD} {p : Addr} {o : MO} (h : H p = none) : Sub H (hup H p o) := fun a u e => by
  rw [hup_ne (fun z => by rw [z, h] at e; cases e)]; exact e
abbrev Sl := List (Option D)
abbrev VQ := D → HD → Prop
abbrev XQ := Nat → HD → Prop
section
variable (K : PySem.W.Frag) (G : Nat → Addr)
/-- a tuple that is read: tracked, or the module's own -/
def TupAt (H : Hp) (a : Addr) (xs : List V) : Prop :=
  H a = some (.tup xs) ∨ ∃ (o : Obj) (its : Array Value) (n : Nat), K.lookup a = some o ∧ o.cls = .type "tuple" ∧ o.data = .seq its n ∧ its.size ≤ sizeLine ∧ Vals xs its.toList
/-- a list that stays as it is: known to the object, or the module's own -/
def KlsAt (H : Hp) (a : Addr) (xs : List V) : Prop := (∃ o, H a = some (.frz o (.lst xs))) ∨
    ∃ (o : Obj) (its : Array Value) (n : Nat), K.lookup a = some o ∧ o.cls = .type "list" ∧ o.dict = none ∧ o.data = .seq its n ∧ its.size ≤ sizeLine ∧ Vals xs its.toList
/-- a key that may stand in data -/
def KeyG : Key → Prop
  | .inl _ => True
  | .inr s => StrG s
/-- a dict's keys and values -/
structure KdG (ks : List Key) (ds : List D) : Prop where
  len : ks.length = ds.length
  key : ∀ k ∈ ks, KeyG k
/-- a dict that stays as it is: known to the object -/
def KdcAt (H : Hp) (a : Addr) (kvs : List (Key × V)) : Prop := ∃ o, H a = some (.frz o (.dK kvs))
mutual
inductive RD (H : Hp) : D → V → Prop
  | non : RD H .non .non
  | bl (b : Bool) : RD H (.bl b) (.bl b)
  | int (i : Int) : RD H (.int i) (.int i)
  | str (s : Str) : StrG s → RD H (.str s) (.str s)
  | tup {a : Addr} {xs : List V} {ds : List D} : TupAt K H a xs → ds.length ≤ sizeLine → RDs H ds xs → RD H (.tup ds) (.ref a)
  | ref (a : Addr) : RD H (.ref a) (.ref a)
  | ty (n : String) : RD H (.ty n) (.ty n)
  | glo (g : Nat) : RD H (.glo g) (.ref (G g))
  | exc {c : Nat} {a : Addr} : H a = some (ExC (.ref (G c)) a) → RD H (.exc c) (.ref a)
  | kls {a : Addr} {xs : List V} {ds : List D} : KlsAt K H a xs → ds.length ≤ sizeLine → RDs H ds xs → RD H (.kls ds) (.ref a)
  | kdc {a : Addr} {ks : List Key} {xs : List V} {ds : List D} : KdcAt H a (ks.zip xs) → KdG ks ds → ds.length ≤ sizeLine → RDs H ds xs → RD H (.kdc ks ds) (.ref a)
inductive RDs (H : Hp) : List D → List V → Prop
  | nil : RDs H [] []
  | cons {d : D} {v : V} {ds : List D} {vs : List V} : RD H d v → RDs H ds vs → RDs H (d :: ds) (v :: vs)
end
/-- things that never change -/
def Imm : HO → Prop
  | .tup _ => True
  | .ext _ => True
  | .frz _ (.lst _) => True
  | .frz _ (.dK _) => True
  | _ => False
def Ext (H H' : Hp) : Prop := ∀ a o, H a = some o → Imm o → H' a = some o
theorem Ext.refl {H : Hp} : Ext H H := fun _ _ h _ => h
theorem Ext.trans {H H1 H2 : Hp} (a : Ext H H1) (b : Ext H1 H2) : Ext H H2 := fun x o h i => b x o (a x o h i) i
theorem Ext.new {H : Hp} {p : Addr} {o : HO} (h : H p = none) : Ext H (upd H p o) := fun a u e _ => by
  rw [upd_ne (ne_of_none e h)]; exact e
theorem Ext.wr {H : Hp} {p : Addr} {o u : HO} (h : H p = some u) (n : ¬ Imm u) : Ext H (upd H p o) := fun a w e i => by
  by_cases q : a = p
  · subst q; rw [h] at e; cases e; exact absurd i n
  · rw [upd_ne q]; exact e
variable {K G} {H H' : Hp}
theorem TupAt.ext {a : Addr} {xs : List V} (h : TupAt K H a xs) (e : Ext H H') : TupAt K H' a xs := by
  rcases h with h | h
  · exact .inl (e a _ h trivial)
  · exact .inr h
theorem TupAt.sq {a : Addr} {xs : List V} (h : TupAt K H a xs) : SqT K H a xs := by
  rcases h with h | h
  · exact .inl (.inl h)
  · exact .inr h
theorem KlsAt.ext {a : Addr} {xs : List V} (h : KlsAt K H a xs) (e : Ext H H') : KlsAt K H' a xs := by
  rcases h with ⟨o, h⟩ | h
  · exact .inl ⟨o, e a _ h trivial⟩
  · exact .inr h
theorem KlsAt.sq {a : Addr} {xs : List V} (h : KlsAt K H a xs) : SqL K H a xs := by
  rcases h with ⟨o, h⟩ | h
  · exact .inl (.inr ⟨o, h⟩)
  · exact .inr h
theorem KdcAt.ext {a : Addr} {kvs : List (Key × V)} (h : KdcAt H a kvs) (e : Ext H H') : KdcAt H' a kvs := by
  obtain ⟨o, h⟩ := h
  exact ⟨o, e a _ h trivial⟩
mutual
theorem RD.ext (e : Ext H H') : ∀ {d : D} {v : V}, RD K G H d v → RD K G H' d v
  | _, _, .non => .non
  | _, _, .bl b => .bl b
  | _, _, .int i => .int i
  | _, _, .str s h => .str s h
  | _, _, .tup h l r => .tup (h.ext e) l (RDs.ext e r)
  | _, _, .ref a => .ref a
  | _, _, .ty n => .ty n
  | _, _, .glo g => .glo g
  | _, _, .exc h => .exc (e _ _ h trivial)
  | _, _, .kls h l r => .kls (h.ext e) l (RDs.ext e r)
  | _, _, .kdc h n l r => .kdc (h.ext e) n l (RDs.ext e r)
theorem RDs.ext (e : Ext H H') : ∀ {ds : List D} {vs : List V}, RDs K G H ds vs → RDs K G H' ds vs
  | _, _, .nil => .nil
  | _, _, .cons h t => .cons (RD.ext e h) (RDs.ext e t)
end
theorem RDs.len : ∀ {ds : List D} {vs : List V}, RDs K G H ds vs → ds.length = vs.length
  | _, _, .nil => rfl
  | _, _, .cons _ t => by rw [List.length_cons, List.length_cons, RDs.len t]
theorem RDs.app : ∀ {ds es : List D} {vs ws : List V}, RDs K G H ds vs → RDs K G H es ws → RDs K G H (ds ++ es) (vs ++ ws)
  | _, _, _, _, .nil, q => q
  | _, _, _, _, .cons h t, q => .cons h (RDs.app t q)
theorem RDs.snoc {ds : List D} {vs : List V} {d : D} {v : V} (h : RDs K G H ds vs) (q : RD K G H d v) : RDs K G H (ds ++ [d]) (vs ++ [v]) := h.app (.cons q .nil)
theorem RDs.get : ∀ {ds : List D} {vs : List V} {i : Nat} {d : D}, RDs K G H ds vs → ds[i]? = some d → ∃ v, vs[i]? = some v ∧ RD K G H d v
  | _, _, i, d, .nil, e => by simp at e
  | _, _, 0, d, .cons h t, e => by simp at e; subst e; exact ⟨_, rfl, h⟩
  | _, _, i + 1, d, .cons h t, e => by
    obtain ⟨v, h1, h2⟩ := RDs.get (i := i) (d := d) t (by simpa using e)
    exact ⟨v, by simpa using h1, h2⟩
theorem RDs.get' : ∀ {ds : List D} {vs : List V} {i : Nat} {v : V}, RDs K G H ds vs → vs[i]? = some v → ∃ d, ds[i]? = some d ∧ RD K G H d v
  | _, _, i, d, .nil, e => by simp at e
  | _, _, 0, d, .cons h t, e => by simp at e; subst e; exact ⟨_, rfl, h⟩
  | _, _, i + 1, d, .cons h t, e => by
    obtain ⟨v, h1, h2⟩ := RDs.get' (i := i) (v := d) t (by simpa using e)
    exact ⟨v, by simpa using h1, h2⟩
theorem RDs.take : ∀ {ds : List D} {vs : List V} (n : Nat), RDs K G H ds vs → RDs K G H (ds.take n) (vs.take n)
  | _, _, 0, _ => .nil
  | _, _, _ + 1, .nil => .nil
  | _, _, n + 1, .cons h t => .cons h (RDs.take n t)
theorem RDs.drop : ∀ {ds : List D} {vs : List V} (n : Nat), RDs K G H ds vs → RDs K G H (ds.drop n) (vs.drop n)
  | _, _, 0, h => h
  | _, _, _ + 1, .nil => .nil
  | _, _, n + 1, .cons h t => RDs.drop n t
theorem RDs.set : ∀ {ds : List D} {vs : List V} {d : D} {v : V} (n : Nat), RDs K G H ds vs → RD K G H d v → RDs K G H (ds.set n d) (vs.set n v)
  | _, _, _, _, _, .nil, _ => .nil
  | _, _, _, _, 0, .cons _ t, q => .cons q t
  | _, _, _, _, n + 1, .cons h t, q => .cons h (RDs.set n t q)
theorem RDs.rev : ∀ {ds : List D} {vs : List V}, RDs K G H ds vs → RDs K G H ds.reverse vs.reverse
  | _, _, .nil => .nil
  | _, _, .cons h t => by rw [List.reverse_cons, List.reverse_cons]; exact (RDs.rev t).snoc h
theorem RDs.rep (n : Nat) {d : D} {v : V} (q : RD K G H d v) : RDs K G H (List.replicate n d) (List.replicate n v) := by
  induction n with
  | zero => exact .nil
  | succ n ih => rw [List.replicate_succ, List.replicate_succ]; exact .cons q ih
variable (K G)
def RK {κ : Type} (H : Hp) : List (κ × D) → List (κ × V) → Prop := Paired fun p q => p.1 = q.1 ∧ RD K G H p.2 q.2
variable {K G}
theorem RK.ext {κ : Type} (e : Ext H H') {ds : List (κ × D)} {vs : List (κ × V)} (h : RK K G H ds vs) : RK K G H' ds vs := Paired.mapP h fun _ _ z => ⟨z.1, z.2.ext e⟩
variable (K G)
def RM (H : Hp) (a : Addr) : MO → Prop
  | .lst ds => ∃ xs, H a = some (.lst xs) ∧ ds.length ≤ sizeLine ∧ RDs K G H ds xs
  | .dic kvs => ∃ vs, H a = some (.dK vs) ∧ kvs.length ≤ sizeLine ∧ RK K G H kvs vs ∧ ∀ p ∈ kvs, KeyG p.1
  | .ins c fs => ∃ dx gs, H a = some (.ins (G c) dx gs) ∧ RK K G H fs gs
def RH (H : Hp) (h : HD) : Prop := ∀ a m, h a = some m → RM K G H a m
variable {K G}
/-- the same, other things kept -/
theorem RM.ext (e : Ext H H') {a : Addr} {m : MO} (s : H' a = H a) (h : RM K G H a m) : RM K G H' a m := by
  cases m with
  | lst ds => obtain ⟨xs, h1, h2, h3⟩ := h; exact ⟨xs, s.trans h1, h2, h3.ext e⟩
  | dic kvs => obtain ⟨vs, h1, h2, h3, h4⟩ := h; exact ⟨vs, s.trans h1, h2, h3.ext e, h4⟩
  | ins c fs => obtain ⟨dx, gs, h1, h2⟩ := h; exact ⟨dx, gs, s.trans h1, h2.ext e⟩
theorem RM.there {a : Addr} {m : MO} (h : RM K G H a m) : ∃ o, H a = some o ∧ ¬ Imm o := by
  cases m with
  | lst ds => obtain ⟨xs, h1, _⟩ := h; exact ⟨_, h1, fun z => z⟩
  | dic kvs => obtain ⟨vs, h1, _⟩ := h; exact ⟨_, h1, fun z => z⟩
  | ins c fs => obtain ⟨dx, gs, h1, _⟩ := h; exact ⟨_, h1, fun z => z⟩
variable {h h' : HD}
theorem RH.none_of (r : RH K G H h) {p : Addr} (e : H p = none) : h p = none := by
  cases q : h p with
  | none => rfl
  | some m =>
    obtain ⟨o, z, _⟩ := (r p m q).there
    rw [z] at e; cases e
theorem RH.sub (r : RH K G H h) (s : Sub h' h) : RH K G H h' := fun a m e => r a m (s a m e)
/-- a new thing that isn't told -/
theorem RH.hid (r : RH K G H h) {p : Addr} {o : HO} (e : H p = none) : RH K G (upd H p o) h := fun a m z => by
  obtain ⟨u, hu, _⟩ := (r a m z).there
  exact (r a m z).ext (Ext.new e) (upd_ne (ne_of_none hu e))
/-- a store to a thing that isn't told -/
theorem RH.hidw (r : RH K G H h) {p : Addr} {o u : HO} (e : H p = some u) (n : ¬ Imm u) (q : h p = none) : RH K G (upd H p o) h := fun a m z => by
  have ne : a ≠ p := fun w => by subst w; rw [q] at z; cases z
  exact (r a m z).ext (Ext.wr e n) (upd_ne ne)
/-- a new thing -/
theorem RH.new (r : RH K G H h) {p : Addr} {o : HO} {m : MO} (e : H p = none) (q : RM K G (upd H p o) p m) : RH K G (upd H p o) (hup h p m) := fun a m' z => by
  by_cases ap : a = p
  · subst ap; rw [hup_same] at z; cases z; exact q
  · rw [hup_ne ap] at z; exact r.hid e a m' z
/-- a store -/
theorem RH.wr (r : RH K G H h) {p : Addr} {o u : HO} {m : MO} (e : H p = some u) (n : ¬ Imm u) (q : RM K G (upd H p o) p m) : RH K G (upd H p o) (hup h p m) := fun a m' z => by
  by_cases ap : a = p
  · subst ap; rw [hup_same] at z; cases z; exact q
  · rw [hup_ne ap] at z; exact (r a m' z).ext (Ext.wr e n) (upd_ne ap)
theorem RH.newL (r : RH K G H h) {p : Addr} {xs : List V} {ds : List D} (e : H p = none) (l : ds.length ≤ sizeLine) (q : RDs K G H ds xs) : RH K G (upd H p (.lst xs)) (hup h p (.lst ds)) :=
  r.new e ⟨xs, upd_same, l, q.ext (Ext.new e)⟩
theorem RH.wrL (r : RH K G H h) {p : Addr} {xs : List V} {ds : List D} {u : HO} (e : H p = some u) (n : ¬ Imm u) (l : ds.length ≤ sizeLine) (q : RDs K G H ds xs) : RH K G (upd H p (.lst xs)) (hup h p (.lst ds)) :=
  r.wr e n ⟨xs, upd_same, l, q.ext (Ext.wr e n)⟩
/-! ### slots -/
variable (K G)
def RS (H : Hp) : Sl → L2.St → Prop := Paired fun d v => ∀ x, d = some x → ∃ y, v = some y ∧ RD K G H x y
variable {K G}
theorem RS.ext (e : Ext H H') {a : Sl} {b : L2.St} (h : RS K G H a b) : RS K G H' a b := Paired.mapP h fun _ _ z x q => let ⟨y, e1, e2⟩ := z x q; ⟨y, e1, e2.ext e⟩
theorem RS.get : ∀ {a : Sl} {b : L2.St} {i : Nat} {d : D}, RS K G H a b → a[i]? = some (some d) → ∃ v, b[i]? = some (some v) ∧ RD K G H d v
  | _, _, i, d, .nil, e => by simp at e
  | _, _, 0, d, .cons h t, e => by
    simp at e
    obtain ⟨y, e1, e2⟩ := h d e
    exact ⟨y, by simp [e1], e2⟩
  | _, _, i + 1, d, .cons h t, e => by
    obtain ⟨v, h1, h2⟩ := RS.get (i := i) (d := d) t (by simpa using e)
    exact ⟨v, by simpa using h1, h2⟩
theorem RS.set : ∀ {a : Sl} {b : L2.St} {d : D} {v : V} (i : Nat), RS K G H a b → RD K G H d v → RS K G H (a.set i (some d)) (b.set i (some v))
  | _, _, _, _, _, .nil, _ => .nil
  | _, _, _, _, 0, .cons _ t, q => .cons (fun x e => by cases e; exact ⟨_, rfl, q⟩) t
  | _, _, _, _, n + 1, .cons h t, q => .cons h (RS.set n t q)
theorem RS.clr : ∀ {a : Sl} {b : L2.St} (i : Nat), RS K G H a b → RS K G H (a.set i none) (b.set i none)
  | _, _, _, .nil => .nil
  | _, _, 0, .cons _ t => .cons (fun x e => by cases e) t
  | _, _, n + 1, .cons h t => .cons h (RS.clr n t)
theorem RS.wipe {a : Sl} {b : L2.St} (h : RS K G H a b) : ∀ l : List Nat, ∃ c : Sl, RS K G H c (L2.wipe b l) ∧ c = l.foldr (fun i z => z.set i none) a
  | [] => ⟨a, h, rfl⟩
  | i :: l => by
    obtain ⟨c, h1, rfl⟩ := RS.wipe h l
    exact ⟨_, h1.clr i, rfl⟩
end
end Nd
/-! Ne3: a tuple once. -/
namespace Nd
open PySem PySem.Spec PyProof.Rows L2
theorem tuple_once (l : Addr) (items : Array Value) (n : Nat) (dd : Option Addr) (sl : Array (Option Value)) (u : Tok) :
    Meets (Builtin.«tuple.__mul__» ⟨[.ref l, .int 1 u], []⟩) (fun _ R s => s.heap.get? l = some { cls := .type "tuple", dict := dd, data := .seq items n, slots := sl } ∧ R (.ok (.ret (Value.ref l))) s) :=
  .of_wp fun prog w A R s h => by
    obtain ⟨hp, g, d, tk, os⟩ := s
    obtain ⟨hl, h⟩ := h
    have f1 := AutoSeq1.idx_int
    wp_walk using wpAny_loadPart' hl
    exact ⟨_, rfl, h⟩
section
variable {X : Cx}
theorem op_once : OpR X (binaryOp .Mult) (fun x y H Q => ∃ l xs, x = .ref l ∧ y = .int 1 ∧ SqT X.K H l xs ∧ Q (.ref l) H) := by
  intro pins s σ H x y v u Q I rx ry ⟨l, xs, e1, e2, hT, q⟩
  subst e1 e2
  cases rx
  obtain ⟨t, rfl⟩ := ry
  obtain ⟨its, r, ⟨⟨cls, dd, data, sl⟩, ho, hc, n, hd⟩, hs⟩ := I.tuple hT
  dsimp only at hc hd
  subst hc hd
  exact wpAny_binaryOp_repeat_ref (T := "tuple") (U := "int") (by decide) ⟨_, ho, rfl⟩ (fun s' => typeIs_int s' 1 t) noFill_tuple_mul F.fills_int_mul F.slot_int_rmul repeat_tuple F.slot_int_index.lookup
    (call_meets F.slot_int_rmul (typeIs_int s 1 t) F.entry_int_rmul (F.args_int_rmul_2 _ _) (int_rmul_tuple 1 t l its.toArray n dd sl)
      ⟨ho, rfl, ⟨_, ho, rfl⟩, call_meets F.slot_tuple_mul ⟨_, ho, rfl⟩ F.entry_tuple_mul (F.args_tuple_mul_2 _ _) (tuple_once l its.toArray n dd sl t) ⟨ho, ⟨.ref l, H, I, rfl, q⟩⟩⟩)
end
end Nd
/-! Nd2: the lifts, and operators on data. -/
namespace Nd
open PySem PySem.Spec PyProof.Rows L2
abbrev TED := Sl → HD → VQ → XQ → Prop
abbrev TTD := Sl → HD → (Bool → HD → Prop) → XQ → Prop
abbrev TAD := Sl → HD → (List D → HD → Prop) → XQ → Prop
abbrev OpD := D → D → HD → VQ → Prop
/-- what code may have changed: what never changes and what isn't told stands as it stood; what is told anew is new -/
structure Fx (H : Hp) (h : HD) (H' : Hp) (h' : HD) : Prop where
  st : ∀ a o, H a = some o → (h a = none ∨ Imm o) → H' a = some o
  nw : ∀ a, H a ≠ none → h a = none → h' a = none
  dm : ∀ a, H a ≠ none → H' a ≠ none
theorem Fx.refl {H : Hp} {h : HD} : Fx H h H h := ⟨fun _ _ e _ => e, fun _ _ e => e, fun _ e => e⟩
theorem Fx.trans {H H1 H2 : Hp} {h h1 h2 : HD} (a : Fx H h H1 h1) (b : Fx H1 h1 H2 h2) : Fx H h H2 h2 where
  st := fun x o e c => b.st x o (a.st x o e c) (c.elim (fun z => .inl (a.nw x (by rw [e]; exact fun q => nomatch q) z)) .inr)
  nw := fun x e z => b.nw x (a.dm x e) (a.nw x e z)
  dm := fun x e => b.dm x (a.dm x e)
theorem Fx.ext {H H' : Hp} {h h' : HD} (a : Fx H h H' h') : Ext H H' := fun x o e i => a.st x o e (.inr i)
theorem upd_dm {H : Hp} {p a : Addr} {o : HO} (e : H a ≠ none) : upd H p o a ≠ none := by
  by_cases q : a = p
  · subst q; rw [upd_same]; exact fun z => nomatch z
  · rw [upd_ne q]; exact e
theorem Fx.new {H : Hp} {h : HD} {p : Addr} {o : HO} (e : H p = none) : Fx H h (upd H p o) h := ⟨fun a u q _ => by rw [upd_ne (ne_of_none q e)]; exact q, fun _ _ z => z, fun _ z => upd_dm z⟩
theorem Fx.newM {H : Hp} {h : HD} {p : Addr} {o : HO} {m : MO} (e : H p = none) : Fx H h (upd H p o) (hup h p m) :=
  ⟨fun a u q _ => by rw [upd_ne (ne_of_none q e)]; exact q, fun a q z => by
    have ne : a ≠ p := fun w => by subst w; exact q e
    rw [hup_ne ne]; exact z, fun _ z => upd_dm z⟩
theorem Fx.wr {H : Hp} {h : HD} {p : Addr} {o u : HO} {m m' : MO} (e : h p = some m) (e2 : H p = some u) (n : ¬ Imm u) : Fx H h (upd H p o) (hup h p m') :=
  ⟨fun a w q c => by
    have ne : a ≠ p := fun z => by
      subst z
      rcases c with c | c
      · rw [e] at c; cases c
      · rw [e2] at q; cases q; exact n c
    rw [upd_ne ne]; exact q, fun a q z => by
    have ne : a ≠ p := fun w => by subst w; rw [e] at z; cases z
    rw [hup_ne ne]; exact z, fun _ z => upd_dm z⟩
theorem Fx.sub {H : Hp} {h h' : HD} (s : Sub h' h) : Fx H h H h' where
  st := fun _ _ e _ => e
  nw := fun a _ z => by
    cases q : h' a with
    | none => rfl
    | some m => rw [s a m q] at z; cases z
  dm := fun _ z => z
/-- a store to a thing that is new and isn't told -/
theorem Fx.hidw {H H' : Hp} {h h' : HD} {p : Addr} {o : HO} (f : Fx H h H' h') (e : H p = none) : Fx H h (upd H' p o) h' :=
  ⟨fun a u q c => by rw [upd_ne (ne_of_none q e)]; exact f.st a u q c, f.nw, fun a z => upd_dm (f.dm a z)⟩
section
variable (K : PySem.W.Frag) (G : Nat → Addr)
/-- what is wanted of data is what is wanted of values -/
def Cont (H : Hp) (h : HD) (q : VQ) (Q : VK) : Prop := ∀ d h' v H', Fx H h H' h' → RD K G H' d v → RH K G H' h' → q d h' → Q v H'
def ContB (H : Hp) (h : HD) (q : Bool → HD → Prop) (Q : Bool → Hp → Prop) : Prop := ∀ b h' H', Fx H h H' h' → RH K G H' h' → q b h' → Q b H'
def ContL (H : Hp) (h : HD) (q : List D → HD → Prop) (Q : List V → Hp → Prop) : Prop := ∀ ds h' vs H', Fx H h H' h' → RDs K G H' ds vs → RH K G H' h' → q ds h' → Q vs H'
def ContX (W : WX) (σ : L2.St) (H : Hp) (h : HD) (r : XQ) : Prop := ∀ c h' H', Fx H h H' h' → RH K G H' h' → r c h' → W (.ref (G c)) none σ H'
def lift (W : WX) (t : TED) : TE := fun σ H Q => ∃ a h q r, RS K G H a σ ∧ RH K G H h ∧ t a h q r ∧ Cont K G H h q Q ∧ ContX K G W σ H h r
def liftT (W : WX) (t : TTD) : TT := fun σ H Q => ∃ a h q r, RS K G H a σ ∧ RH K G H h ∧ t a h q r ∧ ContB K G H h q Q ∧ ContX K G W σ H h r
def liftA (W : WX) (t : TAD) : TA := fun σ H Q => ∃ a h q r, RS K G H a σ ∧ RH K G H h ∧ t a h q r ∧ ContL K G H h q Q ∧ ContX K G W σ H h r
/-- an operator on data, on values -/
def lop (r : OpD) : R2 := fun x y H Q => ∃ d e h q, RD K G H d x ∧ RD K G H e y ∧ RH K G H h ∧ r d e h q ∧ Cont K G H h q Q
def lun (r : D → HD → VQ → Prop) : V → Hp → VK → Prop := fun x H Q => ∃ d h q, RD K G H d x ∧ RH K G H h ∧ r d h q ∧ Cont K G H h q Q
def lcall (r : List D → HD → VQ → Prop) : List V → Hp → VK → Prop := fun xs H Q => ∃ ds h q, RDs K G H ds xs ∧ RH K G H h ∧ r ds h q ∧ Cont K G H h q Q
variable {K G}
theorem Cont.ext {H H' : Hp} {h h' : HD} {q : VQ} {Q : VK} (k : Cont K G H h q Q) (e : Fx H h H' h') : Cont K G H' h' q Q := fun d h2 v H2 e2 => k d h2 v H2 (e.trans e2)
theorem ContB.ext {H H' : Hp} {h h' : HD} {q : Bool → HD → Prop} {Q : Bool → Hp → Prop} (k : ContB K G H h q Q) (e : Fx H h H' h') : ContB K G H' h' q Q := fun d h2 H2 e2 => k d h2 H2 (e.trans e2)
theorem ContL.ext {H H' : Hp} {h h' : HD} {q : List D → HD → Prop} {Q : List V → Hp → Prop} (k : ContL K G H h q Q) (e : Fx H h H' h') : ContL K G H' h' q Q := fun d h2 v H2 e2 => k d h2 v H2 (e.trans e2)
theorem ContX.ext {W : WX} {σ : L2.St} {H H' : Hp} {h h' : HD} {r : XQ} (k : ContX K G W σ H h r) (e : Fx H h H' h') : ContX K G W σ H' h' r := fun c h2 H2 e2 => k c h2 H2 (e.trans e2)
end
theorem PE.imp {X : Cx} {e : Expr} {t t' : TE} (h : PE X e t) (i : ∀ σ H Q, t' σ H Q → t σ H Q) : PE X e t' := ⟨fun p s σ H Q I q => h.run p s σ H Q I (i σ H Q q)⟩
theorem PT.imp {X : Cx} {e : Expr} {t t' : TT} (h : PT X e t) (i : ∀ σ H Q, t' σ H Q → t σ H Q) : PT X e t' := ⟨fun p s σ H Q I q => h.run p s σ H Q I (i σ H Q q)⟩
theorem PA.imp {X : Cx} {e : List Expr} {t t' : TA} (h : PA X e t) (i : ∀ σ H Q, t' σ H Q → t σ H Q) : PA X e t' := ⟨fun o p s σ H Q I q => h.run o p s σ H Q I (i σ H Q q)⟩
theorem OpR.imp {X : Cx} {f : Value → Value → Sem Value} {t t' : R2} (h : OpR X f t) (i : ∀ x y H Q, t' x y H Q → t x y H Q) : OpR X f t' := fun p s σ H x y v u Q I r1 r2 q => h p s σ H x y v u Q I r1 r2 (i _ _ _ _ q)
/-! ### heaps read as data -/
mutual
inductive Py (h : HD) : D → PyData → Prop
  | non : Py h .non .none
  | bl (b : Bool) : Py h (.bl b) (.bool b)
  | int (i : Int) : Py h (.int i) (.int i)
  | str (s : Str) : Py h (.str s) (.str s)
  | tup {ds : List D} {xs : List PyData} : Pys h ds xs → Py h (.tup ds) (.tuple xs)
  | lst {a : Addr} {ds : List D} {xs : List PyData} : h a = some (.lst ds) → Pys h ds xs → Py h (.ref a) (.list xs)
  | kls {ds : List D} {xs : List PyData} : Pys h ds xs → Py h (.kls ds) (.list xs)
inductive Pys (h : HD) : List D → List PyData → Prop
  | nil : Pys h [] []
  | cons {d : D} {x : PyData} {ds : List D} {xs : List PyData} : Py h d x → Pys h ds xs → Pys h (d :: ds) (x :: xs)
end
section
variable {K : PySem.W.Frag} {G : Nat → Addr} {H : Hp} {h : HD}
mutual
theorem Py.dp (rh : RH K G H h) : ∀ {d : D} {x : PyData} {v : V}, Py h d x → RD K G H d v → Dp K H v x
  | _, _, _, .non, .non => .non
  | _, _, _, .bl b, .bl _ => .bl b
  | _, _, _, .int i, .int _ => .int i
  | _, _, _, .str s, .str _ _ => .str s
  | _, _, _, .tup p, .tup t _ r => .tup t.sq (Pys.dp rh p r)
  | _, _, _, .lst e p, r => by
    cases r
    obtain ⟨xs, h1, _, h3⟩ := rh _ _ e
    exact .lst (.inl (.inl h1)) (Pys.dp rh p h3)
  | _, _, _, .kls p, .kls t _ r => .lst t.sq (Pys.dp rh p r)
theorem Pys.dp (rh : RH K G H h) : ∀ {ds : List D} {xs : List PyData} {vs : List V}, Pys h ds xs → RDs K G H ds vs → DpAll K H vs xs
  | _, _, _, .nil, .nil => .nil
  | _, _, _, .cons p ps, .cons r rs => .cons (Py.dp rh p r) (Pys.dp rh ps rs)
end
mutual
theorem Py.lay (rh : RH K G H h) : ∀ {d : D} {x : PyData} {v : V}, Py h d x → RD K G H d v → x.canLay0 = true
  | _, _, _, .non, .non => rfl
  | _, _, _, .bl b, .bl _ => rfl
  | _, _, _, .int i, .int _ => rfl
  | _, _, _, .str s, .str _ g => g.2
  | _, _, _, .tup p, .tup t _ r => Pys.lay rh p r
  | _, _, _, .lst e p, r => by
    cases r
    obtain ⟨xs, h1, _, h3⟩ := rh _ _ e
    exact Pys.lay rh p h3
  | _, _, _, .kls p, .kls t _ r => Pys.lay rh p r
theorem Pys.lay (rh : RH K G H h) : ∀ {ds : List D} {xs : List PyData} {vs : List V}, Pys h ds xs → RDs K G H ds vs → PyData.canLayAll0 xs = true
  | _, _, _, .nil, .nil => rfl
  | _, _, _, .cons p ps, .cons r rs => by
    show (_ && _) = true
    rw [Py.lay rh p r, Pys.lay rh ps rs]; rfl
end
end
/-! ### operators -/
/-- a list's or a tuple's content -/
def seqOf (h : HD) : D → Option (List D)
  | .tup xs => some xs
  | .kls xs => some xs
  | .ref a => match h a with
    | some (.lst xs) => some xs
    | _ => none
  | _ => none
/-- a list's content -/
def lstOf (h : HD) : D → Option (List D)
  | .kls xs => some xs
  | .ref a => match h a with
    | some (.lst xs) => some xs
    | _ => none
  | _ => none
def addV : OpD := fun x y h Q => match x, y with
  | .int i, .int j => Q (.int (i + j)) h
  | .str s, .str t => s.length + t.length ≤ sizeLine ∧ Q (.str (s ++ t)) h
  | .tup a, .tup b => a.length + b.length ≤ sizeLine ∧ Q (.tup (a ++ b)) h
  | x, y => match lstOf h x, lstOf h y with
    | some xs, some ys => xs.length + ys.length ≤ sizeLine ∧ ∀ p, h p = none → Q (.ref p) (hup h p (.lst (xs ++ ys)))
    | _, _ => False
def subV : OpD := fun x y h Q => match x, y with
  | .int i, .int j => Q (.int (i - j)) h
  | _, _ => False
def mulV : OpD := fun x y h Q => match x, y with
  | .int i, .int j => CMul i j ∧ Q (.int (i * j)) h
  | .tup xs, .int k => (xs ≠ [] ∧ 1 ≤ k ∧ k ≤ 1000 ∧ xs.length ≤ 1000) ∧ Q (.tup (List.replicate k.toNat xs).flatten) h
  | .ref a, .int k => match h a with
    | some (.lst xs) => (-(2 ^ 63) ≤ k ∧ k < 2 ^ 63 ∧ xs.length * k.toNat ≤ sizeLine) ∧ ∀ p, h p = none → Q (.ref p) (hup h p (.lst (List.replicate k.toNat xs).flatten))
    | _ => False
  | _, _ => False
def divV : OpD := fun x y h Q => match x, y with
  | .int i, .int j => (0 < j ∧ j < 2 ^ 64) ∧ Q (.int (i / j)) h
  | _, _ => False
def modV : OpD := fun x y h Q => match x, y with
  | .int i, .int j => 0 < j ∧ Q (.int (i % j)) h
  | _, _ => False
def powV : OpD := fun x y h Q => match x, y with
  | .int i, .int j => CPow i j ∧ Q (.int (i ^ j.toNat)) h
  | _, _ => False
/-- lists of unlike lengths -/
def lenNe (x y : D) (h : HD) (Q : VQ) : Prop := ∃ xs ys, lstOf h x = some xs ∧ lstOf h y = some ys ∧ xs.length ≠ ys.length ∧ Q (.bl false) h
def eqV : OpD := fun x y h Q => match x, y with
  | .int i, .int j => Q (.bl (decide (i = j))) h
  | .str s, .str t => Q (.bl (decide (s = t))) h
  | .bl s, .bl t => Q (.bl (decide (s = t))) h
  | x, y => (∃ p q, Py h x p ∧ Py h y q ∧ p.depth ≤ 64 ∧ q.depth ≤ 64 ∧ Q (.bl (PyData.eqv p q)) h) ∨ lenNe x y h Q
def neV : OpD := fun x y h Q => eqV x y h fun z h' => ∃ b, z = .bl b ∧ Q (.bl (!b)) h'
def ordV (ci : Int → Int → Bool) (cs : Str → Str → Bool) (cd : PyData → PyData → Bool) : OpD := fun x y h Q => match x, y with
  | .int i, .int j => Q (.bl (ci i j)) h
  | .str s, .str t => Q (.bl (cs s t)) h
  | .tup xs, .tup ys => ∃ p q, Py h (.tup xs) p ∧ Py h (.tup ys) q ∧ PySem.W.alike p q = true ∧ p.depth ≤ 64 ∧ Q (.bl (cd p q)) h
  | _, _ => False
def strLt (s t : Str) : Bool := decide (s.cps.toList < t.cps.toList)
def ltV : OpD := ordV (fun i j => decide (i < j)) strLt PySem.W.dataLt
def gtV : OpD := ordV (fun i j => decide (j < i)) (fun s t => strLt t s) fun p q => PySem.W.dataLt q p
def leV : OpD := ordV (fun i j => decide (i ≤ j)) (fun s t => !strLt t s) fun p q => !PySem.W.dataLt q p
def geV : OpD := ordV (fun i j => decide (j ≤ i)) (fun s t => !strLt s t) fun p q => !PySem.W.dataLt p q
/-- is: None, and truths -/
def isNon : D → Bool
  | .non => true
  | _ => false
def isV : OpD := fun x y h Q => match y with
  | .non => Q (.bl (isNon x)) h
  | .bl b => match x with
    | .bl a => Q (.bl (decide (a = b))) h
    | _ => False
  | _ => False
def isnV : OpD := fun x y h Q => match y with
  | .non => Q (.bl (!isNon x)) h
  | .bl b => match x with
    | .bl a => Q (.bl (!decide (a = b))) h
    | _ => False
  | _ => False
/-- the length's twin of a comparison with a flat thing -/
def flatD : D → Bool
  | .non => true
  | .bl _ => true
  | .int _ => true
  | .str _ => true
  | _ => false
def eqF : D → D → Bool
  | .non, .non => true
  | .bl a, .bl b => a == b
  | .bl a, .int b => (if a then 1 else 0) == b
  | .int a, .bl b => a == (if b then 1 else 0)
  | .int a, .int b => a == b
  | .str a, .str b => a == b
  | _, _ => false
def inF (x : D) (xs : List D) : Bool := xs.any fun y => eqF y x
/-- x in y: a sequence, a dict, a text -/
def keyD : D → Option Key
  | .int i => some (.inl i)
  | .str s => some (.inr s)
  | _ => none
def lookK (kvs : List (Key × D)) (k : Key) : Option D := (kvs.find? fun kv => decide (kv.1 = k)).map (·.2)
def inV : OpD := fun x y h Q => match y with
  | .str t => match x with
    | .str s => Q (.bl (!(Builtin.Str.occurrences t s 0 t.length 1).isEmpty)) h
    | _ => False
  | y => match seqOf h y with
    | some xs => (flatD x = true ∧ xs.all flatD = true ∧ Q (.bl (inF x xs)) h) ∨
        (∃ p ps, Py h x p ∧ Pys h xs ps ∧ p.depth ≤ 64 ∧ PyData.depthAll ps < 64 ∧ (lstOf h y).isSome = true ∧ Q (.bl (ps.any fun z => PyData.eqv z p)) h)
    | none => match y with
      | .ref a => match h a with
        | some (.dic kvs) => match keyD x with
          | some k => Q (.bl (lookK kvs k).isSome) h
          | none => False
        | _ => False
      | .kdc ks xs => match keyD x with
        | some k => Q (.bl (lookK (ks.zip xs) k).isSome) h
        | none => False
      | _ => False
def ninV : OpD := fun x y h Q => inV x y h fun z h' => ∃ b, z = .bl b ∧ Q (.bl (!b)) h'
end Nd
/-! Nd3: operators on data are sound. -/
namespace Nd
open PySem PySem.Spec PyProof.Rows L2
section
variable {X : Cx} {G : Nat → Addr}
theorem strG_app {s t : Str} (a : StrG s) (b : StrG t) (l : s.length + t.length ≤ sizeLine) : StrG (s ++ t) := by
  refine ⟨?_, ?_⟩
  · have e : (s ++ t).length = s.length + t.length := by
      show (s.cps ++ t.cps).size = s.cps.size + t.cps.size
      exact Array.size_append
    rw [e]; exact l
  · have h1 : s.cps.all (· < 0x110000) = true := a.2
    have h2 : t.cps.all (· < 0x110000) = true := b.2
    show (s.cps ++ t.cps).all (· < 0x110000) = true
    rw [Array.all_append, h1, h2]; rfl
theorem lst_sq {K : PySem.W.Frag} {H : Hp} {h : HD} (hh : RH K G H h) {d : D} {x : V} {ds : List D} (r : RD K G H d x) (e : lstOf h d = some ds) : ∃ p xs, x = .ref p ∧ SqL K H p xs ∧ RDs K G H ds xs ∧ ds.length ≤ sizeLine := by
  cases r with
  | kls t l r => cases e; exact ⟨_, _, rfl, t.sq, r, l⟩
  | ref a =>
    unfold lstOf at e
    dsimp only at e
    split at e
    · rename_i xs ea; cases e
      obtain ⟨vs, h1, h2, h3⟩ := hh a _ ea
      exact ⟨a, vs, rfl, .inl (.inl h1), h3, h2⟩
    · cases e
  | _ => cases e
/-- list + list, of any kind -/
theorem op_catL : OpR X (binaryOp .Add) (fun x y H Q => ∃ l b xs zs, x = .ref l ∧ y = .ref b ∧ SqL X.K H l xs ∧ SqL X.K H b zs ∧ xs.length + zs.length ≤ sizeLine ∧ ∀ p, H p = none → Q (.ref p) (upd H p (.lst (xs ++ zs)))) := by
  intro pins s σ H x y v u Q I rx ry h
  obtain ⟨l, b, xs, zs, rfl, rfl, hH, hB, hz, q⟩ := h
  cases rx
  cases ry
  obtain ⟨its, r, pt, hz1⟩ := I.list hH
  obtain ⟨its2, r2, pt2, hz2⟩ := I.list hB
  have l1 := r.length
  have l2 := r2.length
  obtain ⟨⟨cls, dd, data, sl⟩, ho, hc, n, hd⟩ := id pt.isList
  obtain ⟨⟨cls2, dd2, data2, sl2⟩, ho2, hc2, n2, hd2⟩ := id pt2.isList
  simp only at hc hd hc2 hd2
  subst hc hd hc2 hd2
  have e : its.toArray ++ its2.toArray = (its ++ its2).toArray := by simp
  refine concat_meets ⟨_, ho, rfl⟩ ⟨_, ho2, rfl⟩ noFill_list_add seq_list_add PySem.F.slot_list_add PySem.F.entry_list_add (PySem.F.args_list_add_2 _ _) (PyProof.Rows.list_addW l b its.toArray its2.toArray n n2 dd dd2 sl sl2 (by rw [List.size_toArray, List.size_toArray]; omega)) ⟨ho, ho2, ?_⟩
  rw [e]
  exact ⟨.ref _, _, I.lnew (t' := s.toks) (r.append r2) (by rw [List.length_append]; omega), rfl, q _ I.fresh⟩
theorem add_gen {pins s σ H x y v u Q} (I : Inv X pins σ H s) (rx : RelV x v) (ry : RelV y u) {d e : D} {h : HD} {q : VQ} (hd : RD X.K G H d x) (he : RD X.K G H e y) (hh : RH X.K G H h)
    (hr : match lstOf h d, lstOf h e with
      | some xs, some ys => xs.length + ys.length ≤ sizeLine ∧ ∀ p, h p = none → q (.ref p) (hup h p (.lst (xs ++ ys)))
      | _, _ => False) (k : Cont X.K G H h q Q) : wpAny (model X.prog X.w) X.A (binaryOp .Add v u) (EP X pins σ Q) X.xe s := by
  split at hr
  · rename_i xs ys ea eb
    obtain ⟨p, vs, rfl, e1, r1, l1⟩ := lst_sq hh hd ea
    obtain ⟨p2, ws, rfl, e2, r2, l2⟩ := lst_sq hh he eb
    have z1 := r1.len
    have z2 := r2.len
    refine op_catL pins s σ H _ _ v u Q I rx ry ⟨p, p2, vs, ws, rfl, rfl, e1, e2, by omega, fun p np => ?_⟩
    exact k _ _ _ _ (Fx.newM np) (.ref p) (hh.newL np (by rw [List.length_append]; exact hr.1) (r1.app r2)) (hr.2 p (hh.none_of np))
  · exact False.elim hr
theorem s_add : OpR X (binaryOp .Add) (lop X.K G addV) := by
  intro pins s σ H x y v u Q I rx ry ⟨d, e, h, q, hd, he, hh, hr, k⟩
  cases hd with
  | int i => cases he with
    | int j => exact op_add pins s σ H _ _ v u Q I rx ry ⟨i, j, rfl, rfl, k _ _ _ _ Fx.refl (.int _) hh hr⟩
    | _ => exact False.elim hr
  | str z g => cases he with
    | str y g' => exact op_add_str pins s σ H _ _ v u Q I rx ry ⟨z, y, rfl, rfl, hr.1, k _ _ _ _ Fx.refl (.str _ (strG_app g g' hr.1)) hh hr.2⟩
    | _ => exact False.elim hr
  | @tup a xs ds t l r => cases he with
    | @tup b ys es t' l' r' =>
      have hr : ds.length + es.length ≤ sizeLine ∧ q (.tup (ds ++ es)) h := hr
      have e1 := r.len
      have e2 := r'.len
      refine op_catA pins s σ H _ _ v u Q I rx ry ⟨a, b, xs, ys, rfl, rfl, t.sq, t'.sq, by omega, fun z => ?_, fun _ z => ?_, fun _ _ p np => ?_⟩
      · subst z
        cases r
        exact k _ _ _ _ Fx.refl (.tup t' l' r') hh hr.2
      · subst z
        cases r'
        refine k (.tup (ds ++ [])) _ _ _ Fx.refl ?_ hh hr.2
        rw [List.append_nil]
        exact .tup t l r
      · refine k (.tup (ds ++ es)) _ _ _ (Fx.new np) (.tup (.inl upd_same) ?_ ((r.app r').ext (Ext.new np))) (hh.hid np) hr.2
        rw [List.length_append]; exact hr.1
    | _ => exact False.elim hr
  | ref a => exact add_gen I rx ry (.ref a) he hh hr k
  | kls t l r => exact add_gen I rx ry (.kls t l r) he hh hr k
  | _ => exact False.elim hr
theorem s_sub : OpR X (binaryOp .Sub) (lop X.K G subV) := by
  intro pins s σ H x y v u Q I rx ry ⟨d, e, h, q, hd, he, hh, hr, k⟩
  cases hd with
  | int i => cases he with
    | int j => exact op_sub pins s σ H _ _ v u Q I rx ry ⟨i, j, rfl, rfl, k _ _ _ _ Fx.refl (.int _) hh hr⟩
    | _ => exact False.elim hr
  | _ => exact False.elim hr
theorem RDs.flat {K : PySem.W.Frag} {H : Hp} {ds : List D} {xs : List V} (r : RDs K G H ds xs) : ∀ n : Nat, RDs K G H (List.replicate n ds).flatten (List.replicate n xs).flatten
  | 0 => .nil
  | n + 1 => by
    rw [List.replicate_succ, List.replicate_succ, List.flatten_cons, List.flatten_cons]
    exact r.app (RDs.flat r n)
theorem rep_len {α : Type} (xs : List α) : ∀ n : Nat, (List.replicate n xs).flatten.length = xs.length * n
  | 0 => by simp
  | n + 1 => by rw [List.replicate_succ, List.flatten_cons, List.length_append, rep_len xs n, Nat.mul_succ]; omega
theorem s_mul : OpR X (binaryOp .Mult) (lop X.K G mulV) := by
  intro pins s σ H x y v u Q I rx ry ⟨d, e, h, q, hd, he, hh, hr, k⟩
  cases hd with
  | int i => cases he with
    | int j => exact op_mul pins s σ H _ _ v u Q I rx ry ⟨i, j, rfl, rfl, hr.1, k _ _ _ _ Fx.refl (.int _) hh hr.2⟩
    | _ => exact False.elim hr
  | @tup a xs ds t l r => cases he with
    | int j =>
      obtain ⟨⟨h1, h2, h3, h4⟩, hr⟩ := (show (ds ≠ [] ∧ 1 ≤ j ∧ j ≤ 1000 ∧ ds.length ≤ 1000) ∧ q (.tup (List.replicate j.toNat ds).flatten) h from hr)
      have e1 := r.len
      by_cases hj : j = 1
      · subst hj
        have e : (List.replicate (1 : Int).toNat ds).flatten = ds := by simp
        rw [e] at hr
        exact op_once pins s σ H _ _ v u Q I rx ry ⟨a, xs, rfl, rfl, t.sq, k _ _ _ _ Fx.refl (.tup t l r) hh hr⟩
      refine op_repT pins s σ H _ _ v u Q I rx ry ⟨a, j, xs, rfl, rfl, t.sq, fun z => h1 (by subst z; cases r; rfl), by omega, h3, by omega, fun p np => ?_⟩
      refine k _ _ _ _ (Fx.new np) (.tup (.inl upd_same) ?_ ((r.flat _).ext (Ext.new np))) (hh.hid np) hr
      rw [rep_len]
      have a1 : ds.length * j.toNat ≤ 1000 * 1000 := Nat.mul_le_mul h4 (by omega)
      have : sizeLine = 16777216 := rfl
      omega
    | _ => exact False.elim hr
  | ref a => cases he with
    | int j =>
      unfold mulV at hr
      dsimp only at hr
      split at hr
      · rename_i xs ea
        obtain ⟨vs, e1, l1, r1⟩ := hh a _ ea
        obtain ⟨⟨h1, h2, h3⟩, hr⟩ := hr
        have z1 := r1.len
        refine op_rep pins s σ H _ _ v u Q I rx ry ⟨a, j, vs, rfl, rfl, e1, h1, h2, by rw [← z1]; exact h3, fun p np => ?_⟩
        exact k _ _ _ _ (Fx.newM np) (.ref p) (hh.newL np (by rw [rep_len]; exact h3) (r1.flat _)) (hr p (hh.none_of np))
      · exact False.elim hr
    | _ => exact False.elim hr
  | _ => exact False.elim hr
theorem s_div : OpR X (binaryOp .FloorDiv) (lop X.K G divV) := by
  intro pins s σ H x y v u Q I rx ry ⟨d, e, h, q, hd, he, hh, hr, k⟩
  cases hd with
  | int i => cases he with
    | int j => exact op_fdivW pins s σ H _ _ v u Q I rx ry ⟨i, j, rfl, rfl, wide_div (b := 64) hr.1.1 (by have := hr.1.2; have := hr.1.1; omega) (by decide) (by decide), k _ _ _ _ Fx.refl (.int _) hh hr.2⟩
    | _ => exact False.elim hr
  | _ => exact False.elim hr
theorem s_mod : OpR X (binaryOp .Mod) (lop X.K G modV) := by
  intro pins s σ H x y v u Q I rx ry ⟨d, e, h, q, hd, he, hh, hr, k⟩
  cases hd with
  | int i => cases he with
    | int j => exact op_mod pins s σ H _ _ v u Q I rx ry ⟨i, j, rfl, rfl, hr.1, k _ _ _ _ Fx.refl (.int _) hh hr.2⟩
    | _ => exact False.elim hr
  | _ => exact False.elim hr
theorem s_pow : OpR X (binaryOp .Pow) (lop X.K G powV) := by
  intro pins s σ H x y v u Q I rx ry ⟨d, e, h, q, hd, he, hh, hr, k⟩
  cases hd with
  | int i => cases he with
    | int j => exact op_pow pins s σ H _ _ v u Q I rx ry ⟨i, j, rfl, rfl, hr.1, k _ _ _ _ Fx.refl (.int _) hh hr.2⟩
    | _ => exact False.elim hr
  | _ => exact False.elim hr
/-! ### comparisons -/
theorem shp {h : HD} {K : PySem.W.Frag} {H : Hp} (rh : RH K G H h) {d : D} {p : PyData} {v : V} (a : Py h d p) (r : RD K G H d v) (z : p.depth ≤ 64) : SeqAt.shaped p = true := by
  unfold SeqAt.shaped
  rw [a.lay rh r, decide_eq_true z]; rfl
theorem eq_gen (hu : X.A.units + 64 < cLine) {pins s σ H x y v u Q} (I : Inv X pins σ H s) (rx : RelV x v) (ry : RelV y u) {d e : D} {h : HD} {q : VQ} (hd : RD X.K G H d x) (he : RD X.K G H e y) (hh : RH X.K G H h)
    (hr : (∃ p r, Py h d p ∧ Py h e r ∧ p.depth ≤ 64 ∧ r.depth ≤ 64 ∧ q (.bl (PyData.eqv p r)) h) ∨ lenNe d e h q) (k : Cont X.K G H h q Q) : wpAny (model X.prog X.w) X.A (compareOp .Eq v u) (EP X pins σ Q) X.xe s := by
  rcases hr with ⟨p, r, h1, h2, h3, h4, h5⟩ | ⟨xs, ys, e1, e2, ne, h5⟩
  · exact op_eqD hu pins s σ H _ _ v u Q I rx ry ⟨p, r, h1.dp hh hd, h2.dp hh he, shp hh h1 hd h3, shp hh h2 he h4, k _ _ _ _ Fx.refl (.bl _) hh h5⟩
  · obtain ⟨a, vs, rfl, g1, g3, _⟩ := lst_sq hh hd e1
    obtain ⟨b, ws, rfl, w1, w3, _⟩ := lst_sq hh he e2
    obtain rfl : v = Value.ref a := rx
    obtain rfl : u = Value.ref b := ry
    obtain ⟨is1, r1, p1, _⟩ := I.list g1
    obtain ⟨is2, r2, p2, _⟩ := I.list w1
    have l1 := g3.len
    have l2 := w3.len
    have l3 := r1.length
    have l4 := r2.length
    exact SeqAt.eq_list_lengthsAt p1.isList p2.isList (by simp; omega) (by omega) ⟨.bl false, H, I, rfl, k _ _ _ _ Fx.refl (.bl _) hh h5⟩
theorem s_eq (hu : X.A.units + 64 < cLine) : OpR X (compareOp .Eq) (lop X.K G eqV) := by
  intro pins s σ H x y v u Q I rx ry ⟨d, e, h, q, hd, he, hh, hr, k⟩
  cases hd with
  | int i => cases he with
    | int j => exact op_eq pins s σ H _ _ v u Q I rx ry ⟨rfl, by rw [show decide (V.int i = V.int j) = decide (i = j) by rw [dec_int, Bool.beq_eq_decide_eq]]; exact k _ _ _ _ Fx.refl (.bl _) hh hr⟩
    | _ => exact eq_gen hu I rx ry (.int i) (by constructor <;> assumption) hh hr k
  | str i g => cases he with
    | str j g' => exact op_eq pins s σ H _ _ v u Q I rx ry ⟨rfl, by rw [show decide (V.str i = V.str j) = decide (i = j) by rw [dec_str, Bool.beq_eq_decide_eq]]; exact k _ _ _ _ Fx.refl (.bl _) hh hr⟩
    | _ => exact eq_gen hu I rx ry (.str i g) (by constructor <;> assumption) hh hr k
  | bl i => cases he with
    | bl j => exact op_eq pins s σ H _ _ v u Q I rx ry ⟨rfl, by rw [show decide (V.bl i = V.bl j) = decide (i = j) by rw [dec_bl, Bool.beq_eq_decide_eq]]; exact k _ _ _ _ Fx.refl (.bl _) hh hr⟩
    | _ => exact eq_gen hu I rx ry (.bl i) (by constructor <;> assumption) hh hr k
  | non => exact eq_gen hu I rx ry .non he hh hr k
  | tup t l r => exact eq_gen hu I rx ry (.tup t l r) he hh hr k
  | ref a => exact eq_gen hu I rx ry (.ref a) he hh hr k
  | ty n => exact eq_gen hu I rx ry (.ty n) he hh hr k
  | glo g => exact eq_gen hu I rx ry (.glo g) he hh hr k
  | exc t => exact eq_gen hu I rx ry (.exc t) he hh hr k
  | kls t l r => exact eq_gen hu I rx ry (.kls t l r) he hh hr k
  | kdc t n l r => exact eq_gen hu I rx ry (.kdc t n l r) he hh hr k
theorem ne_gen (hu : X.A.units + 64 < cLine) {pins s σ H x y v u Q} (I : Inv X pins σ H s) (rx : RelV x v) (ry : RelV y u) {d e : D} {h : HD} {q : VQ} (hd : RD X.K G H d x) (he : RD X.K G H e y) (hh : RH X.K G H h)
    (hr : (∃ p r, Py h d p ∧ Py h e r ∧ p.depth ≤ 64 ∧ r.depth ≤ 64 ∧ ∃ b, D.bl (PyData.eqv p r) = .bl b ∧ q (.bl (!b)) h) ∨ lenNe d e h fun z h' => ∃ b, z = .bl b ∧ q (.bl (!b)) h') (k : Cont X.K G H h q Q) : wpAny (model X.prog X.w) X.A (compareOp .NotEq v u) (EP X pins σ Q) X.xe s := by
  rcases hr with ⟨p, r, h1, h2, h3, h4, b, eb, h5⟩ | ⟨xs, ys, e1, e2, ne, c, ec, h5⟩
  · cases eb
    exact op_neD hu pins s σ H _ _ v u Q I rx ry ⟨p, r, h1.dp hh hd, h2.dp hh he, shp hh h1 hd h3, shp hh h2 he h4, k _ _ _ _ Fx.refl (.bl _) hh h5⟩
  · cases ec
    obtain ⟨a, vs, rfl, g1, g3, _⟩ := lst_sq hh hd e1
    obtain ⟨b, ws, rfl, w1, w3, _⟩ := lst_sq hh he e2
    obtain rfl : v = Value.ref a := rx
    obtain rfl : u = Value.ref b := ry
    obtain ⟨is1, r1, p1, _⟩ := I.list g1
    obtain ⟨is2, r2, p2, _⟩ := I.list w1
    have l1 := g3.len
    have l2 := w3.len
    have l3 := r1.length
    have l4 := r2.length
    exact SeqAt.RcNeAt.lists_lengths p1.isList p2.isList (by simp; omega) (by omega) X.prog X.w X.xe _ ⟨.bl true, H, I, rfl, k _ _ _ _ Fx.refl (.bl _) hh h5⟩
theorem s_ne (hu : X.A.units + 64 < cLine) : OpR X (compareOp .NotEq) (lop X.K G neV) := by
  intro pins s σ H x y v u Q I rx ry ⟨d, e, h, q, hd, he, hh, hr, k⟩
  cases hd with
  | int i => cases he with
    | int j =>
      obtain ⟨b, eb, hr⟩ := (show ∃ b, D.bl (decide (i = j)) = .bl b ∧ q (.bl (!b)) h from hr)
      cases eb
      exact op_ne pins s σ H _ _ v u Q I rx ry ⟨rfl, by rw [show decide (V.int i = V.int j) = decide (i = j) by rw [dec_int, Bool.beq_eq_decide_eq]]; exact k _ _ _ _ Fx.refl (.bl _) hh hr⟩
    | _ => exact ne_gen hu I rx ry (.int i) (by constructor <;> assumption) hh hr k
  | str i g => cases he with
    | str j g' =>
      obtain ⟨b, eb, hr⟩ := (show ∃ b, D.bl (decide (i = j)) = .bl b ∧ q (.bl (!b)) h from hr)
      cases eb
      exact op_ne pins s σ H _ _ v u Q I rx ry ⟨rfl, by rw [show decide (V.str i = V.str j) = decide (i = j) by rw [dec_str, Bool.beq_eq_decide_eq]]; exact k _ _ _ _ Fx.refl (.bl _) hh hr⟩
    | _ => exact ne_gen hu I rx ry (.str i g) (by constructor <;> assumption) hh hr k
  | bl i => cases he with
    | bl j =>
      obtain ⟨b, eb, hr⟩ := (show ∃ b, D.bl (decide (i = j)) = .bl b ∧ q (.bl (!b)) h from hr)
      cases eb
      exact op_ne pins s σ H _ _ v u Q I rx ry ⟨rfl, by rw [show decide (V.bl i = V.bl j) = decide (i = j) by rw [dec_bl, Bool.beq_eq_decide_eq]]; exact k _ _ _ _ Fx.refl (.bl _) hh hr⟩
    | _ => exact ne_gen hu I rx ry (.bl i) (by constructor <;> assumption) hh hr k
  | non => exact ne_gen hu I rx ry .non he hh hr k
  | tup t l r => exact ne_gen hu I rx ry (.tup t l r) he hh hr k
  | ref a => exact ne_gen hu I rx ry (.ref a) he hh hr k
  | ty n => exact ne_gen hu I rx ry (.ty n) he hh hr k
  | glo g => exact ne_gen hu I rx ry (.glo g) he hh hr k
  | exc t => exact ne_gen hu I rx ry (.exc t) he hh hr k
  | kls t l r => exact ne_gen hu I rx ry (.kls t l r) he hh hr k
  | kdc t n l r => exact ne_gen hu I rx ry (.kdc t n l r) he hh hr k
/-- an order of numbers, texts, alike tuples -/
theorem s_ord {op : CmpOp} {ci : Int → Int → Bool} {cs : Str → Str → Bool} {cd : PyData → PyData → Bool}
    (hi : OpR X (compareOp op) (rI0 fun i j => .bl (ci i j))) (hs : OpR X (compareOp op) (fun x y H Q => ∃ i j, x = .str i ∧ y = .str j ∧ Q (.bl (cs i j)) H))
    (hd : ∀ (da db : PyData) (s : Shared) (a b : Value) (as bs : List Addr) (Q : Value → Shared → Prop), Reads s.heap a da as → Reads s.heap b db bs → PySem.W.alike da db = true → da ≠ .none → X.A.units + min da.depth db.depth < cLine →
      Q (.bool (cd da db)) s → wpAny (model X.prog X.w) X.A (compareOp op a b) Q X.xe s) (hu : X.A.units + 64 < cLine) : OpR X (compareOp op) (lop X.K G (ordV ci cs cd)) := by
  intro pins s σ H x y v u Q I rx ry ⟨d, e, h, q, hd1, he, hh, hr, k⟩
  cases hd1 with
  | int i => cases he with
    | int j => exact hi pins s σ H _ _ v u Q I rx ry ⟨i, j, rfl, rfl, k _ _ _ _ Fx.refl (.bl _) hh hr⟩
    | _ => exact False.elim hr
  | str i g => cases he with
    | str j g' => exact hs pins s σ H _ _ v u Q I rx ry ⟨i, j, rfl, rfl, k _ _ _ _ Fx.refl (.bl _) hh hr⟩
    | _ => exact False.elim hr
  | @tup a xs ds t l r => cases he with
    | @tup b ys es t' l' r' =>
      obtain ⟨p, z, h1, h2, h3, h4, h5⟩ := (show ∃ p z, Py h (.tup ds) p ∧ Py h (.tup es) z ∧ PySem.W.alike p z = true ∧ p.depth ≤ 64 ∧ q (.bl (cd p z)) h from hr)
      obtain ⟨as, r1⟩ := Dp.reads I p _ v (h1.dp hh (.tup t l r)) rx
      obtain ⟨bs, r2⟩ := Dp.reads I z _ u (h2.dp hh (.tup t' l' r')) ry
      refine hd p z s v u as bs _ r1 r2 h3 (fun e => ?_) ?_ ⟨.bl _, H, I, rfl, k _ _ _ _ Fx.refl (.bl _) hh h5⟩
      · cases h1; cases e
      · have : min p.depth z.depth ≤ p.depth := Nat.min_le_left _ _
        omega
    | _ => exact False.elim hr
  | _ => exact False.elim hr
theorem s_lt (hu : X.A.units + 64 < cLine) : OpR X (compareOp .Lt) (lop X.K G ltV) := s_ord op_lt op_lt_str (fun _ _ _ _ _ _ _ _ a b c d e f => PySem.W.lt_data a b c d e f) hu
theorem s_gt (hu : X.A.units + 64 < cLine) : OpR X (compareOp .Gt) (lop X.K G gtV) := s_ord op_gt op_gt_str (fun _ _ _ _ _ _ _ _ a b c d e f => PySem.W.gt_data a b c d e f) hu
theorem s_le (hu : X.A.units + 64 < cLine) : OpR X (compareOp .LtE) (lop X.K G leV) := s_ord op_le op_le_str (fun _ _ _ _ _ _ _ _ a b c d e f => PySem.W.le_data a b c d e f) hu
theorem s_ge (hu : X.A.units + 64 < cLine) : OpR X (compareOp .GtE) (lop X.K G geV) := s_ord op_ge op_ge_str (fun _ _ _ _ _ _ _ _ a b c d e f => PySem.W.ge_data a b c d e f) hu
theorem isNon_iff {K : PySem.W.Frag} {H : Hp} {d : D} {x : V} (r : RD K G H d x) : decide (x = .non) = isNon d := by
  cases r <;> rfl
theorem s_is : OpR X (compareOp .Is) (lop X.K G isV) := by
  intro pins s σ H x y v u Q I rx ry ⟨d, e, h, q, hd, he, hh, hr, k⟩
  cases he with
  | non => exact op_isN pins s σ H _ _ v u Q I rx ry ⟨rfl, by rw [isNon_iff hd]; exact k _ _ _ _ Fx.refl (.bl _) hh hr⟩
  | bl b => cases hd with
    | bl a => exact op_is_bl pins s σ H _ _ v u Q I rx ry ⟨a, b, rfl, rfl, k _ _ _ _ Fx.refl (.bl _) hh hr⟩
    | _ => exact False.elim hr
  | _ => exact False.elim hr
theorem s_isn : OpR X (compareOp .IsNot) (lop X.K G isnV) := by
  intro pins s σ H x y v u Q I rx ry ⟨d, e, h, q, hd, he, hh, hr, k⟩
  cases he with
  | non => exact op_notN pins s σ H _ _ v u Q I rx ry ⟨rfl, by rw [isNon_iff hd]; exact k _ _ _ _ Fx.refl (.bl _) hh hr⟩
  | bl b => cases hd with
    | bl a => exact op_isnot_bl pins s σ H _ _ v u Q I rx ry ⟨a, b, rfl, rfl, k _ _ _ _ Fx.refl (.bl _) hh hr⟩
    | _ => exact False.elim hr
  | _ => exact False.elim hr
theorem flat_of {K : PySem.W.Frag} {H : Hp} {d : D} {x : V} (r : RD K G H d x) (f : flatD d = true) : flatV x = true := by
  cases r <;> first | rfl | (cases (show false = true from f))
theorem eqF_of {K : PySem.W.Frag} {H : Hp} {d e : D} {x y : V} (r : RD K G H d x) (r' : RD K G H e y) (f : flatD d = true) (f' : flatD e = true) : L2.eqV x y = eqF d e := by
  cases r <;> cases r' <;> first | rfl | (cases (show false = true from f)) | (cases (show false = true from f'))
theorem inF_of {K : PySem.W.Frag} {H : Hp} {d : D} {x : V} (r : RD K G H d x) (f : flatD d = true) : ∀ {ds : List D} {xs : List V}, RDs K G H ds xs → ds.all flatD = true → xs.all flatV = true ∧ L2.inV x xs = inF d ds
  | _, _, .nil, _ => ⟨rfl, rfl⟩
  | _, _, .cons q t, f2 => by
    rw [List.all_cons, Bool.and_eq_true] at f2
    obtain ⟨h1, h2⟩ := inF_of r f t f2.2
    refine ⟨by rw [List.all_cons, flat_of q f2.1, h1]; rfl, ?_⟩
    show (L2.eqV _ x || L2.inV x _) = (eqF _ d || inF d _)
    rw [h2, eqF_of q r f2.1 f]
theorem seq_sq {K : PySem.W.Frag} {H : Hp} {h : HD} (hh : RH K G H h) {d : D} {x : V} {ds : List D} (r : RD K G H d x) (e : seqOf h d = some ds) : ∃ p xs, x = .ref p ∧ (SqL K H p xs ∨ SqT K H p xs) ∧ RDs K G H ds xs ∧ ds.length ≤ sizeLine := by
  cases r with
  | tup t l r => cases e; exact ⟨_, _, rfl, .inr t.sq, r, l⟩
  | kls t l r => cases e; exact ⟨_, _, rfl, .inl t.sq, r, l⟩
  | ref a =>
    unfold seqOf at e
    dsimp only at e
    split at e
    · rename_i xs ea; cases e
      obtain ⟨vs, h1, h2, h3⟩ := hh a _ ea
      exact ⟨a, vs, rfl, .inl (.inl (.inl h1)), h3, h2⟩
    · cases e
  | _ => cases e
theorem look_of {K : PySem.W.Frag} {H : Hp} {kvs : List (Key × D)} {vs : List (Key × V)} (r : RK K G H kvs vs) (k : Key) : (lookK kvs k = none ∧ valV vs k = none) ∨ ∃ d v, lookK kvs k = some d ∧ valV vs k = some v ∧ RD K G H d v := by
  induction r with
  | nil => exact .inl ⟨rfl, rfl⟩
  | @cons a b l1 l2 h t ih =>
    obtain ⟨e, q⟩ := h
    unfold lookK valV
    rw [List.find?_cons, List.find?_cons, e]
    cases hd : decide (b.1 = k) with
    | true => exact .inr ⟨_, _, rfl, rfl, q⟩
    | false => exact ih
theorem key_of {K : PySem.W.Frag} {H : Hp} {d : D} {v : V} {k : Key} (r : RD K G H d v) (e : keyD d = some k) : v = kV k := by
  cases r <;> first | (cases e; rfl) | cases e
theorem shL {h : HD} {K : PySem.W.Frag} {H : Hp} (rh : RH K G H h) {ds : List D} {ps : List PyData} {vs : List V} (a : Pys h ds ps) (r : RDs K G H ds vs) (z : PyData.depthAll ps < 64) : SeqAt.shaped (.list ps) = true := by
  unfold SeqAt.shaped
  have h1 : PyData.canLay0 (.list ps) = true := a.lay rh r
  have h2 : (PyData.list ps).depth ≤ 64 := by show PyData.depthAll ps + 1 ≤ 64; omega
  rw [h1, decide_eq_true h2]; rfl
theorem seq_py {h : HD} {d : D} {xs : List D} {ps : List PyData} (e : seqOf h d = some xs) (l : (lstOf h d).isSome = true) (h2 : Pys h xs ps) : Py h d (.list ps) := by
  cases d with
  | kls xs' => cases e; exact .kls h2
  | ref a =>
    unfold seqOf at e
    dsimp only at e
    split at e
    · rename_i ea; cases e; exact .lst ea h2
    · cases e
  | _ => cases l
theorem dget_f {H : Hp} {a : Addr} {kvs : List (Key × V)} (g : KdcAt H a kvs) (k : Key) : DGet H a (kV k) (valV kvs k) := by
  obtain ⟨o, e⟩ := g
  exact .inl ⟨kvs, k, .inr ⟨o, e⟩, rfl, rfl⟩
theorem kdc_of {K : PySem.W.Frag} {H : Hp} {ks : List Key} {ds : List D} {v : V} (r : RD K G H (.kdc ks ds) v) : ∃ p vs, v = .ref p ∧ KdcAt H p (ks.zip vs) ∧ RK K G H (ks.zip ds) (ks.zip vs) := by
  cases r with
  | kdc t n l r =>
    refine ⟨_, _, rfl, t, ?_⟩
    clear t n l
    rename_i vs
    induction ks generalizing ds vs with
    | nil => exact .nil
    | cons k ks ih =>
      cases r with
      | nil => exact .nil
      | cons r rs => exact .cons ⟨rfl, r⟩ (ih rs)
theorem s_in (hu : X.A.units + 65 < cLine) : OpR X (compareOp .In) (lop X.K G inV) := by
  intro pins s σ H x y v u Q I rx ry ⟨d, e, h, q, hd, he, hh, hr, k⟩
  unfold inV at hr
  split at hr
  · cases he with
    | str t g =>
      split at hr
      · cases hd with
        | str i g' => exact op_in_str pins s σ H _ _ v u Q I rx ry ⟨_, _, rfl, rfl, k _ _ _ _ Fx.refl (.bl _) hh hr⟩
      · exact hr.elim
  · split at hr
    · rename_i xs es
      obtain ⟨p, vs, rfl, sq, rs, _⟩ := seq_sq hh he es
      rcases hr with ⟨f1, f2, hq⟩ | ⟨z, ps, h1, h2, h3, h4, ea, hq⟩
      · obtain ⟨g1, g2⟩ := inF_of hd f1 rs f2
        refine op_in_seq pins s σ H _ _ v u Q I rx ry ⟨p, vs, rfl, sq, flat_of hd f1, g1, ?_⟩
        show Q (.bl (L2.inV x vs)) H
        rw [g2]
        exact k _ _ _ _ Fx.refl (.bl _) hh hq
      · have hz : Py h e (.list ps) := seq_py es ea h2
        exact op_inD hu pins s σ H _ _ v u Q I rx ry ⟨z, ps, h1.dp hh hd, hz.dp hh he, shp hh h1 hd h3, shL hh h2 rs h4, k _ _ _ _ Fx.refl (.bl _) hh hq⟩
    · split at hr
      · rename_i a es _
        split at hr
        · rename_i kvs ea
          split at hr
          · rename_i kk ek
            cases he
            obtain ⟨vs, h1, _, h3, _⟩ := hh a _ ea
            obtain rfl : u = Value.ref a := ry
            have ev := key_of hd ek
            subst ev
            rcases look_of h3 kk with ⟨l1, l2⟩ | ⟨d', v', l1, l2, r'⟩
            · refine d_in (by omega) I (DGet.k (k := kk) h1) rx fun s3 I3 => ⟨.bl _, H, I3, rfl, ?_⟩
              rw [l2]; rw [l1] at hr
              exact k _ _ _ _ Fx.refl (.bl _) hh hr
            · refine d_in (by omega) I (DGet.k (k := kk) h1) rx fun s3 I3 => ⟨.bl _, H, I3, rfl, ?_⟩
              rw [l2]; rw [l1] at hr
              exact k _ _ _ _ Fx.refl (.bl _) hh hr
          · exact hr.elim
        · exact hr.elim
      · rename_i ks xs es _
        split at hr
        · rename_i kk ek
          obtain ⟨p, vs, rfl, g, r⟩ := kdc_of he
          obtain rfl : u = Value.ref p := ry
          have ev := key_of hd ek
          subst ev
          rcases look_of r kk with ⟨l1, l2⟩ | ⟨d', v', l1, l2, r'⟩
          · refine d_in (by omega) I (dget_f g kk) rx fun s3 I3 => ⟨.bl _, H, I3, rfl, ?_⟩
            rw [l2]; rw [l1] at hr
            exact k _ _ _ _ Fx.refl (.bl _) hh hr
          · refine d_in (by omega) I (dget_f g kk) rx fun s3 I3 => ⟨.bl _, H, I3, rfl, ?_⟩
            rw [l2]; rw [l1] at hr
            exact k _ _ _ _ Fx.refl (.bl _) hh hr
        · exact hr.elim
      · exact hr.elim
theorem s_nin (hu : X.A.units + 65 < cLine) : OpR X (compareOp .NotIn) (lop X.K G ninV) := by
  intro pins s σ H x y v u Q I rx ry ⟨d, e, h, q, hd, he, hh, hr, k⟩
  unfold ninV inV at hr
  split at hr
  · cases he with
    | str t g =>
      split at hr
      · obtain ⟨b, eb, hr⟩ := hr
        cases eb
        cases hd with
        | str i g' => exact op_notIn_str pins s σ H _ _ v u Q I rx ry ⟨_, _, rfl, rfl, k _ _ _ _ Fx.refl (.bl _) hh hr⟩
      · exact hr.elim
  · split at hr
    · rename_i xs es
      obtain ⟨p, vs, rfl, sq, rs, _⟩ := seq_sq hh he es
      rcases hr with ⟨f1, f2, b, eb, hq⟩ | ⟨z, ps, h1, h2, h3, h4, ea, b, eb, hq⟩
      · cases eb
        obtain ⟨g1, g2⟩ := inF_of hd f1 rs f2
        refine op_notIn_seq pins s σ H _ _ v u Q I rx ry ⟨p, vs, rfl, sq, flat_of hd f1, g1, ?_⟩
        show Q (.bl (!L2.inV x vs)) H
        rw [g2]
        exact k _ _ _ _ Fx.refl (.bl _) hh hq
      · cases eb
        have hz : Py h e (.list ps) := seq_py es ea h2
        exact op_notInD hu pins s σ H _ _ v u Q I rx ry ⟨z, ps, h1.dp hh hd, hz.dp hh he, shp hh h1 hd h3, shL hh h2 rs h4, k _ _ _ _ Fx.refl (.bl _) hh hq⟩
    · split at hr
      · rename_i a es _
        split at hr
        · rename_i kvs ea
          split at hr
          · rename_i kk ek
            obtain ⟨b, eb, hr⟩ := hr
            cases eb
            cases he
            obtain ⟨vs, h1, _, h3, _⟩ := hh a _ ea
            obtain rfl : u = Value.ref a := ry
            have ev := key_of hd ek
            subst ev
            rcases look_of h3 kk with ⟨l1, l2⟩ | ⟨d', v', l1, l2, r'⟩
            · refine d_notIn (by omega) I (DGet.k (k := kk) h1) rx fun s3 I3 => ⟨.bl _, H, I3, rfl, ?_⟩
              rw [l2]; rw [l1] at hr
              exact k _ _ _ _ Fx.refl (.bl _) hh hr
            · refine d_notIn (by omega) I (DGet.k (k := kk) h1) rx fun s3 I3 => ⟨.bl _, H, I3, rfl, ?_⟩
              rw [l2]; rw [l1] at hr
              exact k _ _ _ _ Fx.refl (.bl _) hh hr
          · exact hr.elim
        · exact hr.elim
      · rename_i ks xs es _
        split at hr
        · rename_i kk ek
          obtain ⟨b, eb, hr⟩ := hr
          cases eb
          obtain ⟨p, vs, rfl, g, r⟩ := kdc_of he
          obtain rfl : u = Value.ref p := ry
          have ev := key_of hd ek
          subst ev
          rcases look_of r kk with ⟨l1, l2⟩ | ⟨d', v', l1, l2, r'⟩
          · refine d_notIn (by omega) I (dget_f g kk) rx fun s3 I3 => ⟨.bl _, H, I3, rfl, ?_⟩
            rw [l2]; rw [l1] at hr
            exact k _ _ _ _ Fx.refl (.bl _) hh hr
          · refine d_notIn (by omega) I (dget_f g kk) rx fun s3 I3 => ⟨.bl _, H, I3, rfl, ?_⟩
            rw [l2]; rw [l1] at hr
            exact k _ _ _ _ Fx.refl (.bl _) hh hr
        · exact hr.elim
      · exact hr.elim
end
end Nd
/-! Nd4: a small syntax, and what it denotes over data. -/
namespace Nd
open PySem PySem.Spec PyProof.Rows L2
mutual
/-- numbers of at most forty figures, no dict -/
def smP : PyData → Bool
  | .none => true
  | .bool _ => true
  | .str _ => true
  | .int i => decide (i.natAbs < 10 ^ 40)
  | .list xs => smPs xs
  | .tuple xs => smPs xs
  | .dict _ => false
def smPs : List PyData → Bool
  | [] => true
  | x :: xs => smP x && smPs xs
end
def rpP : PyData → Bool
  | _ => true
/-- targets -/
inductive Tg where
  | nm (i : Nat) | tp (l : List Nat) | ul (l : List Nat)
/-- built-ins by values -/
inductive BI where
  | isi | len | abs | int1 | max2 | min2 | max3 | str1 | bool1 | repr1
/-- built-ins by the content of one thing -/
inductive BL where
  | tuple | list | sum | max | min | all | any | sorted | dict
/-- what is walked -/
inductive ItK where
  | seq | rng1 | rng2 | rng3 | zip2 | zip3 | zipS | enum | enumT | items | values | rev
/-- methods of lists, dicts, texts -/
inductive BM where
  | append | pop0 | pop1 | insert | get1 | get2 | index | count | extend | clear | remove | split | join | update | upper | clearD
mutual
inductive E where
  | var (i : Nat)
  | cst (d : D)
  | gl (x : Str) (d : D)
  | ty (n : String)
  | tup (es : Es)
  | lst (es : Es)
  | dic (ks : List Key) (vs : Es)
  | bin (o : Operator) (a b : E)
  | neg (a : E)
  | cmp (o : CmpOp) (a b : E)
  | chn (o o' : CmpOp) (a b c : E)
  | nt (a : E)
  | an (es : Es)
  | or (es : Es)
  | ife (c a b : E)
  | sub (a i : E)
  | sl0 (a : E)
  | slL (a lo : E)
  | slU (a hi : E)
  | slB (a lo hi : E)
  | rvs (a : E)
  | attr (a : E) (f : Str)
  | call (f : Nat) (es : Es)
  | callv (i : Nat) (es : Es)
  | mk (c : Nat) (es : Es)
  | meth (o : E) (m : Str) (es : Es)
  | bi (b : BI) (es : Es)
  | bl (b : BL) (e : E)
  | lset (s : Bool) (e : E)
  | frz (e : E)
  | itm (e : E)
  | joi (a : Str) (e : E)
  | bm (m : BM) (o : E) (es : Es)
  | comp (k : ItK) (es : Es) (tg : Tg) (own : List Nat) (ifs : Es) (e : E)
inductive Es where
  | nil | cons (e : E) (es : Es)
end
mutual
inductive S where
  | pass | doc | brk | cnt
  | ex (e : E)
  | ret (e : E)
  | retN
  | set (i : Nat) (e : E)
  | setT (tg : Tg) (e : E)
  | par (i j : Nat) (a b : E)
  | setS (o i e : E)
  | setA (o : E) (f : Str) (e : E)
  | aug (i : Nat) (op : Operator) (e : E)
  | ite (c : E) (a b : B)
  | whl (c : E) (b : B)
  | for_ (k : ItK) (es : Es) (tg : Tg) (b : B)
  | try_ (b : B) (x i j : Nat)
  | raise (c : Nat)
  | fz (i : Nat)
inductive B where
  | nil | cons (s : S) (b : B)
end
/-- what stands behind a statement -/
structure En where
  nx : Sl → HD → Prop
  rt : VQ
  bk : Sl → HD → Prop
  ct : Sl → HD → Prop
  ex : Nat → Sl → HD → Prop
abbrev TSD := En → Sl → HD → Prop
/-- what is walked: a tuple, a text, a list that isn't told, a thing that must stay -/
inductive Gd where
  | tp | st | hid | kl | kd | ls (a : Addr) (m : MO)
def Gd.ok (h : HD) : Gd → Prop
  | .ls a m => h a = some m
  | _ => True
def Gd.isL : Gd → Bool
  | .hid => true
  | .kl => true
  | .ls _ (.lst _) => true
  | _ => false
abbrev TID := Sl → HD → (List D → List Gd → HD → Prop) → XQ → Prop
def truV (d : D) (h : HD) (k : Bool → Prop) : Prop := match d with
  | .non => k false
  | .bl b => k b
  | .int i => k (i != 0)
  | .str s => k ((s.length : Int) != 0)
  | .tup xs => k (!xs.isEmpty)
  | .kls xs => k (!xs.isEmpty)
  | .ref a => match h a with
    | some (.lst xs) => k (!xs.isEmpty)
    | some (.dic xs) => k (!xs.isEmpty)
    | _ => False
  | _ => False
def chars (s : Str) : List D := s.cps.toList.map fun c => .str ⟨#[c]⟩
def kD : Key → D
  | .inl i => .int i
  | .inr s => .str s
def itV (d : D) (h : HD) (k : List D → Gd → Prop) : Prop := match d with
  | .tup xs => k xs .tp
  | .kls xs => k xs .kl
  | .kdc ks _ => k (ks.map kD) .kd
  | .str s => k (chars s) .st
  | .ref a => match h a with
    | some (.lst xs) => k xs (.ls a (.lst xs))
    | some (.dic kvs) => k (kvs.map fun p => kD p.1) (.ls a (.dic kvs))
    | _ => False
  | _ => False
structure Dn where
  v : TED
  t : TTD
  i : Sl → HD → (List D → Gd → HD → Prop) → XQ → Prop
def Dn.of (v : TED) : Dn where
  v := v
  t := fun σ h q r => v σ h (fun d h' => truV d h' fun b => q b h') r
  i := fun σ h q r => v σ h (fun d h' => itV d h' fun xs g => q xs g h') r
/-- a value that is True or False, its test another way -/
def Dn.ofT (v : TED) (t : TTD) : Dn where
  v := v
  t := t
  i := fun _ _ _ _ => False
def Dn.bad : Dn := Dn.of fun _ _ _ _ => False
structure Dns where
  a : TAD
  an : Dn
  or : Dn
  i : TID
def opV : Operator → OpD
  | .Add => addV
  | .Sub => subV
  | .Mult => mulV
  | .FloorDiv => divV
  | .Mod => modV
  | .Pow => powV
  | _ => fun _ _ _ _ => False
def cmV : CmpOp → OpD
  | .Eq => eqV
  | .NotEq => neV
  | .Lt => ltV
  | .LtE => leV
  | .Gt => gtV
  | .GtE => geV
  | .Is => isV
  | .IsNot => isnV
  | .In => inV
  | .NotIn => ninV
def asB (d : D) (k : Bool → Prop) : Prop := match d with
  | .bl b => k b
  | _ => False
def negV (d : D) (h : HD) (q : VQ) : Prop := match d with
  | .int i => q (.int (-i)) h
  | _ => False
def atD (xs : List D) (i : Int) : Option D := L2.atI xs i
def optV (o : Option D) (h : HD) (q : VQ) : Prop := match o with
  | some d => q d h
  | none => False
def subV' : OpD := fun x y h q => match x, y with
  | .tup xs, .int i => optV (atD xs i) h q
  | .str s, .int i => optV (atD (chars s) i) h q
  | .kls xs, .int i => optV (atD xs i) h q
  | .kdc ks xs, y => match keyD y with
    | some k => optV (lookK (ks.zip xs) k) h q
    | none => False
  | .ref a, y => match h a with
    | some (.lst xs) => match y with
      | .int i => optV (atD xs i) h q
      | _ => False
    | some (.dic kvs) => match keyD y with
      | some k => optV (lookK kvs k) h q
      | none => False
    | _ => False
  | _, _ => False
def cutD (xs : List D) (lo hi : Option Int) : List D := (xs.drop (HT.sIx xs.length 0 lo)).take (HT.sIx xs.length xs.length hi - HT.sIx xs.length 0 lo)
def slcV (x : D) (lo hi : Option Int) (h : HD) (q : VQ) : Prop := match x with
  | .tup xs => q (.tup (cutD xs lo hi)) h
  | .str s => q (.str (cutS s lo hi)) h
  | .kls xs => ∀ p, h p = none → q (.ref p) (hup h p (.lst (cutD xs lo hi)))
  | .ref a => match h a with
    | some (.lst xs) => ∀ p, h p = none → q (.ref p) (hup h p (.lst (cutD xs lo hi)))
    | _ => False
  | _ => False
def rvsV (x : D) (h : HD) (q : VQ) : Prop := match x with
  | .kls xs => ∀ p, h p = none → q (.ref p) (hup h p (.lst xs.reverse))
  | .ref a => match h a with
    | some (.lst xs) => ∀ p, h p = none → q (.ref p) (hup h p (.lst xs.reverse))
    | _ => False
  | _ => False
def asI (d : D) (k : Option Int → Prop) : Prop := match d with
  | .int i => k (some i)
  | _ => False
/-! ### built-ins -/
/-- the built-in type of a thing -/
def tyN (h : HD) : D → Option String
  | .non => some "NoneType"
  | .bl _ => some "bool"
  | .int _ => some "int"
  | .str _ => some "str"
  | .tup _ => some "tuple"
  | .kls _ => some "list"
  | .kdc _ _ => some "dict"
  | .ref a => match h a with
    | some (.lst _) => some "list"
    | some (.dic _) => some "dict"
    | _ => none
  | _ => none
def isiB (a n : String) : Bool := a == n || (a == "bool" && n == "int")
def isTyN (n : String) : Bool := n == "int" || n == "bool" || n == "str" || n == "tuple" || n == "list" || n == "dict"
/-- what an except clause says of an error -/
def exmK (o : Option Bool) (y n : Unit → Prop) : Prop := match o with
  | some true => y ()
  | some false => n ()
  | none => False
theorem exmK_cases {o : Option Bool} {y n : Unit → Prop} (z : exmK o y n) : (o = some true ∧ y ()) ∨ (o = some false ∧ n ()) := by
  unfold exmK at z
  split at z
  · exact .inl ⟨rfl, z⟩
  · exact .inr ⟨rfl, z⟩
  · exact z.elim
def isiV (exm : Nat → Nat → Option Bool) (ds : List D) (h : HD) (q : VQ) : Prop := match ds with
  | [.exc c, .ty n] => n = "ValueError" ∧ exmK (exm c 1000000) (fun _ => q (.bl true) h) fun _ => q (.bl false) h
  | [d, .ty n] => isTyN n = true ∧ match tyN h d with
    | some a => q (.bl (isiB a n)) h
    | none => False
  | [d, .tup [.ty n, .ty m]] => (isTyN n = true ∧ isTyN m = true) ∧ match tyN h d with
    | some a => q (.bl (isiB a n || isiB a m)) h
    | none => False
  | [.exc c, .glo g] => g ≠ 1000000 ∧ exmK (exm c g) (fun _ => q (.bl true) h) fun _ => q (.bl false) h
  | _ => False
def lenV (d : D) (h : HD) (q : VQ) : Prop := match d with
  | .str s => q (.int s.length) h
  | .tup xs => q (.int xs.length) h
  | .kls xs => q (.int xs.length) h
  | .kdc _ xs => q (.int xs.length) h
  | .ref a => match h a with
    | some (.lst xs) => q (.int xs.length) h
    | some (.dic xs) => q (.int xs.length) h
    | _ => False
  | _ => False
def biV (exm : Nat → Nat → Option Bool) (b : BI) (ds : List D) (h : HD) (q : VQ) : Prop := match b, ds with
  | .isi, ds => isiV exm ds h q
  | .len, [d] => lenV d h q
  | .abs, [.int i] => q (.int (if i < 0 then -i else i)) h
  | .int1, [.int i] => q (.int i) h
  | .int1, [.bl k] => q (.int (if k then 1 else 0)) h
  | .max2, [.int i, .int j] => q (.int (if j > i then j else i)) h
  | .min2, [.int i, .int j] => q (.int (if j < i then j else i)) h
  | .max3, [.int i, .int j, .int m] => q (.int (if j > i then (if m > j then m else j) else if m > i then m else i)) h
  | .repr1, [d] => ∃ p, Py h d p ∧ (rpP p = true ∧ smP p = true) ∧ p.weight ≤ 300000 ∧ p.depth ≤ 64 ∧ q (.str p.shown) h
  | .str1, [.int i] => i.natAbs.log2 < 1920 ∧ StrG (toString i : Str) ∧ q (.str (toString i)) h
  | _, _ => False
/-- things put in order, by what they are as data -/
def sortD (xs : List D) (ps : List PyData) : List D := ((xs.zip ps).mergeSort (PySem.W.dataLe false fun p => p.2)).map fun p => p.1
/-- in its place, or at the end -/
def putD (kvs : List (Key × D)) (k : Key) (v : D) : List (Key × D) :=
  if (kvs.any fun kv => decide (kv.1 = k)) = true then kvs.map (fun kv => if kv.1 = k then (kv.1, v) else kv) else kvs ++ [(k, v)]
/-- pairs, the later ones in the place of the earlier -/
def mergeD (kvs : List (Key × D)) : List (Key × D) := kvs.foldl (fun acc p => putD acc p.1 p.2) []
/-- the first of those that no later one is better than -/
def bstL {α : Type} (lt : α → α → Bool) : List α → Option α
  | [] => none
  | x :: xs => some (xs.foldl (fun a b => if lt b a = true then b else a) x)
/-- one more, if it isn't there -/
def addL {κ : Type} [DecidableEq κ] (l : List κ) (k : κ) : List κ := if k ∈ l then l else l ++ [k]
/-- each once, in the order of the first meetings -/
def onceL {κ : Type} [DecidableEq κ] (l : List κ) : List κ := l.foldl addL []
/-- the order of texts -/
def leS (a b : Str) : Bool := decide (a.cps.toList ≤ b.cps.toList)
/-- each once, rising -/
def sortT (l : List Str) : List Str := (onceL l).mergeSort leS
/-- each number once -/
def dedupZ (ns : List Int) : List Int := PyProof.Rows.firstMet (fun i => ns.getD i 0) ns.length
def blV (b : BL) (xs : List D) (g : Gd) (h : HD) (q : VQ) : Prop := match b with
  | .tuple => (g.isL || (match g with | .tp => true | _ => false)) = true ∧ q (.tup xs) h
  | .list => (g.isL || (match g with | .tp => true | .kd => true | _ => false)) = true ∧ ∀ p, h p = none → q (.ref p) (hup h p (.lst xs))
  | .sum => g.isL = true ∧ ∃ ns : List Int, xs = ns.map .int ∧ q (.int ns.sum) h
  | .max => g.isL = true ∧ ((∃ (ns : List Int) (m : Int), xs = ns.map .int ∧ m ∈ ns ∧ (∀ y, y ∈ ns → y ≤ m) ∧ q (.int m) h) ∨ ∃ (ps : List PyData) (z : D × PyData), Pys h xs ps ∧ PySem.W.AllAlike ps ∧ (∀ p ∈ ps, p ≠ .none) ∧ PyData.depthAll ps ≤ 64 ∧ bstL (fun a b => PySem.W.dataLt b.2 a.2) (xs.zip ps) = some z ∧ q z.1 h)
  | .min => g.isL = true ∧ ((∃ (ns : List Int) (m : Int), xs = ns.map .int ∧ m ∈ ns ∧ (∀ y, y ∈ ns → m ≤ y) ∧ q (.int m) h) ∨ ∃ (ps : List PyData) (z : D × PyData), Pys h xs ps ∧ PySem.W.AllAlike ps ∧ (∀ p ∈ ps, p ≠ .none) ∧ PyData.depthAll ps ≤ 64 ∧ bstL (fun a b => PySem.W.dataLt a.2 b.2) (xs.zip ps) = some z ∧ q z.1 h)
  | .all => g.isL = true ∧ ∃ bs : List Bool, xs = bs.map .bl ∧ q (.bl (bs.all id)) h
  | .any => g.isL = true ∧ ∃ bs : List Bool, xs = bs.map .bl ∧ q (.bl (bs.any id)) h
  | .sorted => g.isL = true ∧ ∃ ps, Pys h xs ps ∧ PySem.W.AllAlike ps ∧ PySem.W.Sortable ps ∧ PyData.depthAll ps ≤ 64 ∧ ∀ p, h p = none → q (.ref p) (hup h p (.lst (sortD xs ps)))
  | .dict => g.isL = true ∧ ∃ kvs : List (Key × D), xs = kvs.map (fun p => .tup [kD p.1, p.2]) ∧ ∀ p, h p = none → q (.ref p) (hup h p (.dic (mergeD kvs)))
def bmV (m : BM) (o : D) (ds : List D) (h : HD) (q : VQ) : Prop := match m, o, ds with
  | .append, .ref a, [d] => match h a with
    | some (.lst xs) => xs.length < sizeLine ∧ q .non (hup h a (.lst (xs ++ [d])))
    | _ => False
  | .count, x, [y] => match lstOf h x with
    | some xs => ∃ ps p, Pys h xs ps ∧ Py h y p ∧ PyData.plainAll ps = true ∧ p.plain = true ∧ PyData.depthAll ps ≤ 64 ∧ p.depth ≤ 64 ∧ q (.int (ps.countP fun z => PyData.eqv z p : Nat)) h
    | _ => False
  | .index, x, [y] => match lstOf h x with
    | some xs => ∃ ps p, ∃ (j : Nat) (z : PyData), Pys h xs ps ∧ Py h y p ∧ SeqAt.shaped (.list ps) = true ∧ SeqAt.shaped p = true ∧ ps[j]? = some z ∧ PyData.eqv z p = true ∧ (∀ (m : Nat) (z' : PyData), m < j → ps[m]? = some z' → PyData.eqv z' p = false) ∧ q (.int (j : Nat)) h
    | _ => False
  | .clearD, .ref a, [] => match h a with
    | some (.dic _) => q .non (hup h a (.dic []))
    | _ => False
  | .clear, .ref a, [] => match h a with
    | some (.lst _) => q .non (hup h a (.lst []))
    | _ => False
  | .pop0, .ref a, [] => match h a with
    | some (.lst xs) => match xs[xs.length - 1]? with
      | some d => q d (hup h a (.lst xs.dropLast))
      | none => False
    | _ => False
  | _, _, _ => False
/-- what a method's name asks of the thing ahead of its arguments -/
def bmT (m : BM) (o : D) (h : HD) : Prop := match m, o with
  | .append, .ref a => match h a with
    | some (.lst _) => True
    | _ => False
  | .count, x => (lstOf h x).isSome = true
  | .index, x => (lstOf h x).isSome = true
  | .pop0, .ref a => match h a with
    | some (.lst _) => True
    | _ => False
  | .clear, .ref a => match h a with
    | some (.lst _) => True
    | _ => False
  | .clearD, .ref a => match h a with
    | some (.dic _) => True
    | _ => False
  | _, _ => False
/-! ### iteration -/
def Gd.walk : Gd → Bool
  | .ls _ (.dic _) => false
  | .ls _ (.ins _ _) => false
  | _ => true
def rngL (lo : Int) (n : Nat) : List D := (List.range n).map fun i => .int (lo + (i : Nat))
/-- a list: its things, what must stay -/
def lsOf (h : HD) : D → Option (List D × Gd)
  | .kls xs => some (xs, .kl)
  | .ref a => match h a with
    | some (.lst xs) => some (xs, .ls a (.lst xs))
    | _ => none
  | _ => none
def zipL (xs ys : List D) : List D := (xs.zip ys).map fun p => .tup [p.1, p.2]
def zipL3 (xs ys zs : List D) : List D := (xs.zip (ys.zip zs)).map fun p => .tup [p.1, p.2.1, p.2.2]
def enumL (xs : List D) : List D := xs.zipIdx.map fun p => .tup [.int (p.2 : Nat), p.1]
def stepL (i c : Int) (n : Nat) : List D := (List.range n).map fun k => .int (i + (k : Nat) * c)
def lsK (x : D) (h : HD) (k : List D → List Gd → Prop) : Prop := match lsOf h x with
  | some (xs, g) => k xs [g]
  | none => False
def tlK (x : D) (h : HD) (k : List D → List Gd → Prop) : Prop := match x with
  | .tup xs => k xs []
  | x => lsK x h k
def zipK (x y : D) (h : HD) (q : List D → List Gd → HD → Prop) : Prop := match x with
  | .tup xs => match y with
    | .tup ys => q (zipL xs ys) [] h
    | _ => False
  | x => lsK x h fun xs g => lsK y h fun ys g' => q (zipL xs ys) (g ++ g') h
def itK (k : ItK) (xss : List D) (h : HD) (q : List D → List Gd → HD → Prop) : Prop := match k, xss with
  | .rng1, [.int n] => (-(2 ^ 62) ≤ n ∧ n ≤ 16777216) ∧ q (rngL 0 n.toNat) [] h
  | .rng2, [.int i, .int j] => ((-(2 ^ 62) ≤ i ∧ i < 2 ^ 62 ∧ -(2 ^ 62) ≤ j ∧ j < 2 ^ 62) ∧ j - i ≤ 16777216) ∧ q (rngL i (j - i).toNat) [] h
  | .rng3, [.int i, .int j, .int c] => ∃ n, (L2.RgC i j c n ∧ n ≤ sizeLine) ∧ q (stepL i c n) [] h
  | .zip2, [x, y] => zipK x y h q
  | .zip3, [.tup xs, .tup ys, .tup zs] => q (zipL3 xs ys zs) [] h
  | .zipS, [.str s, .tup ys] => q (zipL (chars s) ys) [] h
  | .enumT, [.tup xs] => q (enumL xs) [] h
  | .enum, [x] => lsK x h fun xs g => q (enumL xs) g h
  | .rev, [x] => tlK x h fun xs g => q xs.reverse g h
  | .items, [.kdc ks xs] => q ((ks.zip xs).map fun p => .tup [kD p.1, p.2]) [] h
  | .values, [.kdc _ xs] => q xs [] h
  | _, _ => False
/-- a list's items -/
def ulK (d : D) (h : HD) (k : List D → Prop) : Prop := match d with
  | .kls xs => k xs
  | .ref a => match h a with
    | some (.lst xs) => k xs
    | _ => False
  | _ => False
def tgS (tg : Tg) (d : D) (h : HD) (σ : Sl) (k : Sl → Prop) : Prop := match tg with
  | .nm i => k (σ.set i (some d))
  | .tp l => match d with
    | .tup xs => xs.length = l.length ∧ k ((l.zip xs).foldl (fun z p => z.set p.1 (some p.2)) σ)
    | _ => False
  | .ul l => ulK d h fun xs => xs.length = l.length ∧ k ((l.zip xs).foldl (fun z p => z.set p.1 (some p.2)) σ)
def gdsOk (h : HD) (g : List Gd) : Prop := ∀ x ∈ g, Gd.ok h x
def wipeD (σ : Sl) (own : List Nat) : Sl := own.foldr (fun i z => z.set i none) σ
/-- a comprehension over what is walked -/
def cmpR (tg : Tg) (own : List Nat) (t : TTD) (e : TED) (σ : Sl) (g : List Gd) : List D → List D → HD → (List D → HD → Prop) → Prop
  | [], acc, h, q => q acc h
  | x :: xs, acc, h, q => tgS tg x h (wipeD σ own) fun σ2 => t σ2 h (fun b h2 => if b = true then e σ2 h2 (fun y h3 => gdsOk h3 g ∧ cmpR tg own t e σ g xs (acc ++ [y]) h3 q) fun _ _ => False
    else gdsOk h2 g ∧ cmpR tg own t e σ g xs acc h2 q) fun _ _ => False
/-- a for over what is walked -/
def forR (tg : Tg) (b : TSD) (g : List Gd) (Z : En) : List D → Sl → HD → Prop
  | [], σ, h => Z.nx σ h
  | x :: xs, σ, h => tgS tg x h σ fun σ2 => b { Z with nx := fun σ' h' => gdsOk h' g ∧ forR tg b g Z xs σ' h', ct := fun σ' h' => gdsOk h' g ∧ forR tg b g Z xs σ' h', bk := Z.nx } σ2 h
/-- a while of at most n turns -/
def whlR (c : TTD) (b : TSD) (D : En) : Nat → Sl → HD → Prop
  | 0, _, _ => False
  | n + 1, σ, h => c σ h (fun k h1 => if k = true then b { D with nx := whlR c b D n, ct := whlR c b D n, bk := D.nx } σ h1 else D.nx σ h1) fun x h' => D.ex x σ h'
/-- x[y] = d -/
def setV (x y d : D) (h : HD) (k : HD → Prop) : Prop := match x with
  | .ref a => match h a with
    | some (.dic kvs) => match keyD y with
      | some kk => kvs.length < sizeLine ∧ k (hup h a (.dic (putD kvs kk d)))
      | none => False
    | some (.lst xs) => match y with
      | .int i => match L2.ixN xs.length i with
        | some j => k (hup h a (.lst (xs.set j d)))
        | none => False
      | _ => False
    | _ => False
  | _ => False
/-- x op= y -/
def augV (op : Operator) (d e : D) (h : HD) (q : VQ) : Prop := match op, d with
  | .Add, .int i => addV (.int i) e h q
  | .Add, .str s => addV (.str s) e h q
  | .Sub, d => subV d e h q
  | .Add, .ref l => (match h l, e with
    | some (.lst xs), .ref b => (match h b with
      | some (.lst zs) => xs.length + zs.length ≤ sizeLine ∧ q (.ref l) (hup h l (.lst (xs ++ zs)))
      | _ => False)
    | _, _ => False)
  | _, _ => False
/-- where one walks -/
def srcV (k : ItK) (d : Dns) : TID := match k with
  | .seq => fun σ h q r => d.i σ h (fun xs g h1 => g.all Gd.walk = true ∧ q xs g h1) r
  | k => fun σ h q r => d.a σ h (fun ds h1 => itK k ds h1 q) r
def cmpD (tg : Tg) (own : List Nat) (s : TID) (t : TTD) (e : TED) : Dn :=
  { Dn.of (fun σ h q r => s σ h (fun xs g h1 => cmpR tg own t e σ g xs [] h1 fun ys h' => ∀ p, h' p = none → q (.ref p) (hup h' p (.lst ys))) r) with
    i := fun σ h q r => s σ h (fun xs g h1 => cmpR tg own t e σ g xs [] h1 fun ys h' => q ys .hid h') r }
/-- a list or a dict that changes no more -/
def hdel (h : HD) (a : Addr) : HD := fun b => if b = a then none else h b
def frzV (d : D) (h : HD) (q : VQ) : Prop := match d with
  | .ref a => match h a with
    | some (.lst xs) => q (.kls xs) (hdel h a)
    | some (.dic kvs) => q (.kdc (kvs.map (·.1)) (kvs.map (·.2))) (hdel h a)
    | _ => False
  | d => q d h
/-- what calls do -/
structure Ca where
  call : Nat → List D → HD → VQ → XQ → Prop
  exm : Nat → Nat → Option Bool
  fv : Nat → Bool
/-- a def by its value -/
def callK (C : Ca) (o : Option D) (k : Nat → Prop) : Prop := match o with
  | some (.glo g) => C.fv g = true ∧ k g
  | _ => False
section
variable (C : Ca)
mutual
def den : E → Dn
  | .var i => .of fun σ h q _ => match (σ[i]?).join with
    | some d => q d h
    | none => False
  | .cst d => .of fun _ h q _ => q d h
  | .gl _ d => .of fun _ h q _ => q d h
  | .ty n => .of fun _ h q _ => q (.ty n) h
  | .tup es => .of fun σ h q r => (dens es).a σ h (fun ds h' => ds.length ≤ sizeLine ∧ q (.tup ds) h') r
  | .lst es => { Dn.of (fun σ h q r => (dens es).a σ h (fun ds h' => ds.length ≤ sizeLine ∧ ∀ p, h' p = none → q (.ref p) (hup h' p (.lst ds))) r) with
      i := fun σ h q r => (dens es).a σ h (fun ds h' => ds.length ≤ sizeLine ∧ q ds .hid h') r }
  | .dic ks vs => .of fun σ h q r => (dens vs).a σ h (fun ds h' => ks.length = ds.length ∧ ∀ p, h' p = none → q (.ref p) (hup h' p (.dic (ks.zip ds)))) r
  | .bin o a b => .of fun σ h q r => (den a).v σ h (fun x h1 => (den b).v σ h1 (fun y h2 => opV o x y h2 q) r) r
  | .neg a => .of fun σ h q r => (den a).v σ h (fun x h1 => negV x h1 q) r
  | .cmp o a b => .ofT (fun σ h q r => (den a).v σ h (fun x h1 => (den b).v σ h1 (fun y h2 => cmV o x y h2 q) r) r)
      fun σ h q r => (den a).v σ h (fun x h1 => (den b).v σ h1 (fun y h2 => cmV o x y h2 fun z h3 => asB z fun k => q k h3) r) r
  | .chn o o' a b c => .ofT (fun σ h q r => (den a).v σ h (fun x h1 => (den b).v σ h1 (fun y h2 => cmV o x y h2 fun z h3 => asB z fun k => if k = true then (den c).v σ h3 (fun w h4 => cmV o' y w h4 q) r else q (.bl false) h3) r) r)
      fun σ h q r => (den a).v σ h (fun x h1 => (den b).v σ h1 (fun y h2 => cmV o x y h2 fun z h3 => asB z fun k => if k = true then (den c).v σ h3 (fun w h4 => cmV o' y w h4 fun z' h5 => asB z' fun k' => q k' h5) r else q false h3) r) r
  | .nt a => .ofT (fun σ h q r => (den a).v σ h (fun x h1 => truV x h1 fun b => q (.bl (!b)) h1) r) fun σ h q r => (den a).t σ h (fun b h' => q (!b) h') r
  | .an es => (dens es).an
  | .or es => (dens es).or
  | .ife c a b => { Dn.of (fun σ h q r => (den c).t σ h (fun k h1 => if k = true then (den a).v σ h1 q r else (den b).v σ h1 q r) r) with t := fun _ _ _ _ => False }
  | .sub a i => .of fun σ h q r => (den a).v σ h (fun x h1 => (den i).v σ h1 (fun y h2 => subV' x y h2 q) r) r
  | .sl0 a => .of fun σ h q r => (den a).v σ h (fun x h1 => slcV x none none h1 q) r
  | .slL a lo => .of fun σ h q r => (den a).v σ h (fun x h1 => (den lo).v σ h1 (fun y h2 => asI y fun l => slcV x l none h2 q) r) r
  | .slU a hi => .of fun σ h q r => (den a).v σ h (fun x h1 => (den hi).v σ h1 (fun y h2 => asI y fun l => slcV x none l h2 q) r) r
  | .slB a lo hi => .of fun σ h q r => (den a).v σ h (fun x h1 => (den lo).v σ h1 (fun y h2 => asI y fun l => (den hi).v σ h2 (fun z h3 => asI z fun u => slcV x l u h3 q) r) r) r
  | .rvs a => .of fun σ h q r => (den a).v σ h (fun x h1 => rvsV x h1 q) r
  | .callv i es => .of fun σ h q r => callK C ((σ[i]?).join) fun g => (dens es).a σ h (fun ds h1 => C.call g ds h1 q r) r
  | .call f es => .of fun σ h q r => (dens es).a σ h (fun ds h1 => C.call f ds h1 q r) r
  | .bi b es => .of fun σ h q r => (dens es).a σ h (fun ds h1 => biV C.exm b ds h1 q) r
  | .bl b e => .of fun σ h q r => (den e).i σ h (fun xs g h1 => blV b xs g h1 q) r
  | .bm m o es => .of fun σ h q r => (den o).v σ h (fun x h1 => bmT m x h1 ∧ (dens es).a σ h1 (fun ds h2 => bmV m x ds h2 q) r) r
  | .comp k es tg own ifs e => cmpD tg own (srcV k (dens es)) (dens ifs).an.t (den e).v
  | .frz e => .of fun σ h q r => (den e).v σ h (fun d h1 => frzV d h1 q) r
  | .lset false e => .of fun σ h q r => (den e).i σ h (fun xs g h1 => g.isL = true ∧ ((∃ ns : List Int, xs = ns.map .int ∧ ns.length + 1 < PySem.scanBound ∧ q (.int (dedupZ ns).length) h1) ∨ ∃ ns : List Str, xs = ns.map .str ∧ ns.length + 1 < PySem.scanBound ∧ q (.int (onceL ns).length) h1)) r
  | .lset true e => .of fun σ h q r => (den e).i σ h (fun xs g h1 => g.isL = true ∧ ∃ ns : List Str, xs = ns.map .str ∧ ns.length + 1 < PySem.scanBound ∧ ∀ p, h1 p = none → q (.ref p) (hup h1 p (.lst ((sortT ns).map .str)))) r
  | .joi a e => .of fun σ h q r => (den e).i σ h (fun xs g h1 => g.isL = true ∧ ∃ ys : List Str, xs = ys.map .str ∧ (ys.map (·.length)).sum + ys.length * a.length ≤ 16777216 ∧ (Txt.join a ys).length ≤ sizeLine ∧ PyData.strOk (Txt.join a ys) = true ∧ q (.str (Txt.join a ys)) h1) r
  | .itm e => .of fun σ h q r => (den e).v σ h (fun d h1 => (∃ ks xs, d = .kdc ks xs ∧ ∀ p, h1 p = none → q (.ref p) (hup h1 p (.lst ((ks.zip xs).map fun p => .tup [kD p.1, p.2])))) ∨ ∃ a kvs, d = .ref a ∧ h1 a = some (.dic kvs) ∧ ∀ p, h1 p = none → q (.ref p) (hup h1 p (.lst (kvs.map fun p => .tup [kD p.1, p.2])))) r
  | _ => .bad
def dens : Es → Dns
  | .nil => { a := fun _ h q _ => q [] h, an := { Dn.bad with t := fun _ h q _ => q true h }, or := .bad, i := fun _ h q _ => q [] [] h }
  | .cons e .nil => { a := fun σ h q r => (den e).v σ h (fun d h1 => q [d] h1) r, an := den e, or := den e, i := fun σ h q r => (den e).i σ h (fun xs g h1 => q xs [g] h1) r }
  | .cons e es => {
      a := fun σ h q r => (den e).v σ h (fun d h1 => (dens es).a σ h1 (fun ds h2 => q (d :: ds) h2) r) r
      an := .ofT (fun σ h q r => (den e).v σ h (fun d h1 => truV d h1 fun b => if b = true then (dens es).an.v σ h1 q r else q d h1) r)
        fun σ h q r => (den e).t σ h (fun b h1 => if b = true then (dens es).an.t σ h1 q r else q false h1) r
      or := .ofT (fun σ h q r => (den e).v σ h (fun d h1 => truV d h1 fun b => if b = true then q d h1 else (dens es).or.v σ h1 q r) r)
        fun σ h q r => (den e).t σ h (fun b h1 => if b = true then q true h1 else (dens es).or.t σ h1 q r) r
      i := fun _ _ _ _ => False }
end
mutual
def denS : S → TSD
  | .pass => fun D σ h => D.nx σ h
  | .doc => fun D σ h => D.nx σ h
  | .brk => fun D σ h => D.bk σ h
  | .cnt => fun D σ h => D.ct σ h
  | .ex e => fun D σ h => (den C e).v σ h (fun _ h1 => D.nx σ h1) fun x h' => D.ex x σ h'
  | .ret e => fun D σ h => (den C e).v σ h D.rt fun x h' => D.ex x σ h'
  | .retN => fun D _ h => D.rt .non h
  | .set i e => fun D σ h => (den C e).v σ h (fun d h1 => D.nx (σ.set i (some d)) h1) fun x h' => D.ex x σ h'
  | .setT tg e => fun D σ h => (den C e).v σ h (fun d h1 => tgS tg d h1 σ fun σ' => D.nx σ' h1) fun x h' => D.ex x σ h'
  | .par i j a b => fun D σ h => (den C a).v σ h (fun d h1 => (den C b).v σ h1 (fun e h2 => D.nx ((σ.set i (some d)).set j (some e)) h2) fun x h' => D.ex x σ h') fun x h' => D.ex x σ h'
  | .setS o i e => fun D σ h => (den C e).v σ h (fun d h1 => (den C o).v σ h1 (fun x h2 => (den C i).v σ h2 (fun y h3 => setV x y d h3 fun h4 => D.nx σ h4) fun x h' => D.ex x σ h') fun x h' => D.ex x σ h') fun x h' => D.ex x σ h'
  | .aug i op e => fun D σ h => match (σ[i]?).join with
    | some d => (den C e).v σ h (fun x h1 => augV op d x h1 fun y h2 => D.nx (σ.set i (some y)) h2) fun x h' => D.ex x σ h'
    | none => False
  | .ite c a b => fun D σ h => (den C c).t σ h (fun k h1 => if k = true then denB a D σ h1 else denB b D σ h1) fun x h' => D.ex x σ h'
  | .whl c b => fun D σ h => ∃ n, whlR (den C c).t (denB b) D n σ h
  | .for_ k es tg b => fun D σ h => srcV k (dens C es) σ h (fun xs g h1 => forR tg (denB b) g D xs σ h1) fun x h' => D.ex x σ h'
  | .raise c => fun D σ h => D.ex c σ h
  | .fz i => fun D σ h => match (σ[i]?).join with
    | some d => frzV d h fun d' h' => D.nx (σ.set i (some d')) h'
    | none => False
  | .try_ b x i j => fun D σ h => denB b { D with ex := fun c σ' h' => exmK (C.exm c x) (fun _ => D.nx ((σ'.set j (some (.exc c))).set i none) h') fun _ => D.ex c σ' h' } σ h
  | _ => fun _ _ _ => False
def denB : B → TSD
  | .nil => fun D σ h => D.nx σ h
  | .cons s .nil => denS s
  | .cons s b => fun D σ h => denS s { D with nx := denB b D } σ h
end
end
end Nd
/-! Nd5: which written code a term of the small syntax stands for. -/
namespace Nd
open PySem PySem.Spec PyProof.Rows L2
/-- what is known of a def's names and of the module's -/
structure Cf where
  N : List Str
  consts : List (Str × D)
  fns : List (Str × Nat)
  cls : List (Str × Nat)
  blt : List Str
mutual
def dEq : D → D → Bool
  | .non, .non => true
  | .bl a, .bl b => a == b
  | .int a, .int b => a == b
  | .str a, .str b => decide (a = b)
  | .tup xs, .tup ys => dEqs xs ys
  | .ty a, .ty b => a == b
  | .glo a, .glo b => a == b
  | _, _ => false
def dEqs : List D → List D → Bool
  | [], [] => true
  | x :: xs, y :: ys => dEq x y && dEqs xs ys
  | _, _ => false
end
mutual
theorem dEq_ok : ∀ {a b : D}, dEq a b = true → a = b
  | .non, b, h => by cases b <;> first | rfl | cases h
  | .bl a, b, h => by cases b <;> first | (have := beq_iff_eq.mp (show (a == _) = true from h); rw [this]) | cases h
  | .int a, b, h => by cases b <;> first | (have := beq_iff_eq.mp (show (a == _) = true from h); rw [this]) | cases h
  | .str a, b, h => by cases b <;> first | (have := of_decide_eq_true (show decide (a = _) = true from h); rw [this]) | cases h
  | .tup a, b, h => by cases b <;> first | (have := dEqs_ok (show dEqs a _ = true from h); rw [this]) | cases h
  | .ty a, b, h => by cases b <;> first | (have := beq_iff_eq.mp (show (a == _) = true from h); rw [this]) | cases h
  | .glo a, b, h => by cases b <;> first | (have := beq_iff_eq.mp (show (a == _) = true from h); rw [this]) | cases h
  | .ref a, b, h => by cases b <;> cases h
  | .exc a, b, h => by cases b <;> cases h
  | .kdc a _, b, h => by cases b <;> cases h
  | .kls a, b, h => by cases b <;> cases h
theorem dEqs_ok : ∀ {a b : List D}, dEqs a b = true → a = b
  | [], b, h => by cases b <;> first | rfl | cases h
  | x :: xs, b, h => by
    cases b with
    | nil => cases h
    | cons y ys =>
      have h' := Bool.and_eq_true_iff.mp (show (dEq x y && dEqs xs ys) = true from h)
      rw [dEq_ok h'.1, dEqs_ok h'.2]
end
def visB (sc : Scope) (x : Str) : Bool := match sc.names.lookup x with
  | some .local => true
  | some .cell => true
  | some .free => true
  | _ => false
def locB (sc : Scope) (x : Str) : Bool := match sc.names.lookup x with
  | some .local => true
  | some .cell => true
  | _ => false
def onlyLoc (sc : Scope) (x : Str) : Bool := match sc.names.lookup x with
  | some .local => true
  | _ => false
def gloB (sc : Scope) (x : Str) : Bool := match sc.names.lookup x with
  | some .globalImplicit => true
  | _ => false
def odd (x : Str) : Bool := decide (x = "__debug__") || decide (x = "__classdict__") || decide (x = "__name__")
/-- a built-in's name that is the module's no more -/
def bltB (c : Cf) (sc : Scope) (x : Str) (y : Str) : Bool := decide (x = y) && gloB sc x && decide (x ∈ c.blt) && !odd x
def isStar : Expr → Bool
  | .Starred _ _ => true
  | _ => false
def isSlice : Expr → Bool
  | .Slice _ _ _ _ => true
  | _ => false
def isCall0 : Expr → Bool
  | .Call _ [] [] _ => true
  | _ => false
def isSet : Expr → Bool
  | .Set _ _ _ => true
  | _ => false
def isComp : Expr → Bool
  | .ListComp _ _ _ _ => true
  | .SetComp _ _ _ _ => true
  | .DictComp _ _ _ _ _ => true
  | _ => false
def isTup : Expr → Bool
  | .Tuple _ _ _ => true
  | _ => false
def cellB (sc : Scope) (x : Str) : Bool := match sc.names.lookup x with
  | some .cell => true
  | _ => false
/-- a name may take this -/
def setOk (sc : Scope) (y : Str) (py : Pos) : Expr → Bool
  | .ListComp _ _ scope xp => cellB sc y || onlyLoc sc y && (py.line == xp.line) && !(scope.names.any fun (n, k) => n == y && (k == .local || k == .cell))
  | .SetComp _ _ _ _ => false
  | .DictComp _ _ _ _ _ => false
  | _ => true
/-- a, b = x, y that is stored name by name -/
def parOk (sc : Scope) (x y : Str) (px py : Pos) (a b : Expr) : Bool := onlyLoc sc x && onlyLoc sc y && (px.line == py.line) && decide (x ≠ y) && !isStar a && !isStar b && !(foldedForSure 8 a && foldedForSure 8 b) && !(constantsAlone 8 a && constantsAlone 8 b)
def cellIn (sc : Scope) (es : List Expr) : Bool := es.any fun
  | .Name y _ => (match sc.names.lookup y with
    | some .cell => true
    | _ => false)
  | _ => false
/-- a, b = x, y: the parts -/
def parP : Stmt → Option (Str × Pos × Str × Pos × Expr × Expr)
  | .Assign [.Tuple [.Name x px, .Name y py] _ _] (.Tuple [a, b] _ _) _ => some (x, px, y, py, a, b)
  | _ => none
theorem parP_ok {st : Stmt} {x y : Str} {px py : Pos} {a b : Expr} (h : parP st = some (x, px, y, py, a, b)) : ∃ kt pt k2 pt2 pos, st = .Assign [.Tuple [.Name x px, .Name y py] kt pt] (.Tuple [a, b] k2 pt2) pos := by
  unfold parP at h
  split at h
  · cases h
    exact ⟨_, _, _, _, _, rfl⟩
  · cases h
/-- tests of another form -/
def oddTest : Expr → Bool
  | .UnaryOp .Not _ _ => true
  | .BoolOp _ _ _ => true
  | .IfExp _ _ _ _ => true
  | .Compare _ _ _ _ => true
  | _ => false
def biN : BI → Str
  | .isi => "isinstance" | .len => "len" | .abs => "abs" | .int1 => "int" | .max2 => "max" | .min2 => "min" | .max3 => "max" | .str1 => "str" | .bool1 => "bool" | .repr1 => "repr"
def biA : BI → Nat
  | .isi => 2 | .max2 => 2 | .min2 => 2 | .max3 => 3 | _ => 1
def blN : BL → Str
  | .tuple => "tuple" | .list => "list" | .sum => "sum" | .max => "max" | .min => "min" | .all => "all" | .any => "any" | .sorted => "sorted" | .dict => "dict"
def bmN : BM → Str
  | .append => "append" | .pop0 => "pop" | .pop1 => "pop" | .insert => "insert" | .get1 => "get" | .get2 => "get" | .index => "index" | .count => "count" | .extend => "extend" | .clear => "clear" | .remove => "remove" | .split => "split" | .join => "join" | .update => "update" | .upper => "upper" | .clearD => "clear"
/-- methods that are served -/
def bmOk : BM → Bool
  | .append => true
  | .pop0 => true
  | .clear => true
  | .clearD => true
  | .count => true
  | .index => true
  | _ => false
def bmA : BM → Nat
  | .pop0 => 0 | .clear => 0 | .clearD => 0 | .upper => 0 | .insert => 2 | .get2 => 2 | _ => 1
def itN : ItK → Str
  | .rng1 => "range" | .rng2 => "range" | .rng3 => "range" | .zip2 => "zip" | .zip3 => "zip" | .zipS => "zip" | .enum => "enumerate" | .enumT => "enumerate" | .rev => "reversed" | _ => ""
def tyS (n : String) : Bool := n == "ValueError" || n == "int" || n == "bool" || n == "str" || n == "tuple" || n == "list" || n == "dict"
/-- walks that are served, how many things they take -/
def itA : ItK → Option Nat
  | .rng1 => some 1 | .rng2 => some 2 | .rng3 => some 3 | .zip2 => some 2 | .zip3 => some 3 | .zipS => some 2 | .enum => some 1 | .enumT => some 1 | .rev => some 1 | _ => none
/-- the walks of pairs -/
def itT : ItK → Bool
  | .enumT => true | .zip2 => true | .zip3 => true | .zipS => true | .enum => true | _ => false
def keyB : Key → Bool
  | .inl _ => true
  | .inr s => decide (s.length ≤ sizeLine) && PyData.strOk s
theorem keyB_ok {ks : List Key} (h : ks.all keyB = true) : ∀ k ∈ ks, KeyG k := fun k hk => by
  have := List.all_eq_true.mp h k hk
  cases k with
  | inl i => trivial
  | inr s =>
    have := Bool.and_eq_true_iff.mp (show (decide (s.length ≤ sizeLine) && PyData.strOk s) = true from this)
    exact ⟨of_decide_eq_true this.1, this.2⟩
/-- keys that are written -/
def chkKs : List Key → List (Option Expr) → Bool
  | [], [] => true
  | .inl i :: ks, some (.Constant (.int j) _ _) :: es => decide (i = j) && chkKs ks es
  | .inr s :: ks, some (.Constant (.str t) _ _) :: es => decide (s = t) && chkKs ks es
  | _, _ => false
def chkTg (c : Cf) (sc : Scope) : Tg → Expr → Bool
  | .nm i, .Name x _ => decide (c.N[i]? = some x) && locB sc x
  | .tp l, .Tuple es _ _ => go l es
  | .ul l, .Tuple es _ _ => go l es
  | _, _ => false
where go : List Nat → List Expr → Bool
  | [], [] => true
  | i :: l, .Name x _ :: es => decide (c.N[i]? = some x) && locB sc x && go l es
  | _, _ => false
def tgSlots : Tg → List Nat
  | .nm i => [i]
  | .tp l => l
  | .ul l => l
/-- a comprehension's own names, by slots -/
def ownOf (c : Cf) (own : List Nat) : List (Str × Nat) := own.map fun i => ((c.N[i]?).getD "", i)
/-- where one walks, its parts being fit -/
def srcOk (f : List Expr → Bool) (c : Cf) (sc : Scope) (k : ItK) (tx it : Expr) : Bool := match k, it with
  | .seq, it => f [it]
  | .items, .Call (.Attribute x y ap) [] [] p => decide (y = "items") && f [x] && isTup tx && (ap.endLine == p.line) && !isCall0 x
  | .values, .Call (.Attribute x y ap) [] [] p => decide (y = "values") && f [x] && (ap.endLine == p.line) && !isCall0 x
  | k, .Call (.Name y _) m [] _ => bltB c sc y (itN k) && f m && decide (itA k = some m.length) && (!itT k || isTup tx)
  | _, _ => false
def isFrz : E → Bool
  | .frz _ => true
  | _ => false
mutual
def chkE (c : Cf) (sc : Scope) : E → Expr → Bool
  | .var i, .Name x _ => decide (c.N[i]? = some x) && visB sc x && !odd x
  | .frz e, x => chkE c sc e x && !oddTest x
  | .lset false e, .Call (.Name x _) [.Call (.Name y _) [z] [] _] [] _ => bltB c sc x "len" && bltB c sc y "set" && chkE c sc e z && !isStar z
  | .lset true e, .Call (.Name x _) [.Call (.Name y _) [z] [] _] [] _ => bltB c sc x "sorted" && bltB c sc y "set" && chkE c sc e z && !isStar z
  | .itm e, .Call (.Name x _) [.Call (.Attribute z y ap) [] [] p] [] _ => bltB c sc x "list" && decide (y = "items") && chkE c sc e z && (ap.endLine == p.line) && !isCall0 z
  | .joi a e, .Call (.Attribute (.Constant (.str b) _ _) f ap) [z] [] p => decide (f = "join") && decide (a = b) && chkE c sc e z && !isStar z && (ap.endLine == p.line)
  | .cst .non, .Constant .none _ _ => true
  | .cst (.bl a), .Constant (.bool b) _ _ => a == b
  | .cst (.int a), .Constant (.int b) _ _ => a == b
  | .cst (.str a), .Constant (.str b) _ _ => decide (a = b) && decide (a.length ≤ sizeLine) && PyData.strOk a
  | .gl y d, .Name x _ => decide (x = y) && gloB sc x && !odd x && (match c.consts.lookup x with
    | some e => dEq d e
    | none => false)
  | .ty n, .Name x _ => tyS n && bltB c sc x (Str.ofString n)
  | .tup es, .Tuple l _ _ => chkEs c sc es l
  | .lst es, .List l _ => chkEs c sc es l
  | .dic ks vs, .Dict l m _ => chkKs ks l && chkEs c sc vs m && decide (l.length = m.length) && decide (l.length ≤ 15) && decide (ks.Nodup) && ks.all keyB
  | .bin o a b, .BinOp x o' y _ => decide (o = o') && chkE c sc a x && chkE c sc b y
  | .neg a, .UnaryOp .USub x _ => chkE c sc a x
  | .cmp o a b, .Compare x [o'] [y] _ => decide (o = o') && chkE c sc a x && chkE c sc b y && !isSet y
  | .chn o p a b d, .Compare x [o', p'] [y, z] _ => decide (o = o') && decide (p = p') && chkE c sc a x && chkE c sc b y && chkE c sc d z && !isSet y && !isSet z
  | .nt a, .UnaryOp .Not x _ => chkE c sc a x
  | .an es, .BoolOp .And l _ => chkEs c sc es l && decide (2 ≤ l.length)
  | .or es, .BoolOp .Or l _ => chkEs c sc es l && decide (2 ≤ l.length)
  | .ife t a b, .IfExp x y z _ => chkE c sc t x && chkE c sc a y && chkE c sc b z
  | .sub a i, .Subscript x y _ => chkE c sc a x && chkE c sc i y && !isSlice y
  | .sl0 a, .Subscript x (.Slice none none none _) _ => chkE c sc a x
  | .slL a lo, .Subscript x (.Slice (some l) none none _) _ => chkE c sc a x && chkE c sc lo l
  | .slU a hi, .Subscript x (.Slice none (some u) none _) _ => chkE c sc a x && chkE c sc hi u
  | .slB a lo hi, .Subscript x (.Slice (some l) (some u) none _) _ => chkE c sc a x && chkE c sc lo l && chkE c sc hi u
  | .rvs a, .Subscript x (.Slice none none (some (.UnaryOp .USub (.Constant (.int k) _ _) _)) _) _ => decide (k = 1) && chkE c sc a x
  | .callv i es, .Call (.Name x _) l [] _ => decide (c.N[i]? = some x) && visB sc x && !odd x && decide (1 ≤ l.length) && chkEs c sc es l
  | .call f es, .Call (.Name x _) l [] _ => gloB sc x && !odd x && decide (c.fns.lookup x = some f) && chkEs c sc es l
  | .bi b es, .Call (.Name x _) l [] _ => bltB c sc x (biN b) && chkEs c sc es l && decide (l.length = biA b)
  | .bl b e, .Call (.Name x _) [z] [] _ => bltB c sc x (blN b) && chkE c sc e z && !isStar z
  | .bm m o es, .Call (.Attribute x f ap) l [] p => bmOk m && decide (f = bmN m) && chkE c sc o x && chkEs c sc es l && decide (l.length = bmA m) && (ap.endLine == p.line) && !isCall0 x
  | .comp k es tg own ifs e, .ListComp x [⟨t, it, l, 0⟩] scope _ => blkC c.N sc scope (ownOf c own) && (tgSlots tg).all (fun i => decide (i ∈ own)) && chkTg c scope tg t && chkEs c scope ifs l && decide (l.length ≤ 1) && chkE c scope e x && !isSet it && srcOk (fun m => chkEs c sc es m) c sc k t it
  | _, _ => false
def chkEs (c : Cf) (sc : Scope) : Es → List Expr → Bool
  | .nil, [] => true
  | .cons e es, x :: l => chkE c sc e x && !isStar x && chkEs c sc es l
  | _, _ => false
end
/-- try: body, except x as n: y = n -/
def tryP : Stmt → Option (List Stmt × Str × Str × Str)
  | .Try body [.ExceptHandler (some (.Name x _)) (some n) [.Assign [.Name y _] (.Name n' _) _] _] [] [] _ => if n' = n then some (body, x, n, y) else none
  | _ => none
theorem tryP_ok {st : Stmt} {body : List Stmt} {x n y : Str} (h : tryP st = some (body, x, n, y)) : ∃ np yp ap p2 pos' pos, st = .Try body [.ExceptHandler (some (.Name x np)) (some n) [.Assign [.Name y yp] (.Name n ap) p2] pos'] [] [] pos := by
  unfold tryP at h
  split at h
  · rename_i n' _ _ _
    split at h
    · rename_i e
      subst e
      cases h
      exact ⟨_, _, _, _, _, _, rfl⟩
    · cases h
  · cases h
mutual
def chkS (c : Cf) (sc : Scope) : S → Stmt → Bool
  | .pass, .Pass _ => true
  | .doc, .Expr (.Constant (.str _) _ _) _ => true
  | .brk, .Break _ => true
  | .cnt, .Continue _ => true
  | .ex e, .Expr x _ => chkE c sc e x && !isComp x
  | .ret e, .Return (some x) _ => chkE c sc e x
  | .retN, .Return none _ => true
  | .set i e, .Assign [.Name y py] x p => decide (c.N[i]? = some y) && locB sc y && chkE c sc e x && setOk sc y py x && !(isFrz e && isComp x)
  | .setT tg e, .Assign [.Tuple es k q] x p => chkTg c sc tg (.Tuple es k q) && chkE c sc e x && !isComp x && (!isTup x || cellIn sc es)
  | .setS o i e, .Assign [.Subscript x y _] z _ => chkE c sc e z && chkE c sc o x && chkE c sc i y && !isSlice y
  | .aug i op e, .AugAssign (.Name y _) o x _ => decide (op = o) && decide (c.N[i]? = some y) && locB sc y && chkE c sc e x
  | .ite t a b, .If x l m _ => chkE c sc t x && chkB c sc a l && chkB c sc b m
  | .whl t b, .While x l [] _ => chkE c sc t x && chkB c sc b l
  | .for_ k es tg b, .For t it l [] _ => chkTg c sc tg t && chkB c sc b l && !isSet it && srcOk (fun m => chkEs c sc es m) c sc k t it
  | .par i j a b, st => match parP st with
    | some (x, px, y, py, e1, e2) => decide (c.N[i]? = some x) && decide (c.N[j]? = some y) && decide (i ≠ j) && parOk sc x y px py e1 e2 && chkE c sc a e1 && chkE c sc b e2
    | none => false
  | .try_ b g i j, st => match tryP st with
    | some (body, x, n, y) => chkB c sc b body && (gloB sc x && !odd x && decide (c.cls.lookup x = some g)) && (decide (c.N[i]? = some n) && onlyLoc sc n && !odd n) && (decide (c.N[j]? = some y) && locB sc y && decide (i ≠ j) && decide (g ≠ 1000000))
    | none => false
  | .raise g, .Raise (some (.Call (.Name x _) [.Constant (.str _) _ _] [] _)) none _ => gloB sc x && !odd x && decide (c.cls.lookup x = some g)
  | _, _ => false
def chkB (c : Cf) (sc : Scope) : B → List Stmt → Bool
  | .nil, [] => true
  | .cons s b, l => match s with
    | .fz _ => chkB c sc b l
    | s => match l with
      | x :: l' => chkS c sc s x && chkB c sc b l'
      | [] => false
  | _, _ => false
end
theorem chkB_cons {c : Cf} {sc : Scope} {s : S} {b : B} {l : List Stmt} (h : chkB c sc (.cons s b) l = true) : (∃ i, s = .fz i ∧ chkB c sc b l = true) ∨ ∃ x l', l = x :: l' ∧ chkS c sc s x = true ∧ chkB c sc b l' = true := by
  cases s with
  | fz i => exact .inl ⟨i, rfl, h⟩
  | _ => cases l with
    | nil => cases h
    | cons x l' => exact .inr ⟨x, l', rfl, Bool.and_eq_true_iff.mp h⟩
end Nd
/-! Nd6: contexts, iteration, the parts of the soundness of the small syntax. -/
namespace Nd
open PySem PySem.Spec PyProof.Rows L2
/-- the names of a scope as they stand in a running frame -/
structure EnvOk (sc : Scope) (X : Cx) : Prop where
  loc : ∀ x, sc.names.lookup x = some .local → X.env.scope.names.lookup x = some .local
  cell : ∀ x, sc.names.lookup x = some .cell → X.env.scope.names.lookup x = some .cell ∧ X.fn x = true
  free : ∀ x, sc.names.lookup x = some .free → X.env.scope.names.lookup x = some .free ∨ X.env.scope.names.lookup x = some .cell
  glo : ∀ x, sc.names.lookup x = some .globalImplicit → X.env.scope.names.lookup x = some .globalImplicit
/-- what a def promises: what its denotation says -/
def spOf (K : PySem.W.Frag) (G : Nat → Addr) (call : List D → HD → VQ → XQ → Prop) : Sp := fun vs H Q E =>
  ∃ ds h q r, RDs K G H ds vs ∧ RH K G H h ∧ call ds h q r ∧ Cont K G H h q Q ∧ ∀ c h' H', Fx H h H' h' → RH K G H' h' → r c h' → E (.ref (G c)) none H'
structure FnAt (X : Cx) (G : Nat → Addr) (n : Nat) (call : List D → HD → VQ → XQ → Prop) (f : Addr) : Prop where
  ok : ∃ fd ps, FnG X.prog X.w X.K X.mg X.base (CX X.prog X.w) n f fd ps (spOf X.K G call) ∧ Binds X.K fd ps []
  kp : PySem.W.keepIn X.K (.ref f) = true
structure ExcAt (X : Cx) (C : Addr) : Prop where
  ex : PySem.W.excIn X.K C [.type "ValueError", .type "Exception", .type "BaseException", .type "object"] "ValueError.__new__" = true
  kp : PySem.W.keepIn X.K (.ref C) = true
  sub : PySem.W.subIn X.K (.ref C) (.type "BaseException") = some true
  ty : PySem.W.typeIn X.K (.ref C) = some (.type "type")
/-- what isinstance asks of a caught error's class -/
def ExmOk (K : PySem.W.Frag) (G : Nat → Addr) (C : Ca) : Prop := ∀ c g b, C.exm c g = some b → ExcC K (G c) ∧ (g = 1000000 → PySem.W.kitOne K (.ref (G c)) (.type "ValueError") = some b) ∧ (g ≠ 1000000 → PySem.W.kitOne K (.ref (G c)) (.ref (G g)) = some b ∧ PySem.W.exmOne K (.ref (G c)) (.ref (G g)) = some b)
/-- the module's facts that code leans on -/
structure GF (X : Cx) (G : Nat → Addr) (C : Ca) (c : Cf) (n : Nat) : Prop where
  blt : ∀ x ∈ c.blt, X.mg x = none
  consts : ∀ x d, c.consts.lookup x = some d → ∃ u v, X.mg x = some u ∧ RelV v u ∧ ∀ H, RD X.K G H d v
  fns : ∀ x f, c.fns.lookup x = some f → X.mg x = some (.ref (G f)) ∧ FnAt X G n (C.call f) (G f)
  cls : ∀ x g, c.cls.lookup x = some g → X.mg x = some (.ref (G g)) ∧ ExcAt X (G g)
  exm : ExmOk X.K G C
  fv : ∀ g, C.fv g = true → FnAt X G n (C.call g) (G g)
structure Co (X : Cx) (G : Nat → Addr) (W : WX) (C : Ca) (c : Cf) (sc : Scope) (n : Nat) : Prop where
  hN : X.N = c.N
  nd : X.N.Nodup
  env : EnvOk sc X
  calm : X.calm = true
  room : Room n X.A
  gd : X.A.guards = some []
  tk : Takes X W
  gf : GF X G C c n
section
variable {X : Cx} {G : Nat → Addr} {W : WX} {C : Ca} {c : Cf} {sc : Scope} {n : Nat}
theorem odd_no {x : Str} (h : (!odd x) = true) : (x == ("__debug__" : Str)) = false ∧ (x == ("__classdict__" : Str)) = false ∧ x ≠ "__name__" := by
  unfold odd at h
  rw [Bool.not_eq_true', Bool.or_eq_false_iff, Bool.or_eq_false_iff] at h
  obtain ⟨⟨h1, h2⟩, h3⟩ := h
  exact ⟨by simpa using of_decide_eq_false h1, by simpa using of_decide_eq_false h2, of_decide_eq_false h3⟩
theorem vis_ok (e : EnvOk sc X) {x : Str} (h : visB sc x = true) : Vis X.env.scope x := by
  unfold visB at h
  split at h
  · rename_i q; exact .inl (e.loc x q)
  · rename_i q; exact .inr (.inl (e.cell x q).1)
  · rename_i q
    rcases e.free x q with z | z
    · exact .inr (.inr z)
    · exact .inr (.inl z)
  · cases h
theorem loc_ok (e : EnvOk sc X) {x : Str} (h : locB sc x = true) : Loc X.env.scope x ∧ (X.fn x = true ∨ X.env.scope.names.lookup x = some .local) := by
  unfold locB at h
  split at h
  · rename_i q; exact ⟨.inl (e.loc x q), .inr (e.loc x q)⟩
  · rename_i q; exact ⟨.inr (e.cell x q).1, .inl (e.cell x q).2⟩
  · cases h
theorem glo_ok (e : EnvOk sc X) {x : Str} (h : gloB sc x = true) : Gl X x := by
  unfold gloB at h
  split at h
  · rename_i q; exact e.glo x q
  · cases h
theorem blt_ok (co : Co X G W C c sc n) {x y : Str} (h : bltB c sc x y = true) : x = y ∧ Gl X x ∧ X.mg x = none ∧ (x == ("__debug__" : Str)) = false ∧ x ≠ "__name__" := by
  unfold bltB at h
  rw [Bool.and_eq_true, Bool.and_eq_true, Bool.and_eq_true] at h
  obtain ⟨⟨⟨h1, h2⟩, h3⟩, h4⟩ := h
  obtain ⟨o1, _, o3⟩ := odd_no h4
  exact ⟨of_decide_eq_true h1, glo_ok co.env h2, co.gf.blt x (of_decide_eq_true h3), o1, o3⟩
/-! ### what is walked -/
inductive ItR (K : PySem.W.Frag) (G : Nat → Addr) (H : Hp) (h : HD) : V → List D → Gd → Prop
  | tup {p : Addr} {vs : List V} {xs : List D} : TupAt K H p vs → RDs K G H xs vs → xs.length ≤ sizeLine → ItR K G H h (.ref p) xs .tp
  | str {s : Str} : StrG s → ItR K G H h (.str s) (chars s) .st
  | lst {p : Addr} {xs : List D} : h p = some (.lst xs) → ItR K G H h (.ref p) xs (.ls p (.lst xs))
  | kls {p : Addr} {vs : List V} {xs : List D} : KlsAt K H p vs → RDs K G H xs vs → xs.length ≤ sizeLine → ItR K G H h (.ref p) xs .kl
  | kdc {p : Addr} {ks : List Key} {xs : List D} {vs : List V} : KdcAt H p (ks.zip vs) → KdG ks xs → xs.length ≤ sizeLine → RDs K G H xs vs → ItR K G H h (.ref p) (ks.map kD) .kd
  | dic {p : Addr} {kvs : List (Key × D)} : h p = some (.dic kvs) → ItR K G H h (.ref p) (kvs.map fun q => kD q.1) (.ls p (.dic kvs))
  | hid {p : Addr} {vs : List V} {xs : List D} : H p = some (.lst vs) → h p = none → RDs K G H xs vs → xs.length ≤ sizeLine → ItR K G H h (.ref p) xs .hid
def liftI (K : PySem.W.Frag) (G : Nat → Addr) (W : WX) (t : Sl → HD → (List D → Gd → HD → Prop) → XQ → Prop) : TE := fun σ H Q => ∃ a h q r, RS K G H a σ ∧ RH K G H h ∧ t a h q r ∧
  (∀ xs g h' v H', Fx H h H' h' → ItR K G H' h' v xs g → RH K G H' h' → q xs g h' → Q v H') ∧ ContX K G W σ H h r
structure Snd (X : Cx) (G : Nat → Addr) (W : WX) (d : Dn) (e : Expr) : Prop where
  v : PE X e (lift X.K G W d.v)
  t : PT X e (liftT X.K G W d.t)
  i : PE X e (liftI X.K G W d.i)
theorem RDs.emp {K : PySem.W.Frag} {H : Hp} {ds : List D} {vs : List V} (r : RDs K G H ds vs) : ds.isEmpty = vs.isEmpty := by
  cases r <;> rfl
theorem tru_of {K : PySem.W.Frag} {H : Hp} {h : HD} {d : D} {x : V} {k : Bool → Prop} (r : RD K G H d x) (rh : RH K G H h) (t : truV d h k) : ∃ b, TruV K x H b ∧ k b := by
  cases r with
  | non => exact ⟨false, rfl, t⟩
  | bl b => exact ⟨b, rfl, t⟩
  | int i => exact ⟨_, rfl, t⟩
  | str s g => exact ⟨_, ⟨g.1, rfl⟩, t⟩
  | tup ta l r => exact ⟨_, .inr (.inl ⟨_, ta.sq, rfl⟩), by rw [← r.emp]; exact t⟩
  | kls ta l r => exact ⟨_, .inl ⟨_, ta.sq, rfl⟩, by rw [← r.emp]; exact t⟩
  | ref a =>
    unfold truV at t
    dsimp only at t
    split at t
    · rename_i xs e
      obtain ⟨vs, h1, _, h3⟩ := rh a _ e
      exact ⟨_, .inl ⟨vs, .inl (.inl h1), rfl⟩, by rw [← h3.emp]; exact t⟩
    · rename_i xs e
      obtain ⟨vs, h1, _, h3, _⟩ := rh a _ e
      refine ⟨_, .inr (.inr ⟨vs, h1, rfl⟩), ?_⟩
      have : xs.isEmpty = vs.isEmpty := by cases h3 <;> rfl
      rw [← this]; exact t
    · exact t.elim
  | ty n => exact t.elim
  | glo g => exact t.elim
  | exc t' => exact t.elim
  | kdc _ _ _ _ => exact t.elim
theorem it_of {K : PySem.W.Frag} {H : Hp} {h : HD} {d : D} {x : V} {k : List D → Gd → Prop} (r : RD K G H d x) (rh : RH K G H h) (t : itV d h k) : ∃ xs g, ItR K G H h x xs g ∧ k xs g := by
  cases r with
  | str s g => exact ⟨_, _, .str g, t⟩
  | tup ta l r => exact ⟨_, _, .tup ta r l, t⟩
  | kls ta l r => exact ⟨_, _, .kls ta r l, t⟩
  | kdc ta n l r => exact ⟨_, _, .kdc ta n l r, t⟩
  | ref a =>
    unfold itV at t
    dsimp only at t
    split at t
    · rename_i xs e; exact ⟨_, _, .lst e, t⟩
    · rename_i xs e; exact ⟨_, _, .dic e, t⟩
    · exact t.elim
  | non => exact t.elim
  | bl b => exact t.elim
  | int i => exact t.elim
  | ty n => exact t.elim
  | glo g => exact t.elim
  | exc t' => exact t.elim
theorem plainT {e : Expr} (h : oddTest e = false) : ∀ whole, isTrue e X.env whole = (do let v ← whole; standAt e.pos; holding [v] (truthy v)) := by
  intro whole
  cases e with
  | UnaryOp o a p => cases o <;> first | rfl | cases h
  | BoolOp o a p => cases h
  | IfExp a b c' p => cases h
  | Compare a b c' p => cases h
  | _ => rfl
theorem snd_t {e : Expr} {v : TED} (hv : PE X e (lift X.K G W v)) (ho : oddTest e = false) : PT X e (liftT X.K G W (Dn.of v).t) :=
  PT.imp (pt_truth hv (plainT ho)) fun σ H Q ⟨a, h, q, r, rs, rh, ht, k, kx⟩ => ⟨a, h, _, r, rs, rh, ht, fun d h1 v1 H1 fx rd rh1 hq => by
    obtain ⟨b, t1, t2⟩ := tru_of (k := fun b => q b h1) rd rh1 hq
    exact ⟨b, t1, k b h1 H1 fx rh1 t2⟩, kx⟩
theorem snd_i {e : Expr} {v : TED} (hv : PE X e (lift X.K G W v)) : PE X e (liftI X.K G W (Dn.of v).i) :=
  PE.imp hv fun σ H Q ⟨a, h, q, r, rs, rh, ht, k, kx⟩ => ⟨a, h, _, r, rs, rh, ht, fun d h1 v1 H1 fx rd rh1 hq => by
    obtain ⟨xs, g, t1, t2⟩ := it_of (k := fun xs g => q xs g h1) rd rh1 hq
    exact k xs g h1 v1 H1 fx t1 rh1 t2, kx⟩
theorem snd_of {e : Expr} {v : TED} (hv : PE X e (lift X.K G W v)) (ho : oddTest e = false) : Snd X G W (Dn.of v) e := ⟨hv, snd_t hv ho, snd_i hv⟩
theorem pe_false {e : Expr} {t : TE} (h : ∀ σ H Q, ¬ t σ H Q) : PE X e t := ⟨fun _ _ _ _ _ _ q => absurd q (h _ _ _)⟩
theorem pt_false {e : Expr} {t : TT} (h : ∀ σ H Q, ¬ t σ H Q) : PT X e t := ⟨fun _ _ _ _ _ _ q => absurd q (h _ _ _)⟩
theorem i_no {e : Expr} : PE X e (liftI X.K G W fun _ _ _ _ => False) := pe_false fun _ _ _ ⟨_, _, _, _, _, _, f, _⟩ => f
theorem snd_bad {e : Expr} : Snd X G W Dn.bad e := ⟨pe_false fun _ _ _ ⟨_, _, _, _, _, _, f, _⟩ => f, pt_false fun _ _ _ ⟨_, _, _, _, _, _, f, _⟩ => f, pe_false fun _ _ _ ⟨_, _, _, _, _, _, f, _⟩ => f⟩
/-! ### names, constants -/
theorem p_var (co : Co X G W C c sc n) {i : Nat} {x : Str} {pos : Pos} (h1 : c.N[i]? = some x) (h2 : visB sc x = true) (h3 : (!odd x) = true) : PE X (.Name x pos) (lift X.K G W fun σ h q _ => match (σ[i]?).join with
    | some d => q d h
    | none => False) := by
  obtain ⟨o1, o2, _⟩ := odd_no h3
  refine PE.imp (pe_var (i := i) (by rw [co.hN]; exact h1) (vis_ok co.env h2) o1 o2) fun σ H Q ⟨a, h, q, r, rs, rh, ht, k, kx⟩ => ?_
  dsimp only at ht
  cases e : a[i]? with
  | none => rw [e] at ht; exact ht.elim
  | some o =>
    rw [e] at ht
    cases o with
    | none => exact ht.elim
    | some d =>
      obtain ⟨v, e1, e2⟩ := rs.get e
      exact ⟨v, e1, k d h v H Fx.refl e2 rh ht⟩
theorem p_con {e : Expr} {d : D} {v : V} (he : PE X e (tC v)) (r : ∀ H, RD X.K G H d v) : PE X e (lift X.K G W fun _ h q _ => q d h) :=
  PE.imp he fun σ H Q ⟨a, h, q, rr, rs, rh, ht, k, kx⟩ => k d h v H Fx.refl (r H) rh ht
theorem p_gl (co : Co X G W C c sc n) {x : Str} {d : D} {pos : Pos} (h1 : gloB sc x = true) (h2 : (!odd x) = true) (h3 : c.consts.lookup x = some d) : PE X (.Name x pos) (lift X.K G W fun _ h q _ => q d h) := by
  obtain ⟨u, v, e1, e2, e3⟩ := co.gf.consts x d h3
  exact p_con (pe_glob (glo_ok co.env h1) e1 e2 (odd_no h2).1) e3
/-! ### two in a row -/
theorem p_bin {a b : Expr} {ta tb : TED} {op : Operator} {r : OpD} {pos : Pos} (ha : PE X a (lift X.K G W ta)) (hb : PE X b (lift X.K G W tb)) (ho : OpR X (binaryOp op) (lop X.K G r)) :
    PE X (.BinOp a op b pos) (lift X.K G W fun σ h q x => ta σ h (fun d h1 => tb σ h1 (fun e h2 => r d e h2 q) x) x) :=
  PE.imp (pe_op ho ha hb) fun σ H Q ⟨a, h, q, x, rs, rh, ht, k, kx⟩ =>
    ⟨a, h, _, x, rs, rh, ht, fun d h1 v1 H1 fx1 rd1 rh1 hq1 => ⟨a, h1, _, x, rs.ext fx1.ext, rh1, hq1, fun e h2 v2 H2 fx2 rd2 rh2 hq2 => ⟨d, e, h2, q, rd1.ext fx2.ext, rd2, rh2, hq2, k.ext (fx1.trans fx2)⟩, kx.ext fx1⟩, kx⟩
theorem nomark' {b : Expr} {op : CmpOp} (h : (!isSet b) = true) : behindInMarks op b = false := by
  cases b <;> first | rfl | cases h
theorem nomarks' {b b' : Expr} {op op' : CmpOp} (h : (!isSet b') = true) : lastMarks [op, op'] [b, b'] = false := nomark' h
theorem p_cmp {a b : Expr} {ta tb : TED} {op : CmpOp} {r : OpD} {pos : Pos} (ha : PE X a (lift X.K G W ta)) (hb : PE X b (lift X.K G W tb)) (ho : OpR X (compareOp op) (lop X.K G r)) (hm : (!isSet b) = true) :
    PE X (.Compare a [op] [b] pos) (lift X.K G W fun σ h q x => ta σ h (fun d h1 => tb σ h1 (fun e h2 => r d e h2 q) x) x) :=
  PE.imp (pe_cmpR ho ha hb (nomark' hm)) fun σ H Q ⟨a, h, q, x, rs, rh, ht, k, kx⟩ =>
    ⟨a, h, _, x, rs, rh, ht, fun d h1 v1 H1 fx1 rd1 rh1 hq1 => ⟨a, h1, _, x, rs.ext fx1.ext, rh1, hq1, fun e h2 v2 H2 fx2 rd2 rh2 hq2 => ⟨d, e, h2, q, rd1.ext fx2.ext, rd2, rh2, hq2, k.ext (fx1.trans fx2)⟩, kx.ext fx1⟩, kx⟩
theorem asB_of {K : PySem.W.Frag} {H : Hp} {d : D} {v : V} {k : Bool → Prop} (r : RD K G H d v) (h : asB d k) : ∃ b, v = .bl b ∧ k b := by
  cases r with
  | bl b => exact ⟨b, rfl, h⟩
  | _ => exact h.elim
theorem t_cmp {a b : Expr} {ta tb : TED} {op : CmpOp} {r : OpD} {pos : Pos} (ha : PE X a (lift X.K G W ta)) (hb : PE X b (lift X.K G W tb)) (ho : OpR X (compareOp op) (lop X.K G r)) (hm : (!isSet b) = true) :
    PT X (.Compare a [op] [b] pos) (liftT X.K G W fun σ h q x => ta σ h (fun d h1 => tb σ h1 (fun e h2 => r d e h2 fun z h3 => asB z fun k => q k h3) x) x) :=
  PT.imp (pt_cmpR ho ha hb (nomark' hm)) fun σ H Q ⟨a, h, q, x, rs, rh, ht, k, kx⟩ =>
    ⟨a, h, _, x, rs, rh, ht, fun d h1 v1 H1 fx1 rd1 rh1 hq1 => ⟨a, h1, _, x, rs.ext fx1.ext, rh1, hq1, fun e h2 v2 H2 fx2 rd2 rh2 hq2 => ⟨d, e, h2, _, rd1.ext fx2.ext, rd2, rh2, hq2, fun z h3 v3 H3 fx3 rd3 rh3 hq3 => by
      obtain ⟨b, e1, e2⟩ := asB_of rd3 hq3
      exact ⟨b, e1, k b h3 H3 (fx1.trans (fx2.trans fx3)) rh3 e2⟩⟩, kx.ext fx1⟩, kx⟩
theorem p_chn {a b e : Expr} {ta tb tc : TED} {op op' : CmpOp} {r r' : OpD} {pos : Pos} (ha : PE X a (lift X.K G W ta)) (hb : PE X b (lift X.K G W tb)) (hc : PE X e (lift X.K G W tc)) (ho : OpR X (compareOp op) (lop X.K G r)) (ho' : OpR X (compareOp op') (lop X.K G r'))
    (hm : (!isSet e) = true) :
    PE X (.Compare a [op, op'] [b, e] pos) (lift X.K G W fun σ h q x => ta σ h (fun d h1 => tb σ h1 (fun e h2 => r d e h2 fun z h3 => asB z fun k => if k = true then tc σ h3 (fun w h4 => r' e w h4 q) x else q (.bl false) h3) x) x) :=
  PE.imp (pe_chain ho ho' ha hb hc (nomarks' hm)) fun σ H Q ⟨a, h, q, x, rs, rh, ht, k, kx⟩ =>
    ⟨a, h, _, x, rs, rh, ht, fun d h1 v1 H1 fx1 rd1 rh1 hq1 => ⟨a, h1, _, x, rs.ext fx1.ext, rh1, hq1, fun e h2 v2 H2 fx2 rd2 rh2 hq2 => ⟨d, e, h2, _, rd1.ext fx2.ext, rd2, rh2, hq2, fun z h3 v3 H3 fx3 rd3 rh3 hq3 => by
      obtain ⟨b, e1, e2⟩ := asB_of rd3 hq3
      have f3 := fx1.trans (fx2.trans fx3)
      refine ⟨b, e1, ?_⟩
      cases b with
      | true => exact ⟨a, h3, _, x, rs.ext f3.ext, rh3, e2, fun w h4 v4 H4 fx4 rd4 rh4 hq4 => ⟨e, w, h4, q, rd2.ext (fx3.trans fx4).ext, rd4, rh4, hq4, k.ext (f3.trans fx4)⟩, kx.ext f3⟩
      | false => exact k _ _ _ _ f3 (.bl false) rh3 e2⟩, kx.ext fx1⟩, kx⟩
theorem t_chn {a b e : Expr} {ta tb tc : TED} {op op' : CmpOp} {r r' : OpD} {pos : Pos} (ha : PE X a (lift X.K G W ta)) (hb : PE X b (lift X.K G W tb)) (hc : PE X e (lift X.K G W tc)) (ho : OpR X (compareOp op) (lop X.K G r)) (ho' : OpR X (compareOp op') (lop X.K G r'))
    (hm : (!isSet e) = true) :
    PT X (.Compare a [op, op'] [b, e] pos) (liftT X.K G W fun σ h q x => ta σ h (fun d h1 => tb σ h1 (fun e h2 => r d e h2 fun z h3 => asB z fun k => if k = true then tc σ h3 (fun w h4 => r' e w h4 fun z' h5 => asB z' fun k' => q k' h5) x else q false h3) x) x) :=
  PT.imp (pt_chain ho ho' ha hb hc (nomarks' hm)) fun σ H Q ⟨a, h, q, x, rs, rh, ht, k, kx⟩ =>
    ⟨a, h, _, x, rs, rh, ht, fun d h1 v1 H1 fx1 rd1 rh1 hq1 => ⟨a, h1, _, x, rs.ext fx1.ext, rh1, hq1, fun e h2 v2 H2 fx2 rd2 rh2 hq2 => ⟨d, e, h2, _, rd1.ext fx2.ext, rd2, rh2, hq2, fun z h3 v3 H3 fx3 rd3 rh3 hq3 => by
      obtain ⟨b, e1, e2⟩ := asB_of rd3 hq3
      have f3 := fx1.trans (fx2.trans fx3)
      refine ⟨b, e1, ?_⟩
      cases b with
      | true => exact ⟨a, h3, _, x, rs.ext f3.ext, rh3, e2, fun w h4 v4 H4 fx4 rd4 rh4 hq4 => ⟨e, w, h4, _, rd2.ext (fx3.trans fx4).ext, rd4, rh4, hq4, fun z' h5 v5 H5 fx5 rd5 rh5 hq5 => by
          obtain ⟨b', e1', e2'⟩ := asB_of rd5 hq5
          exact ⟨b', e1', k _ _ _ (f3.trans (fx4.trans fx5)) rh5 e2'⟩⟩, kx.ext f3⟩
      | false => exact ⟨false, rfl, k _ _ _ f3 rh3 e2⟩⟩, kx.ext fx1⟩, kx⟩
theorem s_neg : UnR X (unaryOp .USub) (lun X.K G negV) := by
  intro pins s σ H x v Q I rx ⟨d, h, q, hd, hh, hr, k⟩
  cases hd with
  | int i => exact un_neg pins s σ H _ v Q I rx ⟨i, rfl, k _ _ _ _ Fx.refl (.int _) hh hr⟩
  | _ => exact hr.elim
theorem p_neg {a : Expr} {ta : TED} {pos : Pos} (ha : PE X a (lift X.K G W ta)) : PE X (.UnaryOp .USub a pos) (lift X.K G W fun σ h q x => ta σ h (fun d h1 => negV d h1 q) x) :=
  PE.imp (pe_un s_neg ha) fun σ H Q ⟨a, h, q, x, rs, rh, ht, k, kx⟩ => ⟨a, h, _, x, rs, rh, ht, fun d h1 v1 H1 fx1 rd1 rh1 hq1 => ⟨d, h1, q, rd1, rh1, hq1, k.ext fx1⟩, kx⟩
theorem p_not {a : Expr} {ta : TED} {pos : Pos} (ha : PE X a (lift X.K G W ta)) : PE X (.UnaryOp .Not a pos) (lift X.K G W fun σ h q x => ta σ h (fun d h1 => truV d h1 fun b => q (.bl (!b)) h1) x) :=
  PE.imp (pe_notT ha) fun σ H Q ⟨a, h, q, x, rs, rh, ht, k, kx⟩ => ⟨a, h, _, x, rs, rh, ht, fun d h1 v1 H1 fx1 rd1 rh1 hq1 => by
    obtain ⟨b, t1, t2⟩ := tru_of (k := fun b => q (.bl (!b)) h1) rd1 rh1 hq1
    exact ⟨b, t1, k _ _ _ _ fx1 (.bl _) rh1 t2⟩, kx⟩
theorem t_not {a : Expr} {ta : TTD} {pos : Pos} (ha : PT X a (liftT X.K G W ta)) : PT X (.UnaryOp .Not a pos) (liftT X.K G W fun σ h q x => ta σ h (fun b h1 => q (!b) h1) x) :=
  PT.imp (pt_not ha) fun σ H Q ⟨a, h, q, x, rs, rh, ht, k, kx⟩ => ⟨a, h, _, x, rs, rh, ht, fun b h1 H1 fx1 rh1 hq1 => k _ _ _ fx1 rh1 hq1, kx⟩
theorem p_ife {e a b : Expr} {tc : TTD} {ta tb : TED} {pos : Pos} (hc : PT X e (liftT X.K G W tc)) (ha : PE X a (lift X.K G W ta)) (hb : PE X b (lift X.K G W tb)) :
    PE X (.IfExp e a b pos) (lift X.K G W fun σ h q x => tc σ h (fun k h1 => if k = true then ta σ h1 q x else tb σ h1 q x) x) :=
  PE.imp (pe_ifExp hc ha hb) fun σ H Q ⟨a, h, q, x, rs, rh, ht, k, kx⟩ => ⟨a, h, _, x, rs, rh, ht, fun b h1 H1 fx1 rh1 hq1 => by
    cases b with
    | true => exact ⟨a, h1, q, x, rs.ext fx1.ext, rh1, hq1, k.ext fx1, kx.ext fx1⟩
    | false => exact ⟨a, h1, q, x, rs.ext fx1.ext, rh1, hq1, k.ext fx1, kx.ext fx1⟩, kx⟩
end
end Nd
/-! Nd7: arguments, displays, subscripts, built-ins. -/
namespace Nd
open PySem PySem.Spec PyProof.Rows L2
section
variable {X : Cx} {G : Nat → Addr} {W : WX} {C : Ca} {c : Cf} {sc : Scope} {n : Nat}
/-! ### lists of expressions -/
def noStar (l : List Expr) : Bool := l.all fun e => !isStar e
theorem star1 {e : Expr} (h : (!isStar e) = true) (es : List Expr) (env : Env) : starEach (e :: es) env = (false, eval e env) :: starEach es env := by
  cases e <;> first | rfl | cases h
theorem starAll : ∀ {l : List Expr} (env : Env), noStar l = true → (starEach l env).any (·.1) = false
  | [], _, _ => rfl
  | e :: l, env, h => by
    have h' := Bool.and_eq_true_iff.mp (show ((!isStar e) && noStar l) = true from h)
    rw [star1 h'.1, List.any_cons, starAll env h'.2]; rfl
theorem starBack {l : List Expr} (env : Env) (pos : Pos) (h : noStar l = true) : (backTo pos (starEach l env)).any (·.1) = false := by
  unfold backTo
  rw [List.any_map]
  exact starAll env h
theorem a_nil : PA X [] (liftA X.K G W fun _ h q _ => q [] h) := PA.imp pa_nil fun σ H Q ⟨a, h, q, x, rs, rh, ht, k, kx⟩ => k [] h [] H Fx.refl .nil rh ht
theorem a_cons {e : Expr} {es : List Expr} {te : TED} {t : TAD} (he : PE X e (lift X.K G W te)) (hr : PA X es (liftA X.K G W t)) (hs : (!isStar e) = true) :
    PA X (e :: es) (liftA X.K G W fun σ h q x => te σ h (fun d h1 => t σ h1 (fun ds h2 => q (d :: ds) h2) x) x) :=
  PA.imp (pa_cons he hr (star1 hs es _)) fun σ H Q ⟨a, h, q, x, rs, rh, ht, k, kx⟩ =>
    ⟨a, h, _, x, rs, rh, ht, fun d h1 v1 H1 fx1 rd1 rh1 hq1 => ⟨a, h1, _, x, rs.ext fx1.ext, rh1, hq1, fun ds h2 v2 H2 fx2 rd2 rh2 hq2 => k _ _ _ _ (fx1.trans fx2) (.cons (rd1.ext fx2.ext) rd2) rh2 hq2, kx.ext fx1⟩, kx⟩
theorem p_and {e b : Expr} {rest : List Expr} {te tb : TED} {pos : Pos} (he : PE X e (lift X.K G W te)) (hb : PE X (.BoolOp .And (b :: rest) pos) (lift X.K G W tb)) :
    PE X (.BoolOp .And (e :: b :: rest) pos) (lift X.K G W fun σ h q x => te σ h (fun d h1 => truV d h1 fun k => if k = true then tb σ h1 q x else q d h1) x) :=
  PE.imp (pe_andT he hb) fun σ H Q ⟨a, h, q, x, rs, rh, ht, k, kx⟩ => ⟨a, h, _, x, rs, rh, ht, fun d h1 v1 H1 fx1 rd1 rh1 hq1 => by
    obtain ⟨b', t1, t2⟩ := tru_of (k := fun k => if k = true then tb a h1 q x else q d h1) rd1 rh1 hq1
    refine ⟨b', t1, ?_⟩
    cases b' with
    | true => exact ⟨a, h1, q, x, rs.ext fx1.ext, rh1, t2, k.ext fx1, kx.ext fx1⟩
    | false => exact k _ _ _ _ fx1 rd1 rh1 t2, kx⟩
theorem p_or {e b : Expr} {rest : List Expr} {te tb : TED} {pos : Pos} (he : PE X e (lift X.K G W te)) (hb : PE X (.BoolOp .Or (b :: rest) pos) (lift X.K G W tb)) :
    PE X (.BoolOp .Or (e :: b :: rest) pos) (lift X.K G W fun σ h q x => te σ h (fun d h1 => truV d h1 fun k => if k = true then q d h1 else tb σ h1 q x) x) :=
  PE.imp (pe_orT he hb) fun σ H Q ⟨a, h, q, x, rs, rh, ht, k, kx⟩ => ⟨a, h, _, x, rs, rh, ht, fun d h1 v1 H1 fx1 rd1 rh1 hq1 => by
    obtain ⟨b', t1, t2⟩ := tru_of (k := fun k => if k = true then q d h1 else tb a h1 q x) rd1 rh1 hq1
    refine ⟨b', t1, ?_⟩
    cases b' with
    | true => exact k _ _ _ _ fx1 rd1 rh1 t2
    | false => exact ⟨a, h1, q, x, rs.ext fx1.ext, rh1, t2, k.ext fx1, kx.ext fx1⟩, kx⟩
theorem PW.imp {e : Expr} {t t' : TT} (h : PW X e t) (i : ∀ σ H Q, t' σ H Q → t σ H Q) : PW X e t' := ⟨fun w p s σ H Q I q => h.run w p s σ H Q I (i σ H Q q)⟩
theorem w_and {e b : Expr} {rest : List Expr} {te tb : TTD} {pos : Pos} (he : PT X e (liftT X.K G W te)) (hb : PW X (.BoolOp .And (b :: rest) pos) (liftT X.K G W tb)) :
    PW X (.BoolOp .And (e :: b :: rest) pos) (liftT X.K G W fun σ h q x => te σ h (fun k h1 => if k = true then tb σ h1 q x else q false h1) x) :=
  PW.imp (pw_and he hb) fun σ H Q ⟨a, h, q, x, rs, rh, ht, k, kx⟩ => ⟨a, h, _, x, rs, rh, ht, fun b' h1 H1 fx1 rh1 t2 => by
    cases b' with
    | true => exact ⟨a, h1, q, x, rs.ext fx1.ext, rh1, t2, k.ext fx1, kx.ext fx1⟩
    | false => exact k _ _ _ fx1 rh1 t2, kx⟩
theorem w_or {e b : Expr} {rest : List Expr} {te tb : TTD} {pos : Pos} (he : PT X e (liftT X.K G W te)) (hb : PW X (.BoolOp .Or (b :: rest) pos) (liftT X.K G W tb)) :
    PW X (.BoolOp .Or (e :: b :: rest) pos) (liftT X.K G W fun σ h q x => te σ h (fun k h1 => if k = true then q true h1 else tb σ h1 q x) x) :=
  PW.imp (pw_or he hb) fun σ H Q ⟨a, h, q, x, rs, rh, ht, k, kx⟩ => ⟨a, h, _, x, rs, rh, ht, fun b' h1 H1 fx1 rh1 t2 => by
    cases b' with
    | true => exact k _ _ _ fx1 rh1 t2
    | false => exact ⟨a, h1, q, x, rs.ext fx1.ext, rh1, t2, k.ext fx1, kx.ext fx1⟩, kx⟩
structure SndS (X : Cx) (G : Nat → Addr) (W : WX) (d : Dns) (l : List Expr) : Prop where
  ns : noStar l = true
  a : PA X l (liftA X.K G W d.a)
  an : l ≠ [] → ∀ pos, PE X (.BoolOp .And l pos) (lift X.K G W d.an.v)
  ant : l ≠ [] → ∀ pos, PW X (.BoolOp .And l pos) (liftT X.K G W d.an.t)
  or : l ≠ [] → ∀ pos, PE X (.BoolOp .Or l pos) (lift X.K G W d.or.v)
  ort : l ≠ [] → ∀ pos, PW X (.BoolOp .Or l pos) (liftT X.K G W d.or.t)
  ani : 2 ≤ l.length → ∀ pos, PE X (.BoolOp .And l pos) (liftI X.K G W d.an.i)
  ori : 2 ≤ l.length → ∀ pos, PE X (.BoolOp .Or l pos) (liftI X.K G W d.or.i)
  pts : l.length ≤ 1 → PTs X l (liftT X.K G W d.an.t)
  pp : ∀ (pos : Pos) (ks : List Key) (keys : List (Option Expr)), chkKs ks keys = true → ks.length = l.length → ∃ trs, PPs X pos keys l trs ∧ ∀ σ H Q, liftA X.K G W d.a σ H (fun vs H' => Q ((ks.map kV).zip vs) H') → tPairs trs σ H Q
  one : ∀ e, l = [e] → ∃ d', Snd X G W d' e ∧ (d.i = fun σ h q r => d'.i σ h (fun xs g h1 => q xs [g] h1) r) ∧ d.a = fun σ h q r => d'.v σ h (fun x h1 => q [x] h1) r
/-! ### displays -/
theorem p_tup {es : List Expr} {t : TAD} {k0 : Nat} {pos : Pos} (ha : PA X es (liftA X.K G W t)) : PE X (.Tuple es k0 pos) (lift X.K G W fun σ h q x => t σ h (fun ds h' => ds.length ≤ sizeLine ∧ q (.tup ds) h') x) :=
  PE.imp (pe_tup ha) fun σ H Q ⟨a, h, q, x, rs, rh, ht, k, kx⟩ => ⟨a, h, _, x, rs, rh, ht, fun ds h1 vs H1 fx1 rd1 rh1 hq1 => ⟨by rw [← rd1.len]; exact hq1.1, fun p np =>
    k _ _ _ _ (fx1.trans (Fx.new np)) (.tup (.inl upd_same) hq1.1 (rd1.ext (Ext.new np))) (rh1.hid np) hq1.2⟩, kx⟩
theorem p_lst {es : List Expr} {t : TAD} {pos : Pos} (ha : PA X es (liftA X.K G W t)) : PE X (.List es pos) (lift X.K G W fun σ h q x => t σ h (fun ds h' => ds.length ≤ sizeLine ∧ ∀ p, h' p = none → q (.ref p) (hup h' p (.lst ds))) x) :=
  PE.imp (pe_lst ha) fun σ H Q ⟨a, h, q, x, rs, rh, ht, k, kx⟩ => ⟨a, h, _, x, rs, rh, ht, fun ds h1 vs H1 fx1 rd1 rh1 hq1 => ⟨by rw [← rd1.len]; exact hq1.1, fun p np =>
    k _ _ _ _ (fx1.trans (Fx.newM np)) (.ref p) (rh1.newL np hq1.1 rd1) (hq1.2 p (rh1.none_of np))⟩, kx⟩
theorem i_lst {es : List Expr} {t : TAD} {pos : Pos} (ha : PA X es (liftA X.K G W t)) : PE X (.List es pos) (liftI X.K G W fun σ h q x => t σ h (fun ds h' => ds.length ≤ sizeLine ∧ q ds .hid h') x) :=
  PE.imp (pe_lst ha) fun σ H Q ⟨a, h, q, x, rs, rh, ht, k, kx⟩ => ⟨a, h, _, x, rs, rh, ht, fun ds h1 vs H1 fx1 rd1 rh1 hq1 => ⟨by rw [← rd1.len]; exact hq1.1, fun p np =>
    k _ _ _ _ _ (fx1.trans (Fx.new np)) (.hid upd_same (rh1.none_of np) (rd1.ext (Ext.new np)) hq1.1) (rh1.hid np) hq1.2⟩, kx⟩
/-! ### subscripts -/
theorem plainIx {e : Expr} (h : (!isSlice e) = true) : PlainIx e := by
  intro o i
  cases e <;> first | rfl | cases h
theorem optV_of {o : Option D} {h : HD} {q : VQ} (e : optV o h q) : ∃ d, o = some d ∧ q d h := by
  cases o with
  | none => exact e.elim
  | some d => exact ⟨d, rfl, e⟩
theorem at_of {K : PySem.W.Frag} {H : Hp} {ds : List D} {vs : List V} {i : Int} {d : D} (r : RDs K G H ds vs) (e : atD ds i = some d) : ∃ v, L2.atI vs i = some v ∧ RD K G H d v := by
  unfold atD L2.atI at e
  unfold L2.atI
  rw [← r.len]
  cases q : L2.ixN ds.length i with
  | none => rw [q] at e; cases e
  | some j =>
    rw [q] at e
    exact r.get e
theorem str_at {s : Str} {i : Int} {d : D} (e : atD (chars s) i = some d) : ∃ c, L2.atI s.cps.toList i = some c ∧ d = .str ⟨#[c]⟩ := by
  unfold atD L2.atI chars at e
  unfold L2.atI
  rw [List.length_map] at e
  cases q : L2.ixN s.cps.toList.length i with
  | none => rw [q] at e; cases e
  | some j =>
    rw [q] at e
    dsimp only [Option.bind_some] at e ⊢
    rw [List.getElem?_map] at e
    cases z : s.cps.toList[j]? with
    | none => rw [z] at e; cases e
    | some c => rw [z] at e; cases e; exact ⟨c, rfl, rfl⟩
theorem strG_sign {s : Str} (g : StrG s) {i : Int} {c : Nat} (e : L2.atI s.cps.toList i = some c) : StrG ⟨#[c]⟩ := by
  refine ⟨by show 1 ≤ sizeLine; decide, ?_⟩
  unfold L2.atI at e
  cases q : L2.ixN s.cps.toList.length i with
  | none => rw [q] at e; cases e
  | some j =>
    rw [q] at e
    have hm : c ∈ s.cps.toList := List.mem_of_getElem? e
    have ha : s.cps.all (· < 0x110000) = true := g.2
    rw [← Array.all_toList, List.all_eq_true] at ha
    have := ha c hm
    show (#[c] : Array Nat).all (· < 0x110000) = true
    simp only [List.all_toArray, List.all_cons, List.all_nil, Bool.and_true]
    exact this
theorem sub_dict {prog : Program} {w : World} {A : Around} {E : Value → Shared → Prop} {s : Shared} {value slice : Expr} {o i : Value} {Q : Value → Shared → Prop} (hT : s.TypeIs o "dict") (hs : subscripted slice false o i = operate [o, i] (getItem o i))
    (h : wpAny (model prog w) A (getItem o i) Q E s) : wpAny (model prog w) A (subscriptTail value slice o i) Q E s := by
  unfold subscriptTail
  refine wpAny_bind ?_
  rw [getitemInPython_of_ne hT.not_modules]
  refine wpAny_bind (wpAny_specialOf hT PySem.F.slot_dict_getitem.lookup ?_)
  have fin : wpAny (model prog w) A (subscripted slice false o i) (fun r s₃ => wpAny (model prog w) A (letTemporaryGo value o r >>= fun _ => pure r) Q E s₃) E s := by
    rw [hs]
    exact wpAny_operating (wpAny_mono h (fun r s₃ h₃ => wpAny_bind (wpAny_letTemporaryGo (wpAny_pure h₃))) fun _ _ x => x)
  first
    | exact wpAny_pure (wpAny_bind fin)
    | exact wpAny_bind (wpAny_pure (wpAny_bind fin))
    | exact wpAny_bind fin
theorem s_sub' (hu : X.A.units + 1 < cLine) : IxR X (lop X.K G subV') := by
  intro ev es pins s σ H x y v u Q I rx ry ⟨d, e, h, q, hd, he, hh, hr, k⟩ hsub
  cases hd with
  | @tup a xs ds t l r => cases he with
    | int i =>
      obtain ⟨z, e1, e2⟩ := optV_of (show optV (atD ds i) h q from hr)
      obtain ⟨w, e3, e4⟩ := at_of r e1
      exact ix_tup ev es pins s σ H _ _ v u Q I rx ry ⟨a, xs, i, w, rfl, rfl, t.sq, e3, k _ _ _ _ Fx.refl e4 hh e2⟩ hsub
    | _ => exact hr.elim
  | str z g => cases he with
    | int i =>
      obtain ⟨d, e1, e2⟩ := optV_of (show optV (atD (chars z) i) h q from hr)
      obtain ⟨c, e3, e4⟩ := str_at e1
      subst e4
      exact ix_str ev es pins s σ H _ _ v u Q I rx ry ⟨z, i, c, rfl, rfl, g.1, e3, k _ _ _ _ Fx.refl (.str _ (strG_sign g e3)) hh e2⟩ hsub
    | _ => exact hr.elim
  | @kls a xs ds t l r => cases he with
    | int i =>
      obtain ⟨z, e1, e2⟩ := optV_of (show optV (atD ds i) h q from hr)
      obtain ⟨w, e3, e4⟩ := at_of r e1
      exact ix_list ev es pins s σ H _ _ v u Q I rx ry ⟨a, xs, i, w, rfl, rfl, t.sq, e3, k _ _ _ _ Fx.refl e4 hh e2⟩ hsub
    | _ => exact hr.elim
  | @kdc a ks xs ds t n l r =>
    replace hr : (match keyD e with
      | some k => optV (lookK (ks.zip ds) k) h q
      | none => False) := by cases e <;> exact hr
    split at hr
    · rename_i kk ek
      obtain ⟨d, e1, e2⟩ := optV_of hr
      have ev' := key_of he ek
      subst ev'
      obtain ⟨p, vs, ep, g0, rk⟩ := kdc_of (RD.kdc (G := G) t n l r)
      obtain rfl : v = Value.ref a := rx
      cases ep
      rename_i vs'
      rcases look_of rk kk with ⟨l1, l2⟩ | ⟨d', v', l1, l2, r'⟩
      · rw [l1] at e1; cases e1
      · rw [l1] at e1; cases e1
        have g : DGet H a (kV kk) (some v') := by rw [← l2]; exact dget_f g0 kk
        exact sub_dict (dict_typeIs I g) hsub (d_getItem hu I g ry fun w' s3 I3 rw' => ⟨v', H, I3, rw', k _ _ _ _ Fx.refl r' hh e2⟩)
    · exact hr.elim
  | ref a =>
    unfold subV' at hr
    dsimp only at hr
    split at hr
    · rename_i xs ea
      split at hr
      · obtain ⟨vs, h1, _, h3⟩ := hh a _ ea
        cases he with
        | int i =>
          obtain ⟨d, e1, e2⟩ := optV_of hr
          obtain ⟨w, e3, e4⟩ := at_of h3 e1
          exact ix_list ev es pins s σ H _ _ v u Q I rx ry ⟨a, vs, _, w, rfl, rfl, .inl (.inl h1), e3, k _ _ _ _ Fx.refl e4 hh e2⟩ hsub
      · exact hr.elim
    · rename_i kvs ea
      split at hr
      · rename_i kk ek
        obtain ⟨vs, h1, _, h3, _⟩ := hh a _ ea
        obtain ⟨d, e1, e2⟩ := optV_of hr
        have ev' := key_of he ek
        subst ev'
        obtain rfl : v = Value.ref a := rx
        rcases look_of h3 kk with ⟨l1, l2⟩ | ⟨d', v', l1, l2, r'⟩
        · rw [l1] at e1; cases e1
        · rw [l1] at e1; cases e1
          have g : DGet H a (kV kk) (some v') := by rw [← l2]; exact DGet.k h1
          exact sub_dict (dict_typeIs I g) hsub (d_getItem hu I g ry fun w' s3 I3 rw' => ⟨v', H, I3, rw', k _ _ _ _ Fx.refl r' hh e2⟩)
      · exact hr.elim
    · exact hr.elim
  | _ => exact hr.elim
end
end Nd
/-! Nd8: slices, built-ins by values, built-ins by content, list methods. -/
namespace Nd
open PySem PySem.Spec PyProof.Rows L2
section
variable {X : Cx} {G : Nat → Addr} {W : WX} {C : Ca} {c : Cf} {sc : Scope} {n : Nat}
theorem p_sub {a b : Expr} {ta tb : TED} {pos : Pos} (hu : X.A.units + 1 < cLine) (ha : PE X a (lift X.K G W ta)) (hb : PE X b (lift X.K G W tb)) (hs : (!isSlice b) = true) :
    PE X (.Subscript a b pos) (lift X.K G W fun σ h q x => ta σ h (fun d h1 => tb σ h1 (fun e h2 => subV' d e h2 q) x) x) :=
  PE.imp (pe_ix (s_sub' hu) ha hb (plainIx hs)) fun σ H Q ⟨a, h, q, x, rs, rh, ht, k, kx⟩ =>
    ⟨a, h, _, x, rs, rh, ht, fun d h1 v1 H1 fx1 rd1 rh1 hq1 => ⟨a, h1, _, x, rs.ext fx1.ext, rh1, hq1, fun e h2 v2 H2 fx2 rd2 rh2 hq2 => ⟨d, e, h2, q, rd1.ext fx2.ext, rd2, rh2, hq2, k.ext (fx1.trans fx2)⟩, kx.ext fx1⟩, kx⟩
/-! ### slices -/
def lsl (K : PySem.W.Frag) (G : Nat → Addr) : V → Option Int → Option Int → Hp → VK → Prop := fun x lo hi H Q => ∃ d h q, RD K G H d x ∧ RH K G H h ∧ slcV d lo hi h q ∧ Cont K G H h q Q
theorem cut_of {K : PySem.W.Frag} {H : Hp} {ds : List D} {vs : List V} (r : RDs K G H ds vs) (lo hi : Option Int) : RDs K G H (cutD ds lo hi) (cutV vs lo hi) := by
  unfold cutD cutV
  rw [← r.len]
  exact (r.drop _).take _
theorem cutD_len (ds : List D) (lo hi : Option Int) : (cutD ds lo hi).length ≤ ds.length := by
  unfold cutD
  rw [List.length_take, List.length_drop]; omega
theorem strG_cut {z : Str} (g : StrG z) (lo hi : Option Int) : StrG (cutS z lo hi) := by
  refine ⟨?_, ?_⟩
  · have h1 : (cutS z lo hi).length ≤ z.length := by
      show (List.toArray _).size ≤ z.cps.size
      rw [List.size_toArray, List.length_take, List.length_drop, Array.length_toList]
      omega
    exact Nat.le_trans h1 g.1
  · have ha : z.cps.all (· < 0x110000) = true := g.2
    rw [← Array.all_toList, List.all_eq_true] at ha
    show (List.toArray _).all (· < 0x110000) = true
    rw [List.all_toArray, List.all_eq_true]
    exact fun c hc => ha c (List.mem_of_mem_drop (List.mem_of_mem_take hc))
theorem s_slc : SlR X (lsl X.K G) := by
  intro pins s σ H x v vl vu lo hi sl Q I rx hs pl pu ⟨d, h, q, hd, hh, hr, k⟩
  cases hd with
  | @tup a xs ds t l r =>
    have hr : q (.tup (cutD ds lo hi)) h := hr
    refine sl_tupA pins s σ H _ v vl vu lo hi sl Q I rx hs pl pu ⟨a, xs, rfl, t.sq, fun z => ?_, fun _ p np => ?_⟩
    · have e : cutD ds lo hi = ds := by
        unfold cutD
        rw [r.len, z.1, z.2, List.drop_zero, Nat.sub_zero, ← r.len, List.take_length]
      rw [e] at hr
      exact k _ _ _ _ Fx.refl (.tup t l r) hh hr
    · exact k _ _ _ _ (Fx.new np) (.tup (.inl upd_same) (Nat.le_trans (cutD_len _ _ _) l) ((cut_of r lo hi).ext (Ext.new np))) (hh.hid np) hr
  | @kls a vs xs t h2 h3 =>
    replace hr : ∀ p, h p = none → q (.ref p) (hup h p (.lst (cutD xs lo hi))) := hr
    exact sl_list pins s σ H _ v vl vu lo hi sl Q I rx hs pl pu ⟨a, vs, rfl, t.sq, fun p np =>
      k _ _ _ _ (Fx.newM np) (.ref p) (hh.newL np (Nat.le_trans (cutD_len _ _ _) h2) (cut_of h3 lo hi)) (hr p (hh.none_of np))⟩
  | str z g => exact sl_str pins s σ H _ v vl vu lo hi sl Q I rx hs pl pu ⟨z, rfl, g.1, k _ _ _ _ Fx.refl (.str _ (strG_cut g lo hi)) hh hr⟩
  | ref a =>
    unfold slcV at hr
    dsimp only at hr
    split at hr
    · rename_i xs ea
      obtain ⟨vs, h1, h2, h3⟩ := hh a _ ea
      exact sl_list pins s σ H _ v vl vu lo hi sl Q I rx hs pl pu ⟨a, vs, rfl, .inl (.inl h1), fun p np =>
        k _ _ _ _ (Fx.newM np) (.ref p) (hh.newL np (Nat.le_trans (cutD_len _ _ _) h2) (cut_of h3 lo hi)) (hr p (hh.none_of np))⟩
    · exact hr.elim
  | _ => exact hr.elim
theorem asI_of {K : PySem.W.Frag} {H : Hp} {d : D} {v : V} {k : Option Int → Prop} (r : RD K G H d v) (h : asI d k) : ∃ i, v = .int i ∧ k (some i) := by
  cases r with
  | int b => exact ⟨b, rfl, h⟩
  | _ => exact h.elim
theorem p_sl0 {a : Expr} {ta : TED} {pos p2 : Pos} (ha : PE X a (lift X.K G W ta)) : PE X (.Subscript a (.Slice none none none p2) pos) (lift X.K G W fun σ h q x => ta σ h (fun d h1 => slcV d none none h1 q) x) :=
  PE.imp (pe_slice s_slc ha po_none po_none) fun σ H Q ⟨a, h, q, x, rs, rh, ht, k, kx⟩ => ⟨a, h, _, x, rs, rh, ht, fun d h1 v1 H1 fx1 rd1 rh1 hq1 => ⟨d, h1, q, rd1, rh1, hq1, k.ext fx1⟩, kx⟩
theorem p_slL {a b : Expr} {ta tb : TED} {pos p2 : Pos} (ha : PE X a (lift X.K G W ta)) (hb : PE X b (lift X.K G W tb)) :
    PE X (.Subscript a (.Slice (some b) none none p2) pos) (lift X.K G W fun σ h q x => ta σ h (fun d h1 => tb σ h1 (fun y h2 => asI y fun l => slcV d l none h2 q) x) x) :=
  PE.imp (pe_slice s_slc ha (po_some hb) po_none) fun σ H Q ⟨a, h, q, x, rs, rh, ht, k, kx⟩ => ⟨a, h, _, x, rs, rh, ht, fun d h1 v1 H1 fx1 rd1 rh1 hq1 =>
    ⟨a, h1, _, x, rs.ext fx1.ext, rh1, hq1, fun e h2 v2 H2 fx2 rd2 rh2 hq2 => by
      obtain ⟨i, e1, e2⟩ := asI_of rd2 hq2
      exact ⟨i, e1, d, h2, q, rd1.ext fx2.ext, rh2, e2, k.ext (fx1.trans fx2)⟩, kx.ext fx1⟩, kx⟩
theorem p_slU {a b : Expr} {ta tb : TED} {pos p2 : Pos} (ha : PE X a (lift X.K G W ta)) (hb : PE X b (lift X.K G W tb)) :
    PE X (.Subscript a (.Slice none (some b) none p2) pos) (lift X.K G W fun σ h q x => ta σ h (fun d h1 => tb σ h1 (fun y h2 => asI y fun l => slcV d none l h2 q) x) x) :=
  PE.imp (pe_slice s_slc ha po_none (po_some hb)) fun σ H Q ⟨a, h, q, x, rs, rh, ht, k, kx⟩ => ⟨a, h, _, x, rs, rh, ht, fun d h1 v1 H1 fx1 rd1 rh1 hq1 =>
    ⟨a, h1, _, x, rs.ext fx1.ext, rh1, hq1, fun e h2 v2 H2 fx2 rd2 rh2 hq2 => by
      obtain ⟨i, e1, e2⟩ := asI_of rd2 hq2
      exact ⟨i, e1, d, h2, q, rd1.ext fx2.ext, rh2, e2, k.ext (fx1.trans fx2)⟩, kx.ext fx1⟩, kx⟩
theorem p_slB {a b b' : Expr} {ta tb tc : TED} {pos p2 : Pos} (ha : PE X a (lift X.K G W ta)) (hb : PE X b (lift X.K G W tb)) (hc : PE X b' (lift X.K G W tc)) :
    PE X (.Subscript a (.Slice (some b) (some b') none p2) pos) (lift X.K G W fun σ h q x => ta σ h (fun d h1 => tb σ h1 (fun y h2 => asI y fun l => tc σ h2 (fun z h3 => asI z fun u => slcV d l u h3 q) x) x) x) :=
  PE.imp (pe_slice s_slc ha (po_some hb) (po_some hc)) fun σ H Q ⟨a, h, q, x, rs, rh, ht, k, kx⟩ => ⟨a, h, _, x, rs, rh, ht, fun d h1 v1 H1 fx1 rd1 rh1 hq1 =>
    ⟨a, h1, _, x, rs.ext fx1.ext, rh1, hq1, fun e h2 v2 H2 fx2 rd2 rh2 hq2 => by
      obtain ⟨i, e1, e2⟩ := asI_of rd2 hq2
      have f2 := fx1.trans fx2
      exact ⟨i, e1, a, h2, _, x, rs.ext f2.ext, rh2, e2, fun z h3 v3 H3 fx3 rd3 rh3 hq3 => by
        obtain ⟨j, e3, e4⟩ := asI_of rd3 hq3
        exact ⟨j, e3, d, h3, q, rd1.ext (fx2.trans fx3).ext, rh3, e4, k.ext (f2.trans fx3)⟩, kx.ext f2⟩, kx.ext fx1⟩, kx⟩
/-! ### built-ins by values -/
theorem kit_tab {a n : String} (ha : a ∈ ["NoneType", "bool", "int", "str", "tuple", "list", "dict"]) (hn : n ∈ ["int", "bool", "str", "tuple", "list", "dict"]) {K : PySem.W.Frag} : PySem.W.kitOne K (.type a) (.type n) = some (isiB a n) := by
  have h : (["NoneType", "bool", "int", "str", "tuple", "list", "dict"].all fun a => ["int", "bool", "str", "tuple", "list", "dict"].all fun n => decide (kitB a n = some (isiB a n))) = true := by decide +kernel
  rw [List.all_eq_true] at h
  have h2 := h a ha
  rw [List.all_eq_true] at h2
  exact kit_ty (of_decide_eq_true (h2 n hn))
theorem isTyN_mem {n : String} (h : isTyN n = true) : n ∈ ["int", "bool", "str", "tuple", "list", "dict"] := by
  unfold isTyN at h
  simp only [Bool.or_eq_true, beq_iff_eq] at h
  rcases h with ((((h | h) | h) | h) | h) | h <;> (subst h; decide)
theorem ty_of {K : PySem.W.Frag} {H : Hp} {h : HD} {d : D} {x : V} {a : String} (r : RD K G H d x) (rh : RH K G H h) (e : tyN h d = some a) : TyX K H x (.type a) ∧ a ∈ ["NoneType", "bool", "int", "str", "tuple", "list", "dict"] := by
  cases r with
  | non => cases e; exact ⟨.base .non, by decide⟩
  | bl b => cases e; exact ⟨.base (.bl b), by decide⟩
  | int i => cases e; exact ⟨.base (.int i), by decide⟩
  | str s g => cases e; exact ⟨.base (.str s), by decide⟩
  | tup t l r =>
    cases e
    refine ⟨?_, by decide⟩
    rcases t with t | ⟨o, its, n, h1, h2, _⟩
    · exact .base (.tup t)
    · exact .kTuple h1 h2
  | kls t l r =>
    cases e
    refine ⟨?_, by decide⟩
    rcases t with ⟨o, t⟩ | ⟨o, its, n, h1, h2, _⟩
    · exact .base (.frz t)
    · exact .kList h1 h2
  | ref b =>
    unfold tyN at e
    dsimp only at e
    split at e
    · rename_i ea; cases e
      obtain ⟨vs, h1, _⟩ := rh b _ ea
      exact ⟨.base (.lst h1), by decide⟩
    · rename_i ea; cases e
      obtain ⟨vs, h1, _⟩ := rh b _ ea
      exact ⟨.base (.dK h1), by decide⟩
    · cases e
  | kdc t n l r =>
    cases e
    obtain ⟨o, t⟩ := t
    exact ⟨.fDict t, by decide⟩
  | ty n => cases e
  | glo g => cases e
  | exc t => cases e
theorem rds1 {K : PySem.W.Frag} {H : Hp} {d : D} {vs : List V} (r : RDs K G H [d] vs) : ∃ v, vs = [v] ∧ RD K G H d v := by
  cases r with
  | cons h t => cases t; exact ⟨_, rfl, h⟩
theorem rds2 {K : PySem.W.Frag} {H : Hp} {d e : D} {vs : List V} (r : RDs K G H [d, e] vs) : ∃ v w, vs = [v, w] ∧ RD K G H d v ∧ RD K G H e w := by
  cases r with
  | cons h t =>
    obtain ⟨w, rfl, h2⟩ := rds1 t
    exact ⟨_, _, rfl, h, h2⟩
theorem c_len : CallR X (.builtin "len") (lcall X.K G fun ds h q => biV C.exm .len ds h q) := by
  intro pins s σ H xs us Q I r ⟨ds, h, q, rd, rh, hr, k⟩
  match ds, rd, hr with
  | [d], rd, hr =>
    obtain ⟨v, rfl, r1⟩ := rds1 rd
    cases r1 with
    | str z g => exact call_len pins s σ H _ us Q I r ⟨_, z.length, rfl, ⟨g.1, rfl⟩, k _ _ _ _ Fx.refl (.int _) rh hr⟩
    | @tup a xs ds t l rr => exact call_len pins s σ H _ us Q I r ⟨_, ds.length, rfl, .inr ⟨_, t.sq, rr.len⟩, k _ _ _ _ Fx.refl (.int _) rh hr⟩
    | @kls a xs ds t l rr => exact call_len pins s σ H _ us Q I r ⟨_, ds.length, rfl, .inl ⟨_, t.sq, rr.len⟩, k _ _ _ _ Fx.refl (.int _) rh hr⟩
    | @kdc a ks xs ds t n l rr =>
      obtain ⟨o, t⟩ := t
      have el := rr.len
      have ez : (ks.zip xs).length = ds.length := by have := n.len; rw [List.length_zip]; omega
      replace hr : q (.int ds.length) h := hr
      obtain ⟨u, rfl, ru⟩ := vals1 r
      obtain rfl : u = Value.ref a := ru
      exact d_len I (.inr ⟨o, t⟩) fun tk s' I' => ⟨.int ds.length, H, I', ⟨tk, by rw [ez]⟩, k _ _ _ _ Fx.refl (.int _) rh hr⟩
    | ref a =>
      replace hr : lenV (.ref a) h q := hr
      unfold lenV at hr
      dsimp only at hr
      split at hr
      · rename_i xs e
        obtain ⟨vs, h1, _, h3⟩ := rh a _ e
        exact call_len pins s σ H _ us Q I r ⟨_, xs.length, rfl, .inl ⟨_, .inl (.inl h1), h3.len⟩, k _ _ _ _ Fx.refl (.int _) rh hr⟩
      · rename_i xs e
        obtain ⟨vs, h1, _, h3, _⟩ := rh a _ e
        have el : xs.length = vs.length := Paired.length h3
        exact call_lenD pins s σ H _ us Q I r ⟨a, vs, rfl, h1, by rw [← el]; exact k _ _ _ _ Fx.refl (.int _) rh hr⟩
      · exact hr.elim
    | _ => exact False.elim hr
theorem ty_inj {K : PySem.W.Frag} {H : Hp} {n : String} {v : V} (r : RD K G H (.ty n) v) : v = .ty n := by cases r; rfl
theorem isi_exc {pins : List (Addr × Obj)} {σ : L2.St} {H : Hp} {s : Shared} {Q : VK} {c : Nat} {a : Addr} {u2 : Value} {b : Bool} (hC : ExcC X.K (G c)) (hk : PySem.W.kitOne X.K (.ref (G c)) u2 = some b) (ha : H a = some (ExC (.ref (G c)) a)) (I : L2.Inv X pins σ H s) (hq : Q (.bl b) H) :
    wpAny (model X.prog X.w) X.A (call (.builtin "isinstance") [.ref a, u2]) (EP X pins σ Q) X.xe s := by
  obtain ⟨⟨oe, vs, h1, h2, h3⟩, _⟩ := (show ObjOk X.prog X.w H s.heap a (ExC (.ref (G c)) a) from I.hok a _ ha)
  have J : PySem.W.InstAt s.heap a oe (G c) none := by
    obtain ⟨oc, od, oda, osl⟩ := oe
    obtain ⟨z1, z2⟩ := h2
    dsimp only at z1 z2 h3
    subst z1 z2 h3
    exact ⟨h1, rfl, rfl, trivial⟩
  exact PySem.W.kia_one (PySem.W.handS_kitx_exc hC.hg hC.hk hC.hs hC.hd hC.ha hC.hn hC.ht hC.hm) I.kIn J hk (fun z => nomatch z) fun tk => ⟨.bl b, H, I.kept (t' := tk) fun _ _ z => z, rfl, hq⟩
theorem c_isi (he : ExmOk X.K G C) : CallR X (.builtin "isinstance") (lcall X.K G fun ds h q => biV C.exm .isi ds h q) := by
  intro pins s σ H xs us Q I r ⟨ds, h, q, rd, rh, hr, k⟩
  replace hr : isiV C.exm ds h q := hr
  unfold isiV at hr
  split at hr
  · rename_i c m
    obtain ⟨v, w, rfl, r1, r2⟩ := rds2 rd
    obtain ⟨rfl, hr⟩ := hr
    cases r2
    cases r1 with
    | @exc _ a ha =>
      obtain ⟨u1, u2, rfl, q1, q2⟩ := vals2 r
      cases (show u1 = Value.ref a from q1)
      cases (show u2 = Value.type "ValueError" from q2)
      rcases exmK_cases hr with ⟨e, hr⟩ | ⟨e, hr⟩
      · obtain ⟨hC, hk, _⟩ := he _ _ _ e
        exact isi_exc hC (hk rfl) ha I (k _ _ _ _ Fx.refl (.bl _) rh hr)
      · obtain ⟨hC, hk, _⟩ := he _ _ _ e
        exact isi_exc hC (hk rfl) ha I (k _ _ _ _ Fx.refl (.bl _) rh hr)
  · rename_i d n _
    obtain ⟨v, w, rfl, r1, r2⟩ := rds2 rd
    cases ty_inj r2
    obtain ⟨hn, hr⟩ := hr
    split at hr
    · rename_i a ea
      obtain ⟨t1, t2⟩ := ty_of r1 rh ea
      exact call_isi pins s σ H _ us Q I r ⟨v, _, _, _, _, rfl, .ty n, t1, kit_tab t2 (isTyN_mem hn), k _ _ _ _ Fx.refl (.bl _) rh hr⟩
    · exact hr.elim
  · rename_i d n m
    obtain ⟨v, w, rfl, r1, r2⟩ := rds2 rd
    obtain ⟨⟨hn, hm⟩, hr⟩ := hr
    split at hr
    · rename_i a ea
      obtain ⟨t1, t2⟩ := ty_of r1 rh ea
      cases r2 with
      | @tup tp zs es ta l rr =>
        obtain ⟨z1, z2, rfl, q1, q2⟩ := rds2 rr
        cases ty_inj q1
        cases ty_inj q2
        have kk : PySem.W.kitAny X.K (.type a) [.type n, .type m] = some (isiB a n || isiB a m) :=
          kitAny_cons (kit_tab t2 (isTyN_mem hn)) (fun e => by rw [e, Bool.false_or]; exact kitAny_cons (kit_tab t2 (isTyN_mem hm)) (fun e2 => by rw [e2]; exact kitAny_nil) fun e2 => e2) (fun e => by rw [e]; rfl)
        rcases ta with ta | ⟨o, its, nn, h1, h2, h3, h4, h5⟩
        · exact call_isiT pins s σ H _ us Q I r ⟨v, tp, _, _, [.type n, .type m], _, rfl, ta, .cons (.ty n) (.cons (.ty m) .nil), t1, kk, k _ _ _ _ Fx.refl (.bl _) rh hr⟩
        · have e5 : its.toList = [.type n, .type m] := by
            obtain ⟨u1, u2, e, g1, g2⟩ := vals2 h5
            rw [e, show u1 = Value.type n from g1, show u2 = Value.type m from g2]
          obtain ⟨oc, od, odt, osl⟩ := o
          simp only at h2 h3
          subst h2 h3
          refine call_isiK pins s σ H _ us Q I r ⟨v, tp, od, [.type n, .type m], nn, osl, _, _, rfl, ?_, t1, kk, k _ _ _ _ Fx.refl (.bl _) rh hr⟩
          rw [h1, ← e5, Array.toArray_toList]
    · exact hr.elim
  · rename_i c g
    obtain ⟨v, w, rfl, r1, r2⟩ := rds2 rd
    obtain ⟨hg, hr⟩ := hr
    cases r2
    cases r1 with
    | @exc _ a ha =>
      obtain ⟨u1, u2, rfl, q1, q2⟩ := vals2 r
      cases (show u1 = Value.ref a from q1)
      cases (show u2 = Value.ref (G g) from q2)
      rcases exmK_cases hr with ⟨e, hr⟩ | ⟨e, hr⟩
      · obtain ⟨hC, _, hk⟩ := he _ _ _ e
        exact isi_exc hC (hk hg).1 ha I (k _ _ _ _ Fx.refl (.bl _) rh hr)
      · obtain ⟨hC, _, hk⟩ := he _ _ _ e
        exact isi_exc hC (hk hg).1 ha I (k _ _ _ _ Fx.refl (.bl _) rh hr)
  · exact hr.elim
theorem c_abs : CallR X (.builtin "abs") (lcall X.K G fun ds h q => biV C.exm .abs ds h q) := by
  intro pins s σ H xs us Q I r ⟨ds, h, q, rd, rh, hr, k⟩
  match ds, rd, hr with
  | [.int i], rd, hr =>
    obtain ⟨v, rfl, r1⟩ := rds1 rd
    cases r1
    exact call_abs pins s σ H _ us Q I r ⟨i, rfl, k _ _ _ _ Fx.refl (.int _) rh hr⟩
theorem c_int1 : CallR X (.type "int") (lcall X.K G fun ds h q => biV C.exm .int1 ds h q) := by
  intro pins s σ H xs us Q I r ⟨ds, h, q, rd, rh, hr, k⟩
  match ds, rd, hr with
  | [.int i], rd, hr =>
    obtain ⟨v, rfl, r1⟩ := rds1 rd
    cases r1
    exact call_int1 pins s σ H _ us Q I r (.inl ⟨i, rfl, k _ _ _ _ Fx.refl (.int _) rh hr⟩)
  | [.bl i], rd, hr =>
    obtain ⟨v, rfl, r1⟩ := rds1 rd
    cases r1
    exact call_int1 pins s σ H _ us Q I r (.inr ⟨i, rfl, k _ _ _ _ Fx.refl (.int _) rh hr⟩)
theorem c_str1 : CallR X (.type "str") (lcall X.K G fun ds h q => biV C.exm .str1 ds h q) := by
  intro pins s σ H xs us Q I r ⟨ds, h, q, rd, rh, hr, k⟩
  match ds, rd, hr with
  | [.int i], rd, hr =>
    obtain ⟨v, rfl, r1⟩ := rds1 rd
    cases r1
    have hr : i.natAbs.log2 < 1920 ∧ StrG (toString i : Str) ∧ q (.str (toString i)) h := hr
    exact call_str_int pins s σ H _ us Q I r ⟨i, rfl, hr.1, k _ _ _ _ Fx.refl (.str _ hr.2.1) rh hr.2.2⟩
theorem c_max2 (hc : X.calm = true) : CallR X (.builtin "max") (lcall X.K G fun ds h q => biV C.exm .max2 ds h q) := by
  intro pins s σ H xs us Q I r ⟨ds, h, q, rd, rh, hr, k⟩
  match ds, rd, hr with
  | [.int i, .int j], rd, hr =>
    obtain ⟨v, w, rfl, r1, r2⟩ := rds2 rd
    cases r1
    cases r2
    exact call_max2 hc pins s σ H _ us Q I r ⟨i, j, rfl, k _ _ _ _ Fx.refl (.int _) rh hr⟩
theorem c_min2 (hc : X.calm = true) : CallR X (.builtin "min") (lcall X.K G fun ds h q => biV C.exm .min2 ds h q) := by
  intro pins s σ H xs us Q I r ⟨ds, h, q, rd, rh, hr, k⟩
  match ds, rd, hr with
  | [.int i, .int j], rd, hr =>
    obtain ⟨v, w, rfl, r1, r2⟩ := rds2 rd
    cases r1
    cases r2
    exact call_min2 hc pins s σ H _ us Q I r ⟨i, j, rfl, k _ _ _ _ Fx.refl (.int _) rh hr⟩
/-- a call of a built-in function, of a built-in type, by values -/
theorem p_biB {x : Str} {id : String} {e : Expr} {es : List Expr} {t : TAD} {r : List D → HD → VQ → Prop} {p pos : Pos} (hc : CallR X (.builtin id) (lcall X.K G r)) (hg : Gl X x) (hm : X.mg x = none) (hv : bootBuiltins x = some (.builtin id)) (ha : PA X (e :: es) (liftA X.K G W t))
    (hn : x ≠ "__name__") (hdb : (x == ("__debug__" : Str)) = false) (hns : noStar (e :: es) = true) : PE X (.Call (.Name x p) (e :: es) [] pos) (lift X.K G W fun σ h q z => t σ h (fun ds h1 => r ds h1 q) z) := by
  have h' := Bool.and_eq_true_iff.mp (show ((!isStar e) && noStar es) = true from hns)
  exact PE.imp (pe_callB hc hg hm hv ha hn hdb (star1 h'.1 es _) (starBack _ _ h'.2)) fun σ H Q ⟨a, h, q, x, rs, rh, ht, k, kx⟩ => ⟨a, h, _, x, rs, rh, ht, fun ds h1 vs H1 fx1 rd1 rh1 hq1 => ⟨ds, h1, q, rd1, rh1, hq1, k.ext fx1⟩, kx⟩
theorem p_biT {x : Str} {id : String} {e : Expr} {es : List Expr} {t : TAD} {r : List D → HD → VQ → Prop} {p pos : Pos} (hc : CallR X (.type id) (lcall X.K G r)) (hg : Gl X x) (hm : X.mg x = none) (hv : bootBuiltins x = some (.type id)) (ha : PA X (e :: es) (liftA X.K G W t))
    (hn : x ≠ "__name__") (hdb : (x == ("__debug__" : Str)) = false) (hns : noStar (e :: es) = true) : PE X (.Call (.Name x p) (e :: es) [] pos) (lift X.K G W fun σ h q z => t σ h (fun ds h1 => r ds h1 q) z) := by
  have h' := Bool.and_eq_true_iff.mp (show ((!isStar e) && noStar es) = true from hns)
  exact PE.imp (pe_callTy hc hg hm hv ha hn hdb (star1 h'.1 es _) (starBack _ _ h'.2)) fun σ H Q ⟨a, h, q, x, rs, rh, ht, k, kx⟩ => ⟨a, h, _, x, rs, rh, ht, fun ds h1 vs H1 fx1 rd1 rh1 hq1 => ⟨ds, h1, q, rd1, rh1, hq1, k.ext fx1⟩, kx⟩
end
end Nd
/-! Nd9: built-ins by content, methods, walks, comprehensions. -/
namespace Nd
open PySem PySem.Spec PyProof.Rows L2
section
variable {X : Cx} {G : Nat → Addr} {W : WX} {C : Ca} {c : Cf} {sc : Scope} {n : Nat}
/-! ### by content -/
def lct (K : PySem.W.Frag) (G : Nat → Addr) (r : List D → Gd → HD → VQ → Prop) : List V → Hp → VK → Prop := fun xs H Q => ∃ v ds g h q, xs = [v] ∧ ItR K G H h v ds g ∧ RH K G H h ∧ r ds g h q ∧ Cont K G H h q Q
theorem itL {K : PySem.W.Frag} {H : Hp} {h : HD} {v : V} {ds : List D} {g : Gd} (r : ItR K G H h v ds g) (rh : RH K G H h) (l : g.isL = true) : ∃ p vs, v = .ref p ∧ SqL K H p vs ∧ RDs K G H ds vs ∧ ds.length ≤ sizeLine := by
  cases r with
  | tup _ _ _ => cases l
  | str _ => cases l
  | lst e =>
    obtain ⟨vs, h1, h2, h3⟩ := rh _ _ e
    exact ⟨_, vs, rfl, .inl (.inl h1), h3, h2⟩
  | kls t r z => exact ⟨_, _, rfl, t.sq, r, z⟩
  | kdc _ _ _ _ => cases l
  | dic _ => cases l
  | hid e _ r z => exact ⟨_, _, rfl, .inl (.inl e), r, z⟩
theorem rds_ints {K : PySem.W.Frag} {H : Hp} : ∀ {ns : List Int} {vs : List V}, RDs K G H (ns.map .int) vs → vs = ns.map V.int
  | [], _, .nil => rfl
  | _ :: _, _, .cons h t => by cases h; rw [rds_ints t]; rfl
theorem rds_strs {K : PySem.W.Frag} {H : Hp} : ∀ {ns : List Str} {vs : List V}, RDs K G H (ns.map .str) vs → vs = ns.map V.str
  | [], _, .nil => rfl
  | _ :: _, _, .cons h t => by cases h; rw [rds_strs t]; rfl
theorem rds_bls {K : PySem.W.Frag} {H : Hp} : ∀ {ns : List Bool} {vs : List V}, RDs K G H (ns.map .bl) vs → vs = ns.map V.bl
  | [], _, .nil => rfl
  | _ :: _, _, .cons h t => by cases h; rw [rds_bls t]; rfl
theorem c_tuple : CallR X (.type "tuple") (lct X.K G (blV .tuple)) := by
  rintro pins s σ H xs us Q I r ⟨v, ds, g, h, q, rfl, it, rh, ⟨hl, hr⟩, k⟩
  cases gl : g.isL with
  | true =>
    obtain ⟨p, vs, rfl, s1, s2, s3⟩ := itL it rh gl
    exact call_tuple_of pins s σ H _ us Q I r ⟨p, vs, rfl, .inl ⟨s1, fun l nl => k _ _ _ _ (Fx.new nl) (.tup (.inl upd_same) s3 (s2.ext (Ext.new nl))) (rh.hid nl) hr⟩⟩
  | false =>
    rw [gl, Bool.false_or] at hl
    cases it with
    | tup t r' l => exact call_tuple_of pins s σ H _ us Q I r ⟨_, _, rfl, .inr ⟨t.sq, k _ _ _ _ Fx.refl (.tup t l r') rh hr⟩⟩
    | str _ => cases hl
    | lst e => cases gl
    | kls _ _ _ => cases gl
    | kdc _ _ _ _ => cases hl
    | dic _ => cases hl
    | hid e _ r z => cases gl
theorem call_list_fK {X : Cx} (hc : X.calm = true) : CallR X (.type "list") (fun xs H Q => ∃ p kvs, xs = [V.ref p] ∧ KdcAt H p kvs ∧ ∀ q, H q = none → Q (.ref q) (upd H q (.lst (kvs.map fun kv => kV kv.1)))) := by
  intro pins s σ H xs us Q I r h
  obtain ⟨p, kvs, e, ⟨o, hk⟩, q⟩ := h
  subst e
  obtain ⟨u, eu, rx⟩ := vals1 r
  subst eu
  obtain rfl : u = Value.ref p := rx
  obtain ⟨z, lo, vs, rk, hd⟩ := dk_rd I.hok (.inr ⟨o, hk⟩)
  obtain ⟨ep, hat⟩ := hd.dictAt
  have hl : kvs.length = vs.length := Paired.length rk
  refine PySem.W.kdl_call (PySem.W.kdl_dict (knd := mixKind X.prog X.w) (kvs := vs) (ep := ep) lo) (I.ok.hd hc) hat (by rw [← hl]; exact z) fun h' tk acc' c' hkeep hS hacc => ?_
  refine ⟨.ref s.heap.objs.size, upd H s.heap.objs.size (.lst (kvs.map fun kv => kV kv.1)), I.laid hkeep (Nat.le_refl _) (show ObjOk X.prog X.w _ _ _ (.lst (kvs.map fun kv => kV kv.1)) from ⟨?_, acc'.toList, c', ?_, ?_⟩), rfl, q _ (I.hok.fresh (Nat.le_refl _))⟩
  · rw [List.length_map]; exact z
  · have el : acc'.toList.length = acc'.size := by simp
    refine vals_of_at (by rw [List.length_map, el, hacc.1, hl]) fun j x w h1 h2 => ?_
    obtain ⟨k, y, hky, hi⟩ := hacc.2 j w (by rw [← Array.getElem?_toList]; exact h2)
    have e1 : (kvs.map (·.1))[j]? = some k := by
      rw [KV.keys rk, List.getElem?_map, hky] <;> rfl
    have e2 : (kvs.map fun kv => kV kv.1)[j]? = some (kV k) := by
      have e3 : (kvs.map fun kv => kV kv.1) = (kvs.map (·.1)).map kV := by rw [List.map_map] <;> rfl
      rw [e3, List.getElem?_map, e1] <;> rfl
    rw [e2] at h1
    cases h1
    exact keyIs_rel hi
  · rw [Array.toArray_toList]; exact hS
theorem zip_keys {ks : List Key} {vs : List V} (h : ks.length = vs.length) : ((ks.zip vs).map fun kv => kV kv.1) = ks.map kV := by
  induction ks generalizing vs with
  | nil => rfl
  | cons k ks ih =>
    cases vs with
    | nil => cases h
    | cons v vs => rw [List.zip_cons_cons, List.map_cons, List.map_cons, ih (by simpa using h)]
theorem rds_keys {K : PySem.W.Frag} {H : Hp} : ∀ {ks : List Key}, (∀ k ∈ ks, KeyG k) → RDs K G H (ks.map kD) (ks.map kV)
  | [], _ => .nil
  | k :: ks, h => .cons (by
      cases k with
      | inl i => exact .int i
      | inr s => exact .str s (h _ List.mem_cons_self)) (rds_keys fun k hk => h k (List.mem_cons_of_mem _ hk))
theorem c_list (hc : X.calm = true) : CallR X (.type "list") (lct X.K G (blV .list)) := by
  rintro pins s σ H xs us Q I r ⟨v, ds, g, h, q, rfl, it, rh, ⟨hl, hr⟩, k⟩
  cases gl : g.isL with
  | true =>
    obtain ⟨p, vs, rfl, s1, s2, s3⟩ := itL it rh gl
    exact call_list_of pins s σ H _ us Q I r ⟨p, vs, rfl, .inl s1, fun l nl => k _ _ _ _ (Fx.newM nl) (.ref l) (rh.newL nl s3 s2) (hr l (rh.none_of nl))⟩
  | false =>
    rw [gl, Bool.false_or] at hl
    cases it with
    | tup t r' z => exact call_list_of pins s σ H _ us Q I r ⟨_, _, rfl, .inr t.sq, fun l nl => k _ _ _ _ (Fx.newM nl) (.ref l) (rh.newL nl z r') (hr l (rh.none_of nl))⟩
    | str _ => cases hl
    | lst e => cases gl
    | kls _ _ _ => cases gl
    | @kdc p ks xs vs t n l rr =>
      exact call_list_fK hc pins s σ H _ us Q I r ⟨p, ks.zip vs, rfl, t, fun q' nq => k _ _ _ _ (Fx.newM nq) (.ref q') (rh.newL nq (by rw [List.length_map, n.len]; exact l) (by rw [zip_keys (by rw [← rr.len]; exact n.len)]; exact rds_keys n.key)) (hr q' (rh.none_of nq))⟩
    | dic _ => cases hl
    | hid e _ r z => cases gl
theorem c_sum (hc : X.calm = true) : CallR X (.builtin "sum") (lct X.K G (blV .sum)) := by
  rintro pins s σ H xs us Q I r ⟨v, ds, g, h, q, rfl, it, rh, ⟨gl, ns, rfl, hr⟩, k⟩
  obtain ⟨p, vs, rfl, s1, s2, s3⟩ := itL it rh gl
  have := rds_ints s2
  subst this
  exact cr_sum hc pins s σ H _ us Q I r ⟨p, ns, rfl, s1, k _ _ _ _ Fx.refl (.int _) rh hr⟩
theorem c_all (hc : X.calm = true) : CallR X (.builtin "all") (lct X.K G (blV .all)) := by
  rintro pins s σ H xs us Q I r ⟨v, ds, g, h, q, rfl, it, rh, ⟨gl, ns, rfl, hr⟩, k⟩
  obtain ⟨p, vs, rfl, s1, s2, s3⟩ := itL it rh gl
  have := rds_bls s2
  subst this
  exact cr_all hc pins s σ H _ us Q I r ⟨p, ns, rfl, s1, k _ _ _ _ Fx.refl (.bl _) rh hr⟩
theorem c_any (hc : X.calm = true) : CallR X (.builtin "any") (lct X.K G (blV .any)) := by
  rintro pins s σ H xs us Q I r ⟨v, ds, g, h, q, rfl, it, rh, ⟨gl, ns, rfl, hr⟩, k⟩
  obtain ⟨p, vs, rfl, s1, s2, s3⟩ := itL it rh gl
  have := rds_bls s2
  subst this
  exact cr_any hc pins s σ H _ us Q I r ⟨p, ns, rfl, s1, k _ _ _ _ Fx.refl (.bl _) rh hr⟩
/-- things in order -/
def RS1 (K : PySem.W.Frag) (G : Nat → Addr) (H : Hp) (h : HD) (u : Value) (b : D × PyData) : Prop := ∃ v, RelV v u ∧ RD K G H b.1 v ∧ Py h b.1 b.2
theorem each_rs {K : PySem.W.Frag} {H : Hp} {h : HD} : ∀ {ds : List D} {ps : List PyData} {vs : List V} {us : List Value}, RDs K G H ds vs → Pys h ds ps → Vals vs us → PySem.W.EachIs (RS1 K G H h) us (ds.zip ps)
  | _, _, _, _, .nil, .nil, .nil => .nil
  | _, _, _, _, .cons r rs, .cons p ps, .cons v vs => .cons ⟨_, v, r, p⟩ (each_rs rs ps vs)
theorem rs_each {K : PySem.W.Frag} {H : Hp} {h : HD} : ∀ {us : List Value} {bs : List (D × PyData)}, PySem.W.EachIs (RS1 K G H h) us bs → ∃ vs, RDs K G H (bs.map (·.1)) vs ∧ Vals vs us
  | _, _, .nil => ⟨[], .nil, .nil⟩
  | _, _, .cons ⟨v, r, q, _⟩ t => let ⟨vs, a, b⟩ := rs_each t; ⟨v :: vs, .cons q a, .cons r b⟩
theorem pys_len {h : HD} : ∀ {ds : List D} {ps : List PyData}, Pys h ds ps → ds.length = ps.length
  | _, _, .nil => rfl
  | _, _, .cons _ t => by rw [List.length_cons, List.length_cons, pys_len t]
theorem zip_snd {α β : Type} : ∀ (ks : List α) (vs : List β), ks.length = vs.length → (ks.zip vs).map (·.2) = vs
  | [], [], _ => rfl
  | [], _ :: _, h => by cases h
  | _ :: _, [], h => by cases h
  | k :: ks, v :: vs, h => by rw [List.zip_cons_cons, List.map_cons, zip_snd ks vs (by simpa using h)]
theorem depth_mem : ∀ {ps : List PyData} {p : PyData}, p ∈ ps → p.depth ≤ PyData.depthAll ps
  | x :: ps, p, h => by
    show p.depth ≤ max x.depth (PyData.depthAll ps)
    rcases List.mem_cons.mp h with e | h
    · rw [e]; exact Nat.le_max_left _ _
    · exact Nat.le_trans (depth_mem h) (Nat.le_max_right _ _)
theorem c_sorted (hu : X.A.units + 65 < cLine) (hu2 : X.A.units + 70 < cLine) : CallR X (.builtin "sorted") (lct X.K G (blV .sorted)) := by
  rintro pins s σ H xs us Q I r ⟨v, ds, g, h, q, rfl, it, rh, ⟨gl, ps, hp, hal, hso, hdp, hr⟩, k⟩
  obtain ⟨p, vs, rfl, s1, s2, s3⟩ := itL it rh gl
  obtain ⟨its, rv, pl, hz⟩ := I.list s1
  rw [Vals.ref1 r]
  have el := pys_len hp
  have e := each_rs s2 hp rv
  have z2 := zip_snd ds ps el
  have zl : (ds.zip ps).length = ds.length := by rw [List.length_zip, ← el, Nat.min_self]
  refine PySem.W.sorted_data (enc := fun b : D × PyData => b.2) pl.isList e (e.mono fun u b ⟨v, r1, r2, r3⟩ => Dp.reads I b.2 v u (r3.dp rh r2) r1) (by rw [z2]; exact hal) (by rw [z2]; exact hso) (by rw [zl]; exact s3)
    (fun b hb => by
      have : b.2 ∈ ps := by rw [← z2]; exact List.mem_map.mpr ⟨b, hb, rfl⟩
      have := depth_mem this
      omega) fun out ho he => ?_
  obtain ⟨vs', r1, r2⟩ := rs_each he
  obtain ⟨ep, he'⟩ := PyProof.Rows.sortedAll_at s.heap its out.toArray
  have hl : ((ds.zip ps).mergeSort (PySem.W.dataLe false fun p => p.2)).length = ds.length := by rw [List.length_mergeSort, zl]
  have hlen : vs'.length ≤ sizeLine := by rw [← r1.len, List.length_map, hl]; exact s3
  have hn : H (s.heap.objs.size + 1) = none := I.hok.fresh (Nat.le_succ _)
  refine ⟨.ref (s.heap.objs.size + 1), upd H (s.heap.objs.size + 1) (.lst vs'), I.laid (t' := s.toks) (fun _ _ => PyProof.Rows.sortedAll_old) (Nat.le_succ _) ⟨hlen, out, ep, r2, he'⟩, rfl, ?_⟩
  exact k _ _ _ _ (Fx.newM hn) (.ref _) (rh.newL (ds := sortD ds ps) hn (by unfold sortD; rw [List.length_map, hl]; exact s3) r1) (hr _ (rh.none_of hn))
theorem p_blB {x : Str} {id : String} {e : Expr} {ti : Sl → HD → (List D → Gd → HD → Prop) → XQ → Prop} {r : List D → Gd → HD → VQ → Prop} {p pos : Pos} (hc : CallR X (.builtin id) (lct X.K G r)) (hg : Gl X x) (hm : X.mg x = none) (hv : bootBuiltins x = some (.builtin id)) (he : PE X e (liftI X.K G W ti))
    (hn : x ≠ "__name__") (hdb : (x == ("__debug__" : Str)) = false) (hns : (!isStar e) = true) : PE X (.Call (.Name x p) [e] [] pos) (lift X.K G W fun σ h q z => ti σ h (fun xs g h1 => r xs g h1 q) z) :=
  PE.imp (pe_callB hc hg hm hv (pa_cons he pa_nil (star1 hns _ _)) hn hdb (star1 hns _ _) rfl) fun σ H Q ⟨a, h, q, x, rs, rh, ht, k, kx⟩ => ⟨a, h, _, x, rs, rh, ht, fun xs g h1 v H1 fx1 it rh1 hq1 => ⟨v, xs, g, h1, q, rfl, it, rh1, hq1, k.ext fx1⟩, kx⟩
theorem p_blT {x : Str} {id : String} {e : Expr} {ti : Sl → HD → (List D → Gd → HD → Prop) → XQ → Prop} {r : List D → Gd → HD → VQ → Prop} {p pos : Pos} (hc : CallR X (.type id) (lct X.K G r)) (hg : Gl X x) (hm : X.mg x = none) (hv : bootBuiltins x = some (.type id)) (he : PE X e (liftI X.K G W ti))
    (hn : x ≠ "__name__") (hdb : (x == ("__debug__" : Str)) = false) (hns : (!isStar e) = true) : PE X (.Call (.Name x p) [e] [] pos) (lift X.K G W fun σ h q z => ti σ h (fun xs g h1 => r xs g h1 q) z) :=
  PE.imp (pe_callTy hc hg hm hv (pa_cons he pa_nil (star1 hns _ _)) hn hdb (star1 hns _ _) rfl) fun σ H Q ⟨a, h, q, x, rs, rh, ht, k, kx⟩ => ⟨a, h, _, x, rs, rh, ht, fun xs g h1 v H1 fx1 it rh1 hq1 => ⟨v, xs, g, h1, q, rfl, it, rh1, hq1, k.ext fx1⟩, kx⟩
/-! ### methods -/
theorem base_no {o : Expr} (h : (!isCall0 o) = true) (name : Str) (env : Env) (w : Sem Value) : attributeBase o name env w = w := by
  cases o with
  | Call f as ks p =>
    cases as with
    | nil => cases ks with
      | nil => cases h
      | cons _ _ => cases f <;> rfl
    | cons _ _ => cases f <;> rfl
  | _ => rfl
theorem few_ok {es : List Expr} {pos : Pos} {env : Env} (h : noStar es = true) (l : es.length < 30) : ((backTo pos (starEach es env)).all (fun x => !x.1) && (backToKw pos (keywordEach [] env)).all (fun x => x.1.isSome)
      && decide (es.length + ([] : List Keyword).length + (if ([] : List Keyword).isEmpty then 0 else 1) < 30)) = true := by
  have h1 : (backTo pos (starEach es env)).all (fun x => !x.1) = true := by
    have := starBack env pos h
    rw [List.all_eq_not_any_not]
    simp only [Bool.not_not]
    rw [this]; rfl
  rw [h1]
  simp [keywordEach, backToKw, l]
theorem p_append {o e : Expr} {to te : TED} {apos cpos : Pos} (ho : PE X o (lift X.K G W to)) (he : PE X e (lift X.K G W te)) (hb : (!isCall0 o) = true) (hs : (!isStar e) = true) (hl : (apos.endLine == cpos.line) = true) :
    PE X (.Call (.Attribute o "append" apos) [e] [] cpos) (lift X.K G W fun σ h q x => to σ h (fun d h1 => bmT .append d h1 ∧ te σ h1 (fun y h2 => bmV .append d [y] h2 q) x) x) :=
  PE.imp (pe_bm PySem.F.plainAttrs_list PySem.F.slot_list_append PySem.F.type_list_append mt_append ho (pa_cons he pa_nil (star1 hs _ _)) (base_no hb _ _ _) (few_ok (by show ((!isStar e) && true) = true; rw [hs]; rfl) (by show 1 < 30; decide)) hl (star1 hs _ _) rfl)
    fun σ H Q ⟨a, h, q, x, rs, rh, ht, k, kx⟩ => ⟨a, h, _, x, rs, rh, ht, fun d h1 v1 H1 fx1 rd1 rh1 ⟨hq0, hq1⟩ => by
      cases rd1 with
      | ref l =>
        unfold bmT at hq0
        dsimp only at hq0
        split at hq0
        · rename_i xs0 e0
          obtain ⟨vs0, g1, _⟩ := rh1 l _ e0
          refine ⟨.inl ⟨rfl, vs0, .inl (.inl g1)⟩, a, h1, _, x, rs.ext fx1.ext, rh1, hq1, fun y h2 v2 H2 fx2 rd2 rh2 hq2 => ?_, kx.ext fx1⟩
          unfold bmV at hq2
          dsimp only at hq2
          split at hq2
          · rename_i xs e2
            obtain ⟨vs, g2, _, g4⟩ := rh2 l _ e2
            refine ⟨l, vs, v2, rfl, rfl, g2, by rw [← g4.len]; exact hq2.1, ?_⟩
            exact k _ _ _ _ ((fx1.trans fx2).trans (Fx.wr e2 g2 (fun z => z))) .non (rh2.wrL g2 (fun z => z) (by rw [List.length_append]; exact hq2.1) (g4.snoc rd2)) hq2.2
          · exact hq2.elim
        · exact hq0.elim
      | _ => exact False.elim hq0, kx⟩
theorem p_pop0 {o : Expr} {to : TED} {apos cpos : Pos} (ho : PE X o (lift X.K G W to)) (hb : (!isCall0 o) = true) (hl : (apos.endLine == cpos.line) = true) :
    PE X (.Call (.Attribute o "pop" apos) [] [] cpos) (lift X.K G W fun σ h q x => to σ h (fun d h1 => bmT .pop0 d h1 ∧ bmV .pop0 d [] h1 q) x) :=
  PE.imp (pe_bm0 PySem.F.plainAttrs_list PySem.F.slot_list_pop PySem.F.type_list_pop mt_pop ho (base_no hb _ _ _) hl)
    fun σ H Q ⟨a, h, q, x, rs, rh, ht, k, kx⟩ => ⟨a, h, _, x, rs, rh, ht, fun d h1 v1 H1 fx1 rd1 rh1 ⟨hq0, hq1⟩ => by
      cases rd1 with
      | ref l =>
        unfold bmV at hq1
        dsimp only at hq1
        split at hq1
        · rename_i xs e2
          obtain ⟨vs, g2, g3, g4⟩ := rh1 l _ e2
          split at hq1
          · rename_i d ed
            obtain ⟨v, e5, e6⟩ := g4.get ed
            refine ⟨.inl ⟨rfl, vs, .inl (.inl g2)⟩, l, vs, v, rfl, rfl, g2, by rw [← g4.len]; exact e5, ?_⟩
            have dl : RDs X.K G H1 xs.dropLast vs.dropLast := by
              rw [List.dropLast_eq_take, List.dropLast_eq_take, ← g4.len]
              exact g4.take _
            exact k _ _ _ _ (fx1.trans (Fx.wr e2 g2 (fun z => z))) (e6.ext (Ext.wr g2 (fun z => z))) (rh1.wrL g2 (fun z => z) (Nat.le_trans (by rw [List.length_dropLast]; exact Nat.sub_le _ _) g3) dl) hq1
          · exact hq1.elim
        · exact hq1.elim
      | _ => exact False.elim hq1, kx⟩
/-! ### walks -/
structure Wk (K : PySem.W.Frag) (G : Nat → Addr) (J : It) (xs : List D) (gd : List Gd) (H0 : Hp) (h0 : HD) : Prop where
  ok : gdsOk h0 gd
  go : ∀ i H h, i < xs.length → RH K G H h → Fx H0 h0 H h → gdsOk h gd → J.go i H ∧ ∀ x H', J.yld i H x H' → ∃ d, xs[i]? = some d ∧ RD K G H' d x ∧ RH K G H' h ∧ Fx H h H' h
  stop : ∀ i H h, xs.length ≤ i → RH K G H h → Fx H0 h0 H h → gdsOk h gd → J.stop i H
def liftP (K : PySem.W.Frag) (G : Nat → Addr) (W : WX) (t : TID) : TI := fun σ H R => ∃ a h q r, RS K G H a σ ∧ RH K G H h ∧ t a h q r ∧
  (∀ xs g h' J H', Fx H h H' h' → RH K G H' h' → Wk K G J xs g H' h' → xs.length ≤ sizeLine → q xs g h' → R J H') ∧ ContX K G W σ H h r
theorem wk_list {K : PySem.W.Frag} {a : Addr} {xs : List D} {gd : List Gd} {H0 : Hp} {h0 : HD} (ok : gdsOk h0 gd) (at_ : ∀ H h, RH K G H h → Fx H0 h0 H h → gdsOk h gd → ∃ vs, SqL K H a vs ∧ RDs K G H xs vs) : Wk K G (Itl K a) xs gd H0 h0 where
  ok := ok
  go := fun i H h hi rh fx g => by
    obtain ⟨vs, s1, s2⟩ := at_ H h rh fx g
    obtain ⟨v, e1, e2⟩ := s2.get (List.getElem?_eq_getElem hi)
    refine ⟨⟨vs, v, s1, e1⟩, fun x H' ⟨eH, hx⟩ => ?_⟩
    subst eH
    have := hx vs s1
    rw [e1] at this
    cases this
    exact ⟨_, List.getElem?_eq_getElem hi, e2, rh, Fx.refl⟩
  stop := fun i H h hi rh fx g => by
    obtain ⟨vs, s1, s2⟩ := at_ H h rh fx g
    exact ⟨vs, s1, by rw [← s2.len]; exact hi⟩
theorem wk_tup {K : PySem.W.Frag} {a : Addr} {xs : List D} {vs : List V} {gd : List Gd} {H0 : Hp} {h0 : HD} (ok : gdsOk h0 gd) (t : TupAt K H0 a vs) (r : RDs K G H0 xs vs) : Wk K G (Itt K a) xs gd H0 h0 where
  ok := ok
  go := fun i H h hi rh fx g => by
    have s1 : SqT K H a vs := (t.ext fx.ext).sq
    obtain ⟨v, e1, e2⟩ := (r.ext fx.ext).get (List.getElem?_eq_getElem hi)
    refine ⟨⟨vs, v, s1, e1⟩, fun x H' ⟨eH, hx⟩ => ?_⟩
    subst eH
    have := hx vs s1
    rw [e1] at this
    cases this
    exact ⟨_, List.getElem?_eq_getElem hi, e2, rh, Fx.refl⟩
  stop := fun i H h hi rh fx g => ⟨vs, (t.ext fx.ext).sq, by rw [← r.len]; exact hi⟩
theorem wk_str {K : PySem.W.Frag} {z : Str} {gd : List Gd} {H0 : Hp} {h0 : HD} (ok : gdsOk h0 gd) (sg : StrG z) : Wk K G (Its z) (chars z) gd H0 h0 where
  ok := ok
  go := fun i H h hi rh fx g => by
    have hl : (chars z).length = z.cps.size := by unfold chars; rw [List.length_map, Array.length_toList]
    refine ⟨by show i < z.cps.size; omega, fun x H' ⟨eH, c, hc, hx⟩ => ?_⟩
    subst eH hx
    refine ⟨.str ⟨#[c]⟩, ?_, .str _ ?_, rh, Fx.refl⟩
    · unfold chars
      rw [List.getElem?_map, Array.getElem?_toList, hc]; rfl
    · have : L2.atI z.cps.toList (i : Int) = some c := atI_nat (by rw [Array.getElem?_toList]; exact hc)
      exact strG_sign sg this
  stop := fun i H h hi rh fx g => by
    have hl : (chars z).length = z.cps.size := by unfold chars; rw [List.length_map, Array.length_toList]
    show z.cps.size ≤ i; omega
theorem wk_rng {K : PySem.W.Frag} {lo : Int} {m : Nat} {gd : List Gd} {H0 : Hp} {h0 : HD} (ok : gdsOk h0 gd) : Wk K G (Itr lo m) (rngL lo m) gd H0 h0 where
  ok := ok
  go := fun i H h hi rh fx g => by
    have hl : (rngL lo m).length = m := by unfold rngL; rw [List.length_map, List.length_range]
    refine ⟨by show i < m; omega, fun x H' ⟨eH, hx⟩ => ?_⟩
    subst eH hx
    refine ⟨.int (lo + i), ?_, .int _, rh, Fx.refl⟩
    unfold rngL
    rw [List.getElem?_map, List.getElem?_range (by omega)]; rfl
  stop := fun i H h hi rh fx g => by
    have hl : (rngL lo m).length = m := by unfold rngL; rw [List.length_map, List.length_range]
    show m ≤ i; omega
theorem g1kd {h : HD} : gdsOk h [.kd] := fun x hx => by rw [List.mem_singleton.mp hx]; trivial
theorem zip_len {α β : Type} {ks : List α} {vs : List β} (h : ks.length = vs.length) : (ks.zip vs).length = vs.length := by rw [List.length_zip]; omega
theorem wk_keys {K : PySem.W.Frag} {d : Addr} {o : Obj} {ks : List Key} {vs : List V} {H0 : Hp} {h0 : HD} (hl : ks.length = vs.length) (kg : ∀ k ∈ ks, KeyG k) (t : H0 d = some (.frz o (.dK (ks.zip vs)))) : Wk K G (Itk d o (ks.zip vs)) (ks.map kD) [.kd] H0 h0 where
  ok := fun x hx => by rw [List.mem_singleton.mp hx]; trivial
  go := fun i H h hi rh fx g => by
    rw [List.length_map] at hi
    have s1 := fx.ext _ _ t trivial
    refine ⟨⟨s1, by rw [zip_len hl]; omega⟩, fun x H' ⟨eH, k, v, e, hx⟩ => ?_⟩
    subst eH hx
    have e' := (List.getElem?_zip_eq_some.mp e).1
    refine ⟨kD k, by rw [List.getElem?_map, e']; rfl, ?_, rh, Fx.refl⟩
    cases k with
    | inl i => exact .int i
    | inr s => exact .str s (kg _ (List.mem_of_getElem? e'))
  stop := fun i H h hi rh fx g => ⟨fx.ext _ _ t trivial, by rw [zip_len hl, ← hl]; rw [List.length_map] at hi; exact hi⟩
theorem g1tp {h : HD} : gdsOk h [.tp] := fun x hx => by rw [List.mem_singleton.mp hx]; trivial
theorem g1st {h : HD} : gdsOk h [.st] := fun x hx => by rw [List.mem_singleton.mp hx]; trivial
theorem g1kl {h : HD} : gdsOk h [.kl] := fun x hx => by rw [List.mem_singleton.mp hx]; trivial
theorem g1hid {h : HD} : gdsOk h [.hid] := fun x hx => by rw [List.mem_singleton.mp hx]; trivial
theorem g1ls {h : HD} {a : Addr} {m : MO} (e : h a = some m) : gdsOk h [.ls a m] := fun x hx => by rw [List.mem_singleton.mp hx]; exact e
theorem g0 {h : HD} : gdsOk h [] := fun x hx => by cases hx
/-- a walk of a thing by its value -/
theorem i_seq {e tg : Expr} {ti : Sl → HD → (List D → Gd → HD → Prop) → XQ → Prop} (he : PE X e (liftI X.K G W ti)) : PI X tg e (liftP X.K G W fun σ h q r => ti σ h (fun xs g h1 => [g].all Gd.walk = true ∧ q xs [g] h1) r) := by
  refine ⟨fun pins s σ H R I ⟨a, h, q, r, rs, rh, ht, k, kx⟩ => ?_⟩
  refine thn (he.run pins s σ H (fun v H' => ∃ xs g h', Fx H h H' h' ∧ ItR X.K G H' h' v xs g ∧ RH X.K G H' h' ∧ g.walk = true ∧ q xs [g] h') I ⟨a, h, _, r, rs, rh, ht, fun xs g h' v H' fx it rh' ⟨w, hq⟩ =>
    ⟨xs, g, h', fx, it, rh', by simpa using w, hq⟩, kx⟩) fun v s1 ⟨x, H1, I1, r1, xs, g, h1, fx, it, rh1, w, hq⟩ => ?_
  cases it with
  | @tup p vs _ t rr z =>
    cases r1
    obtain ⟨its, rv, pt, hz⟩ := I1.tuple t.sq
    refine wpAny_pyIter_tuple (show s1.heap.IsTuple p its.toArray from pt) ?_
    refine pi_one (tk := s1.toks) I1 _ (turn_tuple p _) ⟨_, Heap.get?_push_size _ rfl, rfl, rfl⟩ (k _ _ _ _ _ fx rh1 (wk_tup g1tp t rr) z hq)
  | @str z sg =>
    obtain ⟨t, rfl⟩ := r1
    have fin := k _ _ _ (Its z) _ fx rh1 (wk_str g1st sg) (by have := sg.1; unfold chars; rw [List.length_map, Array.length_toList]; exact this) hq
    cases ha : z.cps.all (· < 128)
    · exact wpAny_pyIter_wide ha (pi_one (tk := s1.toks) I1 _ (turn_str _ z t "str_iterator" (.inr rfl)) ⟨_, Heap.get?_push_size _ rfl, rfl, rfl⟩ fin)
    · exact wpAny_pyIter_ascii ha (pi_one (tk := s1.toks) I1 _ (turn_str _ z t "str_ascii_iterator" (.inl rfl)) ⟨_, Heap.get?_push_size _ rfl, rfl, rfl⟩ fin)
  | @lst p _ e =>
    cases r1
    obtain ⟨vs, g1, g2, g3⟩ := rh1 p _ e
    obtain ⟨its, rv, pt, hz⟩ := I1.list (.inl (.inl g1))
    refine wpAny_pyIter_list pt.isList (pi_one (tk := s1.toks) I1 _ (turn_list p _) ⟨_, Heap.get?_push_size _ rfl, rfl, rfl⟩ (k _ _ _ _ _ fx rh1 (wk_list (g1ls e) fun H h rh _ g => ?_) g2 hq))
    obtain ⟨ws, q1, _, q3⟩ := rh p _ (g _ List.mem_cons_self)
    exact ⟨ws, .inl (.inl q1), q3⟩
  | @kls p vs _ t rr z =>
    cases r1
    obtain ⟨its, rv, pt, hz⟩ := I1.list t.sq
    exact wpAny_pyIter_list pt.isList (pi_one (tk := s1.toks) I1 _ (turn_list p _) ⟨_, Heap.get?_push_size _ rfl, rfl, rfl⟩ (k _ _ _ _ _ fx rh1 (wk_list g1kl fun H h rh fx2 g => ⟨vs, (t.ext fx2.ext).sq, rr.ext fx2.ext⟩) z hq))
  | @kdc p ks _ vs t n l rr =>
    obtain ⟨o, t⟩ := t
    obtain rfl := r1
    obtain ⟨hs, hgd, hx, es, ep, vs', hdt, hsz, kv, hm⟩ := I1.frzK t
    refine iter_keys hs hgd hx hdt (pi_one (tk := s1.toks) I1 _ (turn_keys _ hdt) ⟨_, Heap.get?_push_size _ rfl, rfl, ?_⟩ (k _ _ _ _ _ fx rh1 (wk_keys (by rw [← rr.len]; exact n.len) n.key t) (by rw [List.length_map, n.len]; exact l) hq))
    rw [hsz] <;> rfl
  | @dic p kvs e => cases w
  | @hid p vs _ e1 e2 rr z =>
    cases r1
    obtain ⟨its, rv, pt, hz⟩ := I1.list (.inl (.inl e1))
    refine wpAny_pyIter_list pt.isList (pi_one (tk := s1.toks) I1 _ (turn_list p _) ⟨_, Heap.get?_push_size _ rfl, rfl, rfl⟩ (k _ _ _ _ _ fx rh1 (wk_list g1hid fun H h rh fx2 g => ?_) z hq))
    exact ⟨vs, .inl (.inl (fx2.st p _ e1 (.inl e2))), rr.ext fx2.ext⟩
end
end Nd
/-! Nd10: targets, comprehensions, calls, statements. -/
namespace Nd
open PySem PySem.Spec PyProof.Rows L2
section
variable {X : Cx} {G : Nat → Addr} {W : WX} {C : Ca} {c : Cf} {sc : Scope} {n : Nat}
theorem i_rng1 {a tg : Expr} {t : TAD} {p pos : Pos} (hg : Gl X "range") (hm : X.mg "range" = none) (ha : PA X [a] (liftA X.K G W t)) (hs : (!isStar a) = true) :
    PI X tg (.Call (.Name "range" p) [a] [] pos) (liftP X.K G W fun σ h q r => t σ h (fun ds h1 => itK .rng1 ds h1 q) r) := by
  refine ⟨fun pins s σ H R I ⟨a, h, q, r, rs, rh, ht, k, kx⟩ => (pi_range1 hg hm ha (by rw [star1 hs]; rfl)).run pins s σ H R I ⟨a, h, _, r, rs, rh, ht, fun ds h1 vs H1 fx1 rd1 rh1 hq1 => ?_, kx⟩⟩
  match ds, rd1, hq1 with
  | [.int i], rd1, hq1 =>
    obtain ⟨v, rfl, r1⟩ := rds1 rd1
    cases r1
    exact ⟨i, rfl, hq1.1.1, by have := hq1.1.2; omega, k _ _ _ _ _ fx1 rh1 (wk_rng g0) (by have := hq1.1.2; unfold rngL; rw [List.length_map, List.length_range]; have : sizeLine = 16777216 := rfl; omega) hq1.2⟩
theorem i_rng2 {a b tg : Expr} {t : TAD} {p pos : Pos} (hg : Gl X "range") (hm : X.mg "range" = none) (ha : PA X [a, b] (liftA X.K G W t)) (hs : (!isStar a) = true) (hs' : (!isStar b) = true) :
    PI X tg (.Call (.Name "range" p) [a, b] [] pos) (liftP X.K G W fun σ h q r => t σ h (fun ds h1 => itK .rng2 ds h1 q) r) := by
  refine ⟨fun pins s σ H R I ⟨a, h, q, r, rs, rh, ht, k, kx⟩ => (pi_range2 hg hm ha (by rw [star1 hs, star1 hs']; rfl) (by rw [star1 hs']; rfl)).run pins s σ H R I ⟨a, h, _, r, rs, rh, ht, fun ds h1 vs H1 fx1 rd1 rh1 hq1 => ?_, kx⟩⟩
  match ds, rd1, hq1 with
  | [.int i, .int j], rd1, hq1 =>
    obtain ⟨v, w, rfl, r1, r2⟩ := rds2 rd1
    cases r1
    cases r2
    exact ⟨i, j, rfl, hq1.1.1, k _ _ _ _ _ fx1 rh1 (wk_rng g0) (by have := hq1.1.2; unfold rngL; rw [List.length_map, List.length_range]; have : sizeLine = 16777216 := rfl; omega) hq1.2⟩
theorem wk_step {K : PySem.W.Frag} {lo c : Int} {m : Nat} {gd : List Gd} {H0 : Hp} {h0 : HD} (ok : gdsOk h0 gd) : Wk K G (Itc lo c m) (stepL lo c m) gd H0 h0 where
  ok := ok
  go := fun i H h hi rh fx g => by
    have hl : (stepL lo c m).length = m := by unfold stepL; rw [List.length_map, List.length_range]
    refine ⟨by show i < m; omega, fun x H' ⟨eH, hx⟩ => ?_⟩
    subst eH hx
    refine ⟨.int (lo + i * c), ?_, .int _, rh, Fx.refl⟩
    unfold stepL
    rw [List.getElem?_map, List.getElem?_range (by omega)]; rfl
  stop := fun i H h hi rh fx g => by
    have hl : (stepL lo c m).length = m := by unfold stepL; rw [List.length_map, List.length_range]
    show m ≤ i; omega
theorem i_rng3 {a b c0 tg : Expr} {t : TAD} {p pos : Pos} (hg : Gl X "range") (hm : X.mg "range" = none) (ha : PA X [a, b, c0] (liftA X.K G W t)) (hs : (!isStar a) = true) (hs' : (!isStar b) = true) (hs2 : (!isStar c0) = true) :
    PI X tg (.Call (.Name "range" p) [a, b, c0] [] pos) (liftP X.K G W fun σ h q r => t σ h (fun ds h1 => itK .rng3 ds h1 q) r) := by
  refine ⟨fun pins s σ H R I ⟨a, h, q, r, rs, rh, ht, k, kx⟩ => (pi_range3 hg hm ha (by rw [star1 hs, star1 hs', star1 hs2]) (by rw [star1 hs', star1 hs2]; rfl)).run pins s σ H R I ⟨a, h, _, r, rs, rh, ht, fun ds h1 vs H1 fx1 rd1 rh1 hq1 => ?_, kx⟩⟩
  match ds, rd1, hq1 with
  | [.int i, .int j, .int c], rd1, hq1 =>
    obtain ⟨m, hm, hq⟩ := hq1
    cases rd1 with
    | cons r1 rd2 =>
      obtain ⟨v, w, rfl, r2, r3⟩ := rds2 rd2
      cases r1
      cases r2
      cases r3
      exact ⟨i, j, c, m, rfl, hm.1, k _ _ _ _ _ fx1 rh1 (wk_step g0) (by unfold stepL; rw [List.length_map, List.length_range]; exact hm.2) hq⟩
/-! ### lists by their addresses -/
/-- a list at a that stays while g does -/
def La (K : PySem.W.Frag) (G : Nat → Addr) (a : Addr) (xs : List D) (g : Gd) (H0 : Hp) (h0 : HD) : Prop := ∀ H h, RH K G H h → Fx H0 h0 H h → Gd.ok h g → ∃ vs, SqL K H a vs ∧ RDs K G H xs vs
theorem la_of {K : PySem.W.Frag} {H0 : Hp} {h0 : HD} {d : D} {x : V} {xs : List D} {g : Gd} (rd : RD K G H0 d x) (rh : RH K G H0 h0) (e : lsOf h0 d = some (xs, g)) : ∃ a, x = .ref a ∧ Gd.ok h0 g ∧ La K G a xs g H0 h0 ∧ xs.length ≤ sizeLine := by
  cases rd with
  | kls t l rr =>
    rename_i a vs ds
    cases e
    exact ⟨a, rfl, trivial, fun H h _ fx _ => ⟨vs, (t.ext fx.ext).sq, rr.ext fx.ext⟩, l⟩
  | ref a =>
    unfold lsOf at e
    dsimp only at e
    split at e
    · rename_i ys w
      cases e
      obtain ⟨_, _, wl, _⟩ := rh a _ w
      refine ⟨a, rfl, w, fun H h rh _ ok => ?_, wl⟩
      obtain ⟨vs, q1, _, q3⟩ := rh a _ ok
      exact ⟨vs, .inl (.inl q1), q3⟩
    · cases e
  | _ => cases e
theorem La.here {K : PySem.W.Frag} {H0 : Hp} {h0 : HD} {a : Addr} {xs : List D} {g : Gd} (l : La K G a xs g H0 h0) (rh : RH K G H0 h0) (ok : Gd.ok h0 g) : ∃ vs, SqL K H0 a vs ∧ RDs K G H0 xs vs := l H0 h0 rh Fx.refl ok
theorem zipL_get {xs ys : List D} {i : Nat} {x y : D} (hx : xs[i]? = some x) (hy : ys[i]? = some y) : (zipL xs ys)[i]? = some (.tup [x, y]) := by
  unfold zipL
  have e : (xs.zip ys)[i]? = some (x, y) := List.getElem?_zip_eq_some.mpr ⟨hx, hy⟩
  rw [List.getElem?_map, e]
  rfl
theorem zipL_len {xs ys : List D} : (zipL xs ys).length = min xs.length ys.length := by
  unfold zipL
  rw [List.length_map, List.length_zip]
theorem gd2 {h : HD} {g g' : Gd} (a : Gd.ok h g) (b : Gd.ok h g') : gdsOk h [g, g'] := fun x hx => by
  rcases List.mem_cons.mp hx with rfl | hx
  · exact a
  · rw [List.mem_singleton.mp hx]; exact b
theorem gd1 {h : HD} {g : Gd} (a : Gd.ok h g) : gdsOk h [g] := fun x hx => by rw [List.mem_singleton.mp hx]; exact a
theorem pair_new {K : PySem.W.Frag} {H : Hp} {h : HD} {T : Addr} {x y : V} {d e : D} (hT : H T = none) (rh : RH K G H h) (r1 : RD K G H d x) (r2 : RD K G H e y) :
    RD K G (upd H T (.tup [x, y])) (.tup [d, e]) (.ref T) ∧ RH K G (upd H T (.tup [x, y])) h ∧ Fx H h (upd H T (.tup [x, y])) h :=
  ⟨.tup (.inl upd_same) (by show 2 ≤ sizeLine; decide) (.cons (r1.ext (Ext.new hT)) (.cons (r2.ext (Ext.new hT)) .nil)), rh.hid hT, Fx.new hT⟩
theorem lsK_of {x : D} {h : HD} {k : List D → List Gd → Prop} (z : lsK x h k) : ∃ xs g, lsOf h x = some (xs, g) ∧ k xs [g] := by
  unfold lsK at z
  split at z
  · rename_i xs g e
    exact ⟨xs, g, e, z⟩
  · exact z.elim
theorem zip_cases {d e : D} {h : HD} {q : List D → List Gd → HD → Prop} (z : zipK d e h q) : (∃ xs ys, d = .tup xs ∧ e = .tup ys ∧ q (zipL xs ys) [] h) ∨ ∃ xs g ys g', lsOf h d = some (xs, g) ∧ lsOf h e = some (ys, g') ∧ q (zipL xs ys) [g, g'] h := by
  by_cases hd : ∃ xs, d = .tup xs
  · obtain ⟨xs, rfl⟩ := hd
    cases e with
    | tup ys => exact .inl ⟨xs, ys, rfl, rfl, z⟩
    | _ => exact z.elim
  · have z : lsK d h fun xs g => lsK e h fun ys g' => q (zipL xs ys) (g ++ g') h := by
      cases d with
      | tup xs => exact absurd ⟨xs, rfl⟩ hd
      | _ => exact z
    obtain ⟨xs, g, e1, z⟩ := lsK_of z
    obtain ⟨ys, g', e2, z⟩ := lsK_of (k := fun ys g' => q (zipL xs ys) ([g] ++ g') h) z
    exact .inr ⟨xs, g, ys, g', e1, e2, z⟩
theorem wk_enum {K : PySem.W.Frag} {a : Addr} {xs : List D} {g : Gd} {H0 : Hp} {h0 : HD} (o1 : Gd.ok h0 g) (l1 : La K G a xs g H0 h0) : Wk K G (Ite K a) (enumL xs) [g] H0 h0 where
  ok := gd1 o1
  go := fun i H h hi rh fx gd => by
    have hl : (enumL xs).length = xs.length := by unfold enumL; rw [List.length_map, List.length_zipIdx]
    rw [hl] at hi
    obtain ⟨vs, s1, r1⟩ := l1 H h rh fx (gd _ List.mem_cons_self)
    have hx := List.getElem?_eq_getElem (l := xs) (i := i) hi
    obtain ⟨v, e1, rv⟩ := r1.get hx
    refine ⟨⟨vs, v, s1, e1⟩, ?_⟩
    rintro z H' ⟨T, x, rfl, hT, rfl, f1⟩
    have e3 := f1 vs s1
    rw [e1] at e3
    cases e3
    refine ⟨.tup [.int (i : Nat), xs[i]], ?_, pair_new hT rh (.int _) rv⟩
    unfold enumL
    rw [List.getElem?_map, List.getElem?_zipIdx, hx]
    simp
  stop := fun i H h hi rh fx gd => by
    have hl : (enumL xs).length = xs.length := by unfold enumL; rw [List.length_map, List.length_zipIdx]
    rw [hl] at hi
    obtain ⟨vs, s1, r1⟩ := l1 H h rh fx (gd _ List.mem_cons_self)
    have z1 := r1.len
    exact ⟨vs, s1, by omega⟩
theorem rev_get {α : Type} {xs : List α} {i : Nat} (hi : i < xs.length) : xs.reverse[i]? = xs[xs.length - 1 - i]? := List.getElem?_reverse hi
theorem wk_rev {K : PySem.W.Frag} {a : Addr} {xs : List D} {g : Gd} {n : Nat} {H0 : Hp} {h0 : HD} (hn : xs.length = n) (o1 : Gd.ok h0 g) (l1 : La K G a xs g H0 h0) : Wk K G (Itv K a n) xs.reverse [g] H0 h0 where
  ok := gd1 o1
  go := fun i H h hi rh fx gd => by
    rw [List.length_reverse] at hi
    obtain ⟨vs, s1, r1⟩ := l1 H h rh fx (gd _ List.mem_cons_self)
    have hx := List.getElem?_eq_getElem (l := xs) (i := xs.length - 1 - i) (by omega)
    obtain ⟨v, e1, rv⟩ := r1.get hx
    rw [hn] at e1
    refine ⟨⟨by omega, vs, v, s1, e1⟩, ?_⟩
    rintro z H' ⟨rfl, f1⟩
    have e3 := f1 vs s1
    rw [e1] at e3
    cases e3
    exact ⟨_, (rev_get hi).trans hx, rv, rh, Fx.refl⟩
  stop := fun i H h hi rh fx gd => by
    rw [List.length_reverse, hn] at hi
    exact hi
theorem wk_revT {K : PySem.W.Frag} {a : Addr} {xs : List D} {vs : List V} {n : Nat} {H0 : Hp} {h0 : HD} (hn : xs.length = n) (t1 : TupAt K H0 a vs) (r1 : RDs K G H0 xs vs) : Wk K G (RT.ItvT K a n) xs.reverse [] H0 h0 where
  ok := g0
  go := fun i H h hi rh fx gd => by
    rw [List.length_reverse] at hi
    have s1 := (t1.ext fx.ext).sq
    have r1 := r1.ext fx.ext
    have hx := List.getElem?_eq_getElem (l := xs) (i := xs.length - 1 - i) (by omega)
    obtain ⟨v, e1, rv⟩ := r1.get hx
    rw [hn] at e1
    refine ⟨⟨by omega, vs, v, s1, e1⟩, ?_⟩
    rintro z H' ⟨rfl, f1⟩
    have e3 := f1 vs s1
    rw [e1] at e3
    cases e3
    exact ⟨_, (rev_get hi).trans hx, rv, rh, Fx.refl⟩
  stop := fun i H h hi rh fx gd => by
    rw [List.length_reverse, hn] at hi
    exact hi
theorem wk_zip {K : PySem.W.Frag} {a b : Addr} {xs ys : List D} {g g' : Gd} {H0 : Hp} {h0 : HD} (o1 : Gd.ok h0 g) (o2 : Gd.ok h0 g') (l1 : La K G a xs g H0 h0) (l2 : La K G b ys g' H0 h0) : Wk K G (Itz K a b) (zipL xs ys) [g, g'] H0 h0 where
  ok := gd2 o1 o2
  go := fun i H h hi rh fx gd => by
    rw [zipL_len] at hi
    obtain ⟨vs, s1, r1⟩ := l1 H h rh fx (gd _ List.mem_cons_self)
    obtain ⟨ws, s2, r2⟩ := l2 H h rh fx (gd _ (List.mem_cons_of_mem _ List.mem_cons_self))
    have hx := List.getElem?_eq_getElem (l := xs) (i := i) (by omega)
    have hy := List.getElem?_eq_getElem (l := ys) (i := i) (by omega)
    obtain ⟨v, e1, rv⟩ := r1.get hx
    obtain ⟨w, e2, rw'⟩ := r2.get hy
    refine ⟨⟨vs, ws, v, w, s1, s2, e1, e2⟩, ?_⟩
    rintro z H' ⟨T, x, y, rfl, hT, rfl, f1, f2⟩
    have e3 := f1 vs s1
    have e4 := f2 ws s2
    rw [e1] at e3
    rw [e2] at e4
    cases e3
    cases e4
    exact ⟨_, zipL_get hx hy, pair_new hT rh rv rw'⟩
  stop := fun i H h hi rh fx gd => by
    rw [zipL_len] at hi
    obtain ⟨vs, s1, r1⟩ := l1 H h rh fx (gd _ List.mem_cons_self)
    obtain ⟨ws, s2, r2⟩ := l2 H h rh fx (gd _ (List.mem_cons_of_mem _ List.mem_cons_self))
    have z1 := r1.len
    have z2 := r2.len
    exact ⟨vs, ws, s1, s2, by omega⟩
theorem wk_zipT {K : PySem.W.Frag} {a b : Addr} {xs ys : List D} {vs ws : List V} {H0 : Hp} {h0 : HD} (t1 : TupAt K H0 a vs) (r1 : RDs K G H0 xs vs) (t2 : TupAt K H0 b ws) (r2 : RDs K G H0 ys ws) : Wk K G (RZ.ItzT K a b) (zipL xs ys) [] H0 h0 where
  ok := g0
  go := fun i H h hi rh fx gd => by
    rw [zipL_len] at hi
    have r1 := r1.ext fx.ext
    have r2 := r2.ext fx.ext
    have s1 := (t1.ext fx.ext).sq
    have s2 := (t2.ext fx.ext).sq
    have hx := List.getElem?_eq_getElem (l := xs) (i := i) (by omega)
    have hy := List.getElem?_eq_getElem (l := ys) (i := i) (by omega)
    obtain ⟨v, e1, rv⟩ := r1.get hx
    obtain ⟨w, e2, rw'⟩ := r2.get hy
    refine ⟨⟨vs, ws, v, w, s1, s2, e1, e2⟩, ?_⟩
    rintro z H' ⟨T, x, y, rfl, hT, rfl, f1, f2⟩
    have e3 := f1 vs s1
    have e4 := f2 ws s2
    rw [e1] at e3
    rw [e2] at e4
    cases e3
    cases e4
    exact ⟨_, zipL_get hx hy, pair_new hT rh rv rw'⟩
  stop := fun i H h hi rh fx gd => by
    rw [zipL_len] at hi
    have z1 := r1.len
    have z2 := r2.len
    exact ⟨vs, ws, (t1.ext fx.ext).sq, (t2.ext fx.ext).sq, by omega⟩
theorem i_enum {a : Expr} {elts : List Expr} {kk : Nat} {tpos : Pos} {t : TAD} {p pos : Pos} (hg : Gl X "enumerate") (hm : X.mg "enumerate" = none) (ha : PA X [a] (liftA X.K G W t)) (hs : (!isStar a) = true) :
    PI X (.Tuple elts kk tpos) (.Call (.Name "enumerate" p) [a] [] pos) (liftP X.K G W fun σ h q r => t σ h (fun ds h1 => itK .enum ds h1 q) r) := by
  refine ⟨fun pins s σ H R I ⟨a, h, q, r, rs, rh, ht, k, kx⟩ => (pi_enum hg hm ha (by rw [star1 hs]; rfl)).run pins s σ H R I ⟨a, h, _, r, rs, rh, ht, fun ds h1 vs H1 fx1 rd1 rh1 hq1 => ?_, kx⟩⟩
  match ds, rd1, hq1 with
  | [d], rd1, hq1 =>
    obtain ⟨v, rfl, r1⟩ := rds1 rd1
    obtain ⟨xs, g, e, hq⟩ := lsK_of (show lsK d h1 fun xs g => q (enumL xs) g h1 from hq1)
    obtain ⟨a1, rfl, o1, l1, n1⟩ := la_of r1 rh1 e
    obtain ⟨vs, s1, _⟩ := l1.here rh1 o1
    exact ⟨a1, vs, rfl, s1, k _ _ _ _ _ fx1 rh1 (wk_enum o1 l1) (by unfold enumL; rw [List.length_map, List.length_zipIdx]; exact n1) hq⟩
  | [], _, hq1 => exact hq1.elim
  | _ :: _ :: _, _, hq1 => exact hq1.elim
theorem i_rev {a tg : Expr} {t : TAD} {te : TED} {p pos : Pos} (hg : Gl X "reversed") (hm : X.mg "reversed" = none) (ha : PE X a (lift X.K G W te)) (ht : t = fun σ h q r => te σ h (fun d h1 => q [d] h1) r) (hs : (!isStar a) = true) :
    PI X tg (.Call (.Name "reversed" p) [a] [] pos) (liftP X.K G W fun σ h q r => t σ h (fun ds h1 => itK .rev ds h1 q) r) := by
  subst ht
  refine ⟨fun pins s σ H R I ⟨a, h, q, r, rs, rh, ht, k, kx⟩ => (RT.pi_revA hg hm ha (by rw [star1 hs])).run pins s σ H R I ⟨a, h, _, r, rs, rh, ht, fun d h1 v H1 fx1 r1 rh1 hq1 => ?_, kx⟩⟩
  have hq1 : tlK d h1 fun xs g => q xs.reverse g h1 := hq1
  by_cases hd : ∃ xs, d = .tup xs
  · obtain ⟨xs, rfl⟩ := hd
    cases r1 with
    | tup t1 l1 q1 => exact ⟨_, _, rfl, .inr ⟨t1.sq, k _ _ _ _ _ fx1 rh1 (wk_revT q1.len t1 q1) (by rw [List.length_reverse]; exact l1) hq1⟩⟩
  · have hq1 : lsK d h1 fun xs g => q xs.reverse g h1 := by
      cases d with
      | tup xs => exact absurd ⟨xs, rfl⟩ hd
      | _ => exact hq1
    obtain ⟨xs, g, e, hq⟩ := lsK_of hq1
    obtain ⟨a1, rfl, o1, l1, n1⟩ := la_of r1 rh1 e
    obtain ⟨vs, s1, rr⟩ := l1.here rh1 o1
    exact ⟨a1, vs, rfl, .inl ⟨s1, k _ _ _ _ _ fx1 rh1 (wk_rev rr.len o1 l1) (by rw [List.length_reverse]; exact n1) hq⟩⟩
theorem i_zip2 {a b : Expr} {elts : List Expr} {kk : Nat} {tpos : Pos} {t : TAD} {p pos : Pos} (hg : Gl X "zip") (hm : X.mg "zip" = none) (ha : PA X [a, b] (liftA X.K G W t)) (hs : (!isStar a) = true) (hs' : (!isStar b) = true) :
    PI X (.Tuple elts kk tpos) (.Call (.Name "zip" p) [a, b] [] pos) (liftP X.K G W fun σ h q r => t σ h (fun ds h1 => itK .zip2 ds h1 q) r) := by
  refine ⟨fun pins s σ H R I ⟨a, h, q, r, rs, rh, ht, k, kx⟩ => (RZ.pi_zipA hg hm ha (by rw [star1 hs, star1 hs']) (by rw [star1 hs']; rfl)).run pins s σ H R I ⟨a, h, _, r, rs, rh, ht, fun ds h1 vs H1 fx1 rd1 rh1 hq1 => ?_, kx⟩⟩
  match ds, rd1, hq1 with
  | [d, e], rd1, hq1 =>
    obtain ⟨v, w, rfl, r1, r2⟩ := rds2 rd1
    rcases zip_cases (show zipK d e h1 q from hq1) with ⟨xs, ys, rfl, rfl, hq⟩ | ⟨xs, g, ys, g', e1, e2, hq⟩
    · cases r1 with
      | tup t1 l1 q1 => cases r2 with
        | tup t2 l2 q2 => exact ⟨_, _, _, _, rfl, .inr ⟨t1.sq, t2.sq, k _ _ _ _ _ fx1 rh1 (wk_zipT t1 q1 t2 q2) (by rw [zipL_len]; omega) hq⟩⟩
    · obtain ⟨a1, rfl, o1, l1, n1⟩ := la_of r1 rh1 e1
      obtain ⟨b1, rfl, o2, l2, n2⟩ := la_of r2 rh1 e2
      obtain ⟨vs, s1, _⟩ := l1.here rh1 o1
      obtain ⟨ws, s2, _⟩ := l2.here rh1 o2
      exact ⟨_, _, _, _, rfl, .inl ⟨s1, s2, k _ _ _ _ _ fx1 rh1 (wk_zip o1 o2 l1 l2) (by rw [zipL_len]; omega) hq⟩⟩
  | [], _, hq1 => exact hq1.elim
  | [_], _, hq1 => exact hq1.elim
  | _ :: _ :: _ :: _, _, hq1 => exact hq1.elim
/-! ### targets -/
theorem wipe_get (σ : L2.St) (k : Nat) : ∀ vs : List Nat, (wipe σ vs)[k]? = if k ∈ vs then (if k < σ.length then some none else none) else σ[k]?
  | [] => by simp [wipe]
  | i :: vs => by
    have ih := wipe_get σ k vs
    unfold wipe
    by_cases e : k = i
    · subst e
      rw [List.getElem?_set_self' , wipe_get σ k vs]
      simp only [List.mem_cons, true_or, if_true]
      by_cases hk : k ∈ vs
      · rw [if_pos hk]; split <;> rfl
      · rw [if_neg hk]
        by_cases hl : k < σ.length
        · rw [List.getElem?_eq_getElem hl, if_pos hl]; rfl
        · rw [List.getElem?_eq_none (by omega), if_neg hl]; rfl
    · rw [List.getElem?_set_ne (Ne.symm e), ih]
      simp only [List.mem_cons, e, false_or]
theorem wipe_set {σ : L2.St} {i : Nat} {v : Option V} {vs : List Nat} (h : i ∈ vs) : wipe (σ.set i v) vs = wipe σ vs := by
  refine List.ext_getElem? fun k => ?_
  rw [wipe_get, wipe_get, List.length_set]
  by_cases hk : k ∈ vs
  · rw [if_pos hk, if_pos hk]
  · have ne : i ≠ k := fun z => by subst z; exact hk h
    rw [if_neg hk, if_neg hk, List.getElem?_set_ne ne]
structure TgOk (X : Cx) (G : Nat → Addr) (tg : Tg) (e : Expr) (g : TG) : Prop where
  pg : PG X e g
  run : ∀ d v a σ H h (k : Sl → Prop) (Q : L2.St → Hp → Prop), RD X.K G H d v → RS X.K G H a σ → RH X.K G H h → tgS tg d h a k →
    (∀ a' σ', RS X.K G H a' σ' → (∀ vs : List Nat, (∀ i ∈ tgSlots tg, i ∈ vs) → wipe σ' vs = wipe σ vs) → k a' → Q σ' H) → g v σ H Q
def gNames : List Nat → TGs
  | [] => gNil
  | i :: l => gCons (gName i) (gNames l)
theorem go_ok (co : Co X G W C c sc n) : ∀ {l : List Nat} {es : List Expr}, chkTg.go c sc l es = true → PGs X es (gNames l) ∧ (assignEach es X.env).length = l.length ∧ (assignEach es X.env).findIdx? (·.1) = none
  | [], [], _ => ⟨pgs_nil, rfl, rfl⟩
  | [], _ :: _, h => by cases h
  | i :: l, [], h => by cases h
  | i :: l, e :: es, h => by
    cases e with
    | Name x p =>
      have h' := Bool.and_eq_true_iff.mp (show ((decide (c.N[i]? = some x) && locB sc x) && chkTg.go c sc l es) = true from h)
      obtain ⟨h1, h2⟩ := Bool.and_eq_true_iff.mp h'.1
      obtain ⟨g1, g2, g3⟩ := go_ok co h'.2
      obtain ⟨l1, l2⟩ := loc_ok co.env h2
      refine ⟨pgs_cons (pg_name co.nd (by rw [co.hN]; exact of_decide_eq_true h1) l1 l2) g1, ?_, ?_⟩
      · show (assignEach es X.env).length + 1 = l.length + 1
        rw [g2]
      · show List.findIdx? (·.1) ((false, assign (.Name x p) X.env) :: assignEach es X.env) = none
        rw [List.findIdx?_cons, g3]; rfl
    | _ => cases h
theorem names_run {K : PySem.W.Frag} {H : Hp} {k : Sl → Prop} {Q : L2.St → Hp → Prop} : ∀ {l : List Nat} {ds : List D} {vs : List V} {a : Sl} {σ : L2.St}, RDs K G H ds vs → RS K G H a σ → ds.length = l.length →
    k ((l.zip ds).foldl (fun z p => z.set p.1 (some p.2)) a) → (∀ a' σ', RS K G H a' σ' → (∀ vs : List Nat, (∀ i ∈ l, i ∈ vs) → wipe σ' vs = wipe σ vs) → k a' → Q σ' H) → gNames l vs σ H Q
  | [], [], _, a, σ, .nil, rs, _, hk, q => ⟨rfl, q a σ rs (fun _ _ => rfl) hk⟩
  | [], _ :: _, _, _, _, _, _, e, _, _ => by cases e
  | _ :: _, [], _, _, _, _, _, e, _, _ => by cases e
  | i :: l, d :: ds, _, a, σ, .cons h t, rs, e, hk, q =>
    ⟨_, _, rfl, names_run t (rs.set i h) (by simpa using e) hk fun a' σ' r1 w1 k1 => q a' σ' r1 (fun vs hv => by
      rw [w1 vs fun j hj => hv j (List.mem_cons_of_mem _ hj), wipe_set (hv i List.mem_cons_self)]) k1⟩
/-- the same target in a comprehension's block -/
def tgG (K : PySem.W.Frag) : Tg → TG
  | .nm i => gName i
  | .tp l => gTup K l.length (gNames l)
  | .ul l => gUnl K l.length (gNames l)
theorem tgG_run {K : PySem.W.Frag} (tg : Tg) (d : D) (v : V) (a : Sl) (σ : L2.St) (H : Hp) (h : HD) (k : Sl → Prop) (Q : L2.St → Hp → Prop) (r : RD K G H d v) (rs : RS K G H a σ) (rh : RH K G H h) (t : tgS tg d h a k)
    (q : ∀ a' σ', RS K G H a' σ' → (∀ vs : List Nat, (∀ i ∈ tgSlots tg, i ∈ vs) → wipe σ' vs = wipe σ vs) → k a' → Q σ' H) : tgG K tg v σ H Q := by
  cases tg with
  | nm i => exact q _ _ (rs.set i r) (fun vs hv => wipe_set (hv i List.mem_cons_self)) t
  | tp l =>
    cases r with
    | tup ta z rr =>
      have t : _ ∧ _ := t
      exact ⟨_, _, rfl, ta.sq, by rw [← rr.len]; exact t.1, names_run rr rs t.1 t.2 q⟩
    | _ => exact False.elim t
  | ul l =>
    have t : ulK d h fun xs => xs.length = l.length ∧ k ((l.zip xs).foldl (fun z p => z.set p.1 (some p.2)) a) := t
    cases r with
    | kls t0 l0 rr => exact ⟨_, _, rfl, t0.sq, by rw [← rr.len]; exact t.1, names_run rr rs t.1 t.2 q⟩
    | ref p =>
      unfold ulK at t
      dsimp only at t
      split at t
      · rename_i xs e
        obtain ⟨vs, g1, _, g3⟩ := rh p _ e
        exact ⟨_, _, rfl, .inl (.inl g1), by rw [← g3.len]; exact t.1, names_run g3 rs t.1 t.2 q⟩
      · exact t.elim
    | _ => exact False.elim t
theorem tg_okG (co : Co X G W C c sc n) {tg : Tg} {e : Expr} (h : chkTg c sc tg e = true) : TgOk X G tg e (tgG X.K tg) := by
  cases tg with
  | nm i =>
    cases e with
    | Name x p =>
      obtain ⟨h1, h2⟩ := Bool.and_eq_true_iff.mp (show (decide (c.N[i]? = some x) && locB sc x) = true from h)
      obtain ⟨l1, l2⟩ := loc_ok co.env h2
      exact ⟨pg_name co.nd (by rw [co.hN]; exact of_decide_eq_true h1) l1 l2, fun d v a σ H h k Q r rs rh t q => q _ _ (rs.set i r) (fun vs hv => wipe_set (hv i List.mem_cons_self)) t⟩
    | _ => cases h
  | tp l =>
    cases e with
    | Tuple es k0 p =>
      obtain ⟨g1, g2, g3⟩ := go_ok co (show chkTg.go c sc l es = true from h)
      refine ⟨pg_tup co.calm g1 g2 g3, fun d v a σ H h k Q r rs rh t q => ?_⟩
      cases r with
      | tup ta z rr =>
        have t : _ ∧ _ := t
        exact ⟨_, _, rfl, ta.sq, by rw [← rr.len]; exact t.1, names_run rr rs t.1 t.2 q⟩
      | _ => exact False.elim t
    | _ => cases h
  | ul l =>
    cases e with
    | Tuple es k0 p =>
      obtain ⟨g1, g2, g3⟩ := go_ok co (show chkTg.go c sc l es = true from h)
      refine ⟨pg_unl co.calm g1 g2 g3, fun d v a σ H h k Q r rs rh t q => tgG_run (.ul l) d v a σ H h k Q r rs rh t q⟩
    | _ => cases h
theorem tg_ok (co : Co X G W C c sc n) {tg : Tg} {e : Expr} (h : chkTg c sc tg e = true) : ∃ g, TgOk X G tg e g := ⟨_, tg_okG co h⟩
/-! ### a comprehension's block -/
abbrev WF : WX := fun _ _ _ _ => False
theorem look_free {env : Env} {x : Str} : ∀ {names : List (Str × NameKind)}, names.lookup x = some .free →
    (names.map fun (n, k) => if (k == NameKind.free && env.scope.kind == .function && env.kindOf n == some .cell) then (n, NameKind.cell) else (n, k)).lookup x = some .free ∨
    (names.map fun (n, k) => if (k == NameKind.free && env.scope.kind == .function && env.kindOf n == some .cell) then (n, NameKind.cell) else (n, k)).lookup x = some .cell
  | [], h => by simp at h
  | (m, k0) :: r, h => by
    have ih := @look_free env x r
    simp only [List.map_cons]
    cases hx : x == m with
    | true =>
      simp only [List.lookup_cons, hx] at h
      cases h
      by_cases hc : (NameKind.free == NameKind.free && env.scope.kind == .function && env.kindOf m == some .cell) = true
      · rw [if_pos hc]; exact .inr (by simp only [List.lookup_cons, hx])
      · rw [if_neg hc]; exact .inl (by simp only [List.lookup_cons, hx])
    | false =>
      simp only [List.lookup_cons, hx] at h
      by_cases hc : (k0 == NameKind.free && env.scope.kind == .function && env.kindOf m == some .cell) = true
      · rw [if_pos hc]; simp only [List.lookup_cons, hx]; exact ih h
      · rw [if_neg hc]; simp only [List.lookup_cons, hx]; exact ih h
theorem look_keep {env : Env} {x : Str} {k : NameKind} (hk : k ≠ .free) : ∀ {names : List (Str × NameKind)}, names.lookup x = some k →
    (names.map fun (n, k) => if (k == NameKind.free && env.scope.kind == .function && env.kindOf n == some .cell) then (n, NameKind.cell) else (n, k)).lookup x = some k
  | [], h => by simp at h
  | (m, k0) :: r, h => by
    have ih := @look_keep env x k hk r
    simp only [List.map_cons]
    cases hx : x == m with
    | true =>
      simp only [List.lookup_cons, hx] at h
      cases h
      have : ¬ (k == NameKind.free && env.scope.kind == .function && env.kindOf m == some .cell) = true := by simp [hk]
      rw [if_neg this]; simp only [List.lookup_cons, hx]
    | false =>
      simp only [List.lookup_cons, hx] at h
      by_cases hc : (k0 == NameKind.free && env.scope.kind == .function && env.kindOf m == some .cell) = true
      · rw [if_pos hc]; simp only [List.lookup_cons, hx]; exact ih h
      · rw [if_neg hc]; simp only [List.lookup_cons, hx]; exact ih h
theorem co_blk (co : Co X G W C c sc n) (scope : Scope) (s : Shared) (H : Hp) (Ca' : Addr) (cl : List (Str × Addr)) (fp : List Addr) : Co (X.blk s H scope (compEnvC scope cl Ca' X.env) fp) G WF C c scope n where
  hN := co.hN
  nd := co.nd
  env := by
    refine ⟨fun x h => look_keep (env := X.env) (by decide) h, fun x h => ⟨look_keep (env := X.env) (by decide) h, ?_⟩, fun x h => look_free (env := X.env) h, fun x h => look_keep (env := X.env) (by decide) h⟩
    show (scope.names.lookup x == some .cell) = true
    rw [h]; rfl
  calm := co.calm
  room := co.room
  gd := co.gd
  tk := fun u s' ⟨_, _, _, _, _, _, _, _, _, _, _, _, _, _, _, _, w⟩ => w
  gf := ⟨co.gf.blt, co.gf.consts, fun x f h => let ⟨a, b⟩ := co.gf.fns x f h; ⟨a, b.ok, b.kp⟩, fun x g h => let ⟨a, b⟩ := co.gf.cls x g h; ⟨a, b.ex, b.kp, b.sub, b.ty⟩, co.gf.exm, fun g h => ⟨(co.gf.fv g h).ok, (co.gf.fv g h).kp⟩⟩
/-! ### comprehensions -/
theorem contX_no {K : PySem.W.Frag} {σ : L2.St} {H : Hp} {h : HD} : ContX K G WF σ H h fun _ _ => False := fun _ _ _ _ _ z => z
theorem wipe_rs {K : PySem.W.Frag} {H : Hp} {a : Sl} {σ : L2.St} (r : RS K G H a σ) (own : List Nat) : RS K G H (wipeD a own) (wipe σ own) := by
  obtain ⟨c, h1, h2⟩ := r.wipe own
  unfold wipeD; rw [← h2]; exact h1
theorem comp_core {ti : TID} {tg : Tg} {own : List Nat} {t : TTD} {e : TED} {g : TG} {K : PySem.W.Frag} {σ : L2.St} {H : Hp} {a : Sl} {h : HD} {r : XQ} {qL : List D → HD → Prop} {Q : VK}
    (hg : ∀ d v a σ H h (k : Sl → Prop) (Q : L2.St → Hp → Prop), RD K G H d v → RS K G H a σ → RH K G H h → tgS tg d h a k → (∀ a' σ', RS K G H a' σ' → (∀ vs : List Nat, (∀ i ∈ tgSlots tg, i ∈ vs) → wipe σ' vs = wipe σ vs) → k a' → Q σ' H) → g v σ H Q)
    (ho : ∀ i ∈ tgSlots tg, i ∈ own) (rs : RS K G H a σ) (rh : RH K G H h) (ht : ti a h (fun xs gd h1 => cmpR tg own t e a gd xs [] h1 qL) r) (kx : ContX K G W σ H h r)
    (fin : ∀ xs h2 H2 p vs, Fx H h H2 h2 → RH K G H2 h2 → H p = none → H2 p = some (.lst vs) → h2 p = none → RDs K G H2 xs vs → xs.length ≤ sizeLine → qL xs h2 → Q (.ref p) H2) :
    tLc (liftP K G W ti) g (liftT K G WF t) (lift K G WF e) own σ H Q := by
  refine ⟨a, h, _, r, rs, rh, ht, fun xs gd h1 J H1 fx1 rh1 wk wl hq p np => ?_, kx⟩
  have hp : H p = none := by
    cases q : H p with
    | none => rfl
    | some o => exact absurd np (fx1.dm p (by rw [q]; exact fun z => nomatch z))
  have s1 : Fx H1 h1 (upd H1 p (.lst [])) h1 := Fx.new np
  refine ⟨fun i m H' => m = xs.length - i ∧ i ≤ xs.length ∧ ∃ h' acc accV, RH K G H' h' ∧ Fx H1 h1 H' h' ∧ gdsOk h' gd ∧ H' p = some (.lst accV) ∧ h' p = none ∧ RDs K G H' acc accV ∧ acc.length ≤ i ∧ cmpR tg own t e a gd (xs.drop i) acc h' qL,
    ⟨xs.length, by simp, Nat.zero_le _, h1, [], [], rh1.hid np, s1, wk.ok, upd_same, rh1.none_of np, .nil, Nat.zero_le _, hq⟩, fun i m H' ⟨em, hi, h', acc, accV, rh', fx', gd', e1, e2, r1, l1, hc⟩ => ?_⟩
  by_cases hlt : i < xs.length
  · refine .inr ⟨(wk.go i H' h' hlt rh' fx' gd').1, fun H2 => ∃ m', m' < m ∧ (m' = xs.length - (i + 1) ∧ i + 1 ≤ xs.length ∧ ∃ h' acc accV, RH K G H2 h' ∧ Fx H1 h1 H2 h' ∧ gdsOk h' gd ∧ H2 p = some (.lst accV) ∧ h' p = none ∧ RDs K G H2 acc accV ∧ acc.length ≤ i + 1 ∧ cmpR tg own t e a gd (xs.drop (i + 1)) acc h' qL),
      fun H2 hN => hN, fun x H2 hy => ?_⟩
    obtain ⟨d, ed, rd, rh2, fx2⟩ := (wk.go i H' h' hlt rh' fx' gd').2 x H2 hy
    have ex : xs.drop i = d :: xs.drop (i + 1) := by
      rw [List.drop_eq_getElem_cons hlt]
      rw [List.getElem?_eq_getElem hlt] at ed
      cases ed; rfl
    rw [ex] at hc
    have ext2 : Ext H H2 := (fx1.trans (fx'.trans fx2)).ext
    have ep2 : H2 p = some (.lst accV) := fx2.st p _ e1 (.inl e2)
    refine hg d x (wipeD a own) (wipe σ own) H2 _ _ _ rd (wipe_rs (rs.ext ext2) own) rh2 hc fun a' σ' rs' hw hc2 => ⟨?_, ?_⟩
    · rw [hw own ho]
      refine List.ext_getElem? fun k => ?_
      rw [wipe_get, wipe_get]
      by_cases hk : k ∈ own
      · rw [if_pos hk, if_pos hk]
        have : (wipe σ own).length = σ.length := wipe_length _ _
        rw [this]
      · rw [if_neg hk, if_neg hk]
    · refine ⟨a', h', _, _, rs', rh2, hc2, fun b h3 H3 fx3 rh3 hb => ?_, contX_no⟩
      have f3 := fx'.trans (fx2.trans fx3)
      have ep3 : H3 p = some (.lst accV) := fx3.st p _ ep2 (.inl e2)
      have n3 : h3 p = none := fx3.nw p (by rw [ep2]; exact fun z => nomatch z) e2
      cases b with
      | false =>
        obtain ⟨g3, hc3⟩ := (show gdsOk h3 gd ∧ cmpR tg own t e a gd (xs.drop (i + 1)) acc h3 qL from hb)
        exact ⟨xs.length - (i + 1), by omega, rfl, hlt, h3, acc, accV, rh3, f3, g3, ep3, n3, r1.ext (fx2.trans fx3).ext, by omega, hc3⟩
      | true =>
        refine ⟨a', h3, _, _, rs'.ext fx3.ext, rh3, hb, fun y h4 v4 H4 fx4 rd4 rh4 ⟨g4, hc4⟩ => ?_, contX_no⟩
        have f4 := f3.trans fx4
        have ep4 : H4 p = some (.lst accV) := fx4.st p _ ep3 (.inl n3)
        have n4 : h4 p = none := fx4.nw p (by rw [ep3]; exact fun z => nomatch z) n3
        have r4 := r1.ext (fx2.trans (fx3.trans fx4)).ext
        have el := r4.len
        refine ⟨accV, ep4, by omega, xs.length - (i + 1), by omega, rfl, hlt, h4, acc ++ [y], accV ++ [v4], rh4.hidw ep4 (fun z => z) n4, f4.hidw np, g4, upd_same, n4, (r4.snoc rd4).ext (Ext.wr ep4 (fun z => z)), ?_, hc4⟩
        rw [List.length_append]; exact Nat.succ_le_succ l1
  · have e : i = xs.length := by omega
    subst e
    rw [List.drop_length] at hc
    exact .inl ⟨wk.stop _ H' h' (Nat.le_refl _) rh' fx' gd', fin acc h' H' p accV (fx1.trans fx') rh' hp e1 e2 r1 (Nat.le_trans l1 wl) hc⟩
end
end Nd
/-! Ne4: two names at once. -/
namespace Nd
open PySem PySem.Spec PyProof.Rows L2
theorem sw_par {env : Env} {sc : Scope} {x y : Str} {px py pt pt2 : Pos} {kt k2 : Nat} {a b : Expr} (hk : env.blockKind = .function) (hx : env.kindOf x = some .local) (hy : env.kindOf y = some .local) (h : parOk sc x y px py a b = true) :
    swappedStores [.Tuple [.Name x px, .Name y py] kt pt] (.Tuple [a, b] k2 pt2) env = pure (some [x, y]) := by
  unfold parOk at h
  simp only [Bool.and_eq_true, Bool.not_eq_true', decide_eq_true_eq, beq_iff_eq] at h
  obtain ⟨⟨⟨⟨⟨⟨⟨h1, h2⟩, h3⟩, h4⟩, h5⟩, h6⟩, h7⟩, h8⟩ := h
  have s1 : ∀ e : Expr, isStar e = false → (match e with | .Starred .. => true | _ => false) = false := fun e he => by cases e <;> first | rfl | cases he
  unfold swappedStores
  simp [hk, hx, hy, h3, s1 a h5, s1 b h6, h7, h8]
  rw [if_neg ?_]
  · have e : (x == y) = false := beq_eq_false_iff_ne.mpr h4
    have e2 : (y == x) = false := beq_eq_false_iff_ne.mpr (Ne.symm h4)
    simp [List.filterMap_cons, hx, hy, h3, Expr.pos, List.eraseDups_cons, e, e2, h4, Ne.symm h4]
  · rintro (z | z)
    · cases a <;> first | exact Bool.noConfusion h5 | exact Bool.noConfusion z
    · cases b <;> first | exact Bool.noConfusion h6 | exact Bool.noConfusion z
theorem fm_lt {α β : Type} {f : α → Option β} : ∀ {l : List α}, (∃ x ∈ l, f x = none) → (l.filterMap f).length < l.length
  | [], ⟨_, z, _⟩ => by cases z
  | a :: l, ⟨x, hx, e⟩ => by
    have le := List.length_filterMap_le f l
    cases z : f a with
    | none =>
      rw [List.filterMap_cons_none z, List.length_cons]
      omega
    | some b =>
      rw [List.filterMap_cons_some z, List.length_cons, List.length_cons]
      rcases List.mem_cons.mp hx with q | q
      · rw [q, z] at e; cases e
      · have := fm_lt ⟨x, q, e⟩
        omega
theorem sw_cell {env : Env} {es : List Expr} {k : Nat} {q : Pos} {x : Expr} (h : ∃ y p, Expr.Name y p ∈ es ∧ env.kindOf y = some .cell) : swappedStores [.Tuple es k q] x env = pure none := by
  obtain ⟨y, p, hy, hk⟩ := h
  unfold swappedStores
  cases x <;> try rfl
  dsimp only
  split
  · rfl
  split
  · rfl
  rw [if_pos (Bool.or_eq_true_iff.mpr (.inl (bne_iff_ne.mpr (Nat.ne_of_lt (fm_lt ⟨_, hy, by simp [hk]⟩)))))]
end Nd
/-! Nd11: comprehensions and calls as expressions; statements. -/
namespace Nd
open PySem PySem.Spec PyProof.Rows L2
section
variable {X : Cx} {G : Nat → Addr} {W : WX} {C : Ca} {c : Cf} {sc : Scope} {n : Nat}
theorem noSet {e : Expr} (h : (!isSet e) = true) (env : Env) (x : Value) : foldedSetIterable e env x = pure x := by
  cases e <;> first | rfl | cases h
theorem own_snd (c : Cf) (own : List Nat) : (ownOf c own).map (·.2) = own := by
  unfold ownOf
  rw [List.map_map]
  exact List.map_id' _
theorem blk_ok (co : Co X G W C c sc n) {scope : Scope} {own : List (Str × Nat)} (h : blkC c.N sc scope own = true) : BlkOk X.N X.env.scope scope own := by
  have b := blkOk_by h
  rw [co.hN]
  refine ⟨b.kind, b.uniq, b.ix, fun y hy e => ?_, b.own⟩
  rcases b.free y hy e with z | z
  · exact .inl (co.env.cell _ z).1
  · rcases co.env.free _ z with q | q
    · exact .inr q
    · exact .inl q
theorem fx_tell {H H2 : Hp} {h h2 : HD} {p : Addr} {m : MO} (f : Fx H h H2 h2) (e : H p = none) : Fx H h H2 (hup h2 p m) where
  st := f.st
  nw := fun a z q => by
    have ne : a ≠ p := fun w => by subst w; exact z e
    rw [hup_ne ne]; exact f.nw a z q
  dm := f.dm
theorem rh_tell {K : PySem.W.Frag} {H : Hp} {h : HD} {p : Addr} {m : MO} (r : RH K G H h) (q : RM K G H p m) : RH K G H (hup h p m) := fun a m' z => by
  by_cases ap : a = p
  · subst ap; rw [hup_same] at z; cases z; exact q
  · rw [hup_ne ap] at z; exact r a m' z
section
variable {ti : TID} {tg : Tg} {own : List Nat} {t : TTD} {e : TED} {tx it x : Expr} {l : List Expr} {scope : Scope} {pos : Pos}
theorem comp_v (co : Co X G W C c sc n) (ho : ∀ i ∈ tgSlots tg, i ∈ own) (ht : TgOk X G tg tx (tgG X.K tg) ∨ True) (hg : ∀ d v a σ H h (k : Sl → Prop) (Q : L2.St → Hp → Prop), RD X.K G H d v → RS X.K G H a σ → RH X.K G H h → tgS tg d h a k → (∀ a' σ', RS X.K G H a' σ' → (∀ vs : List Nat, (∀ i ∈ tgSlots tg, i ∈ vs) → wipe σ' vs = wipe σ vs) → k a' → Q σ' H) → tgG X.K tg v σ H Q)
    {σ : L2.St} {H : Hp} {Q : VK} (h : lift X.K G W (cmpD tg own ti t e).v σ H Q) : tLc (liftP X.K G W ti) (tgG X.K tg) (liftT X.K G WF t) (lift X.K G WF e) ((ownOf c own).map (·.2)) σ H Q := by
  obtain ⟨a, h, q, r, rs, rh, hd, k, kx⟩ := h
  rw [own_snd]
  refine comp_core hg ho rs rh hd kx fun xs h2 H2 p vs fx2 rh2 hp ep n2 r l hq => ?_
  exact k (.ref p) _ (.ref p) H2 (fx_tell fx2 hp) (.ref p) (rh_tell (m := .lst xs) rh2 ⟨vs, ep, l, r⟩) (hq p n2)
theorem comp_i (co : Co X G W C c sc n) (ho : ∀ i ∈ tgSlots tg, i ∈ own) (hg : ∀ d v a σ H h (k : Sl → Prop) (Q : L2.St → Hp → Prop), RD X.K G H d v → RS X.K G H a σ → RH X.K G H h → tgS tg d h a k → (∀ a' σ', RS X.K G H a' σ' → (∀ vs : List Nat, (∀ i ∈ tgSlots tg, i ∈ vs) → wipe σ' vs = wipe σ vs) → k a' → Q σ' H) → tgG X.K tg v σ H Q)
    {σ : L2.St} {H : Hp} {Q : VK} (h : liftI X.K G W (cmpD tg own ti t e).i σ H Q) : tLc (liftP X.K G W ti) (tgG X.K tg) (liftT X.K G WF t) (lift X.K G WF e) ((ownOf c own).map (·.2)) σ H Q := by
  obtain ⟨a, h, q, r, rs, rh, hd, k, kx⟩ := h
  rw [own_snd]
  exact comp_core hg ho rs rh hd kx fun xs h2 H2 p vs fx2 rh2 hp ep n2 r l hq => k xs .hid h2 (.ref p) H2 fx2 (.hid ep n2 r l) rh2 hq
end
/-- what a comprehension's parts are, each in the block -/
structure CompOk (X : Cx) (G : Nat → Addr) (W : WX) (c : Cf) (ti : TID) (tg : Tg) (own : List Nat) (t : TTD) (e : TED) (tx it x : Expr) (l : List Expr) (scope : Scope) : Prop where
  pi : PI X tx it (liftP X.K G W ti)
  bk : BlkOk X.N X.env.scope scope (ownOf c own)
  ho : ∀ i ∈ tgSlots tg, i ∈ own
  hg : ∀ d v a σ H h (k : Sl → Prop) (Q : L2.St → Hp → Prop), RD X.K G H d v → RS X.K G H a σ → RH X.K G H h → tgS tg d h a k → (∀ a' σ', RS X.K G H a' σ' → (∀ vs : List Nat, (∀ i ∈ tgSlots tg, i ∈ vs) → wipe σ' vs = wipe σ vs) → k a' → Q σ' H) → tgG X.K tg v σ H Q
  pg : ∀ (s : Shared) (H : Hp) (C' : Addr) (cl : List (Str × Addr)) (fp : List Addr), PG (X.blk s H scope (compEnvC scope cl C' X.env) fp) tx (tgG X.K tg)
  pt : ∀ (s : Shared) (H : Hp) (C' : Addr) (cl : List (Str × Addr)) (fp : List Addr), PTs (X.blk s H scope (compEnvC scope cl C' X.env) fp) l (liftT X.K G WF t)
  pe : ∀ (s : Shared) (H : Hp) (C' : Addr) (cl : List (Str × Addr)) (fp : List Addr), PE (X.blk s H scope (compEnvC scope cl C' X.env) fp) x (lift X.K G WF e)
  hs : (!isSet it) = true
theorem snd_comp (co : Co X G W C c sc n) {ti : TID} {tg : Tg} {own : List Nat} {t : TTD} {e : TED} {tx it x : Expr} {l : List Expr} {scope : Scope} {pos : Pos} (k : CompOk X G W c ti tg own t e tx it x l scope) :
    Snd X G W (cmpD tg own ti t e) (.ListComp x [⟨tx, it, l, 0⟩] scope pos) := by
  have base := pe_lc (own := ownOf c own) (pos := pos) co.calm co.nd k.pi k.bk k.pg k.pt k.pe (noSet k.hs X.env)
  have hv : PE X (.ListComp x [⟨tx, it, l, 0⟩] scope pos) (lift X.K G W (cmpD tg own ti t e).v) := PE.imp base fun σ H Q h => comp_v co k.ho (.inr trivial) (tx := tx) k.hg h
  exact ⟨hv, snd_t hv rfl, PE.imp base fun σ H Q h => comp_i co k.ho k.hg h⟩
/-! ### calls -/
theorem p_call (co : Co X G W C c sc n) {x : Str} {f : Nat} {e : Expr} {l : List Expr} {t : TAD} {p pos : Pos} (h1 : gloB sc x = true) (h2 : (!odd x) = true) (h3 : c.fns.lookup x = some f) (ha : PA X (e :: l) (liftA X.K G W t)) (hns : noStar (e :: l) = true) :
    PE X (.Call (.Name x p) (e :: l) [] pos) (lift X.K G W fun σ h q r => t σ h (fun ds h1 => C.call f ds h1 q r) r) := by
  obtain ⟨m, ⟨fd, ps, F, B⟩, kp⟩ := co.gf.fns x f h3
  have h' := Bool.and_eq_true_iff.mp (show ((!isStar e) && noStar l) = true from hns)
  exact PE.imp (pe_callG F co.gd co.room (glo_ok co.env h1) m kp B (fun σ => passAt co.tk σ) ha (odd_no h2).1 (star1 h'.1 l _) (starBack _ _ h'.2)) fun σ H Q ⟨a, h, q, r, rs, rh, ht, k, kx⟩ =>
    ⟨a, h, _, r, rs, rh, ht, fun ds h1 vs H1 fx1 rd1 rh1 hq1 => ⟨ds, h1, q, r, rd1, rh1, hq1, k.ext fx1, fun c' h2 H2 fx2 rh2 hr => kx.ext fx1 c' h2 H2 fx2 rh2 hr⟩, kx⟩
theorem p_call0 (co : Co X G W C c sc n) {x : Str} {f : Nat} {p pos : Pos} (h1 : gloB sc x = true) (h2 : (!odd x) = true) (h3 : c.fns.lookup x = some f) :
    PE X (.Call (.Name x p) [] [] pos) (lift X.K G W fun _ h q r => C.call f [] h q r) := by
  obtain ⟨m, ⟨fd, ps, F, B⟩, kp⟩ := co.gf.fns x f h3
  refine ⟨fun pins s σ H Q I ⟨a, h, q, r, rs, rh, ht, k, kx⟩ => ?_⟩
  refine wpAny_Call_Name_kw (ld_glob I (glo_ok co.env h1) m ?_ (odd_no h2).1)
  exact PySem.W.callWith_K0 I.kIn kp (run_fnG (us := []) F co.gd co.room B (passAt co.tk σ) I .nil ⟨[], h, q, r, .nil, rh, ht, k, fun c' h2 H2 fx2 rh2 hr => kx c' h2 H2 fx2 rh2 hr⟩)
/-- a def by its value -/
theorem p_callv (co : Co X G W C c sc n) {i : Nat} {x : Str} {e : Expr} {l : List Expr} {t : TAD} {p pos : Pos} (h1 : c.N[i]? = some x) (h2 : visB sc x = true) (h3 : (!odd x) = true) (ha : PA X (e :: l) (liftA X.K G W t)) (hns : noStar (e :: l) = true) :
    PE X (.Call (.Name x p) (e :: l) [] pos) (lift X.K G W fun σ h q r => callK C ((σ[i]?).join) fun g => t σ h (fun ds h1 => C.call g ds h1 q r) r) := by
  have h' := Bool.and_eq_true_iff.mp (show ((!isStar e) && noStar l) = true from hns)
  refine ⟨fun pins s σ H Q I ⟨a, h, q, r, rs, rh, ht, k, kx⟩ => ?_⟩
  have ht : callK C ((a[i]?).join) fun g => t a h (fun ds h1 => C.call g ds h1 q r) r := ht
  unfold callK at ht
  split at ht
  · rename_i g e0
    obtain ⟨hv, ht⟩ := ht
    obtain ⟨⟨fd, ps, F, B⟩, kp⟩ := co.gf.fv g hv
    have e1 : a[i]? = some (some (.glo g)) := by
      cases z : a[i]? with
      | none => rw [z] at e0; cases e0
      | some o => rw [z] at e0; exact congrArg some e0
    obtain ⟨v, e2, rv⟩ := rs.get e1
    cases rv
    refine wpAny_Call_Name_kw (thn ((pe_var (pos := p) (by rw [co.hN]; exact h1) (vis_ok co.env h2) (odd_no h3).1 (odd_no h3).2.1).run pins s σ H (fun v H1 => v = .ref (G g) ∧ H1 = H) I ⟨_, e2, rfl, rfl⟩) fun u s1 ⟨v, H1, I1, r1, q1⟩ => ?_)
    obtain ⟨rfl, rfl⟩ := q1
    obtain rfl : u = Value.ref (G g) := r1
    refine PySem.W.callWith_K (h₀ := X.base) I.ok.mod.kin kp (thn (ha.run pos pins s1 σ _ (fun vs H2 => spOf X.K G (C.call g) vs H2 Q fun cls d H3 => W cls d σ H3) I1 ⟨a, h, _, r, rs, rh, ht, fun ds h1 vs H1 fx1 rd1 rh1 hq1 =>
      ⟨ds, h1, q, r, rd1, rh1, hq1, k.ext fx1, fun c' h2 H2 fx2 rh2 hr => kx.ext fx1 c' h2 H2 fx2 rh2 hr⟩, kx⟩) fun us s2 ⟨vs, H2, I2, r2, q2⟩ => ⟨I2.kIn, run_fnG F co.gd co.room B (passAt co.tk σ) I2 r2 q2⟩) (star1 h'.1 l _) (starBack _ _ h'.2)
  · exact ht.elim
/-! ### statements -/
structure EnK (K : PySem.W.Frag) (G : Nat → Addr) (W : WX) (H : Hp) (h : HD) (Z : En) (D : Ends) : Prop where
  nx : ∀ a' h' σ' H', Fx H h H' h' → RS K G H' a' σ' → RH K G H' h' → Z.nx a' h' → D.nx σ' H'
  rt : ∀ d h' v H', Fx H h H' h' → RD K G H' d v → RH K G H' h' → Z.rt d h' → D.rt v H'
  bk : ∀ a' h' σ' H', Fx H h H' h' → RS K G H' a' σ' → RH K G H' h' → Z.bk a' h' → D.bk σ' H'
  ct : ∀ a' h' σ' H', Fx H h H' h' → RS K G H' a' σ' → RH K G H' h' → Z.ct a' h' → D.ct σ' H'
  ex : ∀ c a' h' σ' H', Fx H h H' h' → RS K G H' a' σ' → RH K G H' h' → Z.ex c a' h' → W (.ref (G c)) none σ' H'
def liftS (K : PySem.W.Frag) (G : Nat → Addr) (W : WX) (t : TSD) : TS := fun D σ H => ∃ a h Z, RS K G H a σ ∧ RH K G H h ∧ t Z a h ∧ EnK K G W H h Z D
theorem EnK.ext {K : PySem.W.Frag} {H H1 : Hp} {h h1 : HD} {Z : En} {D : Ends} (k : EnK K G W H h Z D) (f : Fx H h H1 h1) : EnK K G W H1 h1 Z D :=
  ⟨fun a h' σ H' fx => k.nx a h' σ H' (f.trans fx), fun a h' σ H' fx => k.rt a h' σ H' (f.trans fx), fun a h' σ H' fx => k.bk a h' σ H' (f.trans fx), fun a h' σ H' fx => k.ct a h' σ H' (f.trans fx), fun c a h' σ H' fx => k.ex c a h' σ H' (f.trans fx)⟩
theorem EnK.cx {K : PySem.W.Frag} {H : Hp} {h : HD} {Z : En} {D : Ends} {a : Sl} {σ : L2.St} (k : EnK K G W H h Z D) (rs : RS K G H a σ) : ContX K G W σ H h fun x h' => Z.ex x a h' := fun c h' H' fx rh hr => k.ex c a h' σ H' fx (rs.ext fx.ext) rh hr
theorem PS.imp {st : Stmt} {t t' : TS} (h : PS X st t) (i : ∀ D σ H, t' D σ H → t D σ H) : PS X st t' := ⟨fun p s σ H D I q => h.run p s σ H D I (i D σ H q)⟩
theorem PSs.imp {st : List Stmt} {t t' : TS} (h : PSs X st t) (i : ∀ D σ H, t' D σ H → t D σ H) : PSs X st t' := ⟨fun p s σ H D I q => h.run p s σ H D I (i D σ H q)⟩
theorem noSw {e : Expr} (h : (!isComp e) = true) (t : Option Expr) (l : Nat) (env : Env) : swapsWith e t l env = pure false := by
  cases e <;> first | rfl | cases h
variable {pos : Pos}
theorem s_pass : PS X (.Pass pos) (liftS X.K G W fun D σ h => D.nx σ h) := PS.imp ps_pass fun D σ H ⟨a, h, Z, rs, rh, ht, k⟩ => k.nx a h σ H Fx.refl rs rh ht
theorem s_brk : PS X (.Break pos) (liftS X.K G W fun D σ h => D.bk σ h) := PS.imp ps_break fun D σ H ⟨a, h, Z, rs, rh, ht, k⟩ => k.bk a h σ H Fx.refl rs rh ht
theorem s_cnt : PS X (.Continue pos) (liftS X.K G W fun D σ h => D.ct σ h) := PS.imp ps_continue fun D σ H ⟨a, h, Z, rs, rh, ht, k⟩ => k.ct a h σ H Fx.refl rs rh ht
theorem s_doc {x j p2} : PS X (.Expr (.Constant (.str x) j p2) pos) (liftS X.K G W fun D σ h => D.nx σ h) := PS.imp ps_doc fun D σ H ⟨a, h, Z, rs, rh, ht, k⟩ => k.nx a h σ H Fx.refl rs rh ht
theorem s_retN : PS X (.Return none pos) (liftS X.K G W fun D _ h => D.rt .non h) := PS.imp ps_retN fun D σ H ⟨a, h, Z, rs, rh, ht, k⟩ => k.rt .non h .non H Fx.refl .non rh ht
section
variable {e : Expr} {te : TED}
theorem s_ex (he : PE X e (lift X.K G W te)) (hc : (!isComp e) = true) : PS X (.Expr e pos) (liftS X.K G W fun D σ h => te σ h (fun _ h1 => D.nx σ h1) fun x h' => D.ex x σ h') :=
  PS.imp (ps_expr he (noSw hc _ _ _)) fun D σ H ⟨a, h, Z, rs, rh, ht, k⟩ => ⟨a, h, _, _, rs, rh, ht, fun d h1 v H1 fx rd rh1 hq => k.nx a h1 σ H1 fx (rs.ext fx.ext) rh1 hq, k.cx rs⟩
theorem s_ret (he : PE X e (lift X.K G W te)) : PS X (.Return (some e) pos) (liftS X.K G W fun D σ h => te σ h D.rt fun x h' => D.ex x σ h') :=
  PS.imp (ps_ret he) fun D σ H ⟨a, h, Z, rs, rh, ht, k⟩ => ⟨a, h, _, _, rs, rh, ht, fun d h1 v H1 fx rd rh1 hq => k.rt d h1 v H1 fx rd rh1 hq, k.cx rs⟩
theorem s_set (co : Co X G W C c sc n) {i : Nat} {y : Str} {py : Pos} (h1 : c.N[i]? = some y) (h2 : locB sc y = true) (he : PE X e (lift X.K G W te)) (hc : (!isComp e) = true) :
    PS X (.Assign [.Name y py] e pos) (liftS X.K G W fun D σ h => te σ h (fun d h1 => D.nx (σ.set i (some d)) h1) fun x h' => D.ex x σ h') := by
  obtain ⟨l1, l2⟩ := loc_ok co.env h2
  exact PS.imp (ps_set (i := i) co.nd (by rw [co.hN]; exact h1) l1 he (noSw hc _ _ _) l2) fun D σ H ⟨a, h, Z, rs, rh, ht, k⟩ =>
    ⟨a, h, _, _, rs, rh, ht, fun d h1 v H1 fx rd rh1 hq => k.nx _ h1 _ H1 fx ((rs.ext fx.ext).set i rd) rh1 hq, k.cx rs⟩
theorem s_setK (co : Co X G W C c sc n) {i : Nat} {y : Str} {py : Pos} (h1 : c.N[i]? = some y) (h2 : locB sc y = true) (he : PE X e (lift X.K G W te)) (hc : cellB sc y = true) :
    PS X (.Assign [.Name y py] e pos) (liftS X.K G W fun D σ h => te σ h (fun d h1 => D.nx (σ.set i (some d)) h1) fun x h' => D.ex x σ h') := by
  obtain ⟨l1, l2⟩ := loc_ok co.env h2
  have hy : X.env.kindOf y = some .cell := by
    unfold cellB at hc
    split at hc
    · rename_i q; exact (co.env.cell y q).1
    · cases hc
  have hs : swapsWith e (some (.Name y py)) pos.line X.env = pure false := by
    have hb : (X.env.kindOf y == some NameKind.local) = false := by rw [hy]; rfl
    unfold swapsWith
    cases e <;> first | rfl | (dsimp only; rw [hb, Bool.and_false, Bool.false_and, Bool.false_and])
  exact PS.imp (ps_set (i := i) co.nd (by rw [co.hN]; exact h1) l1 he hs l2) fun D σ H ⟨a, h, Z, rs, rh, ht, k⟩ =>
    ⟨a, h, _, _, rs, rh, ht, fun d h1 v H1 fx rd rh1 hq => k.nx _ h1 _ H1 fx ((rs.ext fx.ext).set i rd) rh1 hq, k.cx rs⟩
theorem s_setC (co : Co X G W C c sc n) {i : Nat} {y : Str} {py : Pos} {ti : TID} {tg : Tg} {own : List Nat} {t : TTD} {e : TED} {tx it x : Expr} {l : List Expr} {scope : Scope} {p2 : Pos} (h1 : c.N[i]? = some y) (h2 : onlyLoc sc y = true) (k : CompOk X G W c ti tg own t e tx it x l scope)
    (hl : (py.line == p2.line) = true) (hn : (scope.names.any fun (n, k) => n == y && (k == .local || k == .cell)) = false) :
    PS X (.Assign [.Name y py] (.ListComp x [⟨tx, it, l, 0⟩] scope p2) pos) (liftS X.K G W fun D σ h => (cmpD tg own ti t e).v σ h (fun d h1 => D.nx (σ.set i (some d)) h1) fun x h' => D.ex x σ h') := by
  have hy : X.env.scope.names.lookup y = some .local := by
    unfold onlyLoc at h2
    split at h2
    · rename_i q; exact co.env.loc y q
    · cases h2
  refine ⟨fun pins s σ H D I hh => ?_⟩
  have base := ps_setLc (own := ownOf c own) (pos := p2) (spos := pos) (py := py) co.calm co.nd (by rw [co.hN]; exact h1) hy (sw_true I.ok.kind hy hl hn) k.pi k.bk k.pg k.pt k.pe (noSet k.hs X.env)
  refine base.run pins s σ H D I ?_
  obtain ⟨a, h, Z, rs, rh, ht, kk⟩ := hh
  exact comp_v co k.ho (.inr trivial) (tx := tx) k.hg ⟨a, h, _, _, rs, rh, ht, fun d h1 v H1 fx rd rh1 hq => kk.nx _ h1 _ H1 fx ((rs.ext fx.ext).set i rd) rh1 hq, kk.cx rs⟩
theorem setT_sw (co : Co X G W C c sc n) {es : List Expr} {k0 : Nat} {p2 : Pos} {e : Expr} (ht : (!isTup e || cellIn sc es) = true) : swappedStores [.Tuple es k0 p2] e X.env = pure none := by
  cases z : isTup e with
  | false => cases e <;> first | rfl | cases z
  | true =>
    rw [z, Bool.not_true, Bool.false_or] at ht
    unfold cellIn at ht
    rw [List.any_eq_true] at ht
    obtain ⟨y, hy, q⟩ := ht
    cases y with
    | Name a p =>
      dsimp only at q
      split at q
      · rename_i w
        exact sw_cell ⟨a, p, hy, (co.env.cell a w).1⟩
      · cases q
    | _ => cases q
theorem s_setT (co : Co X G W C c sc n) {tg : Tg} {es : List Expr} {k0 : Nat} {p2 : Pos} (h1 : chkTg c sc tg (.Tuple es k0 p2) = true) (he : PE X e (lift X.K G W te)) (hc : (!isComp e) = true) (ht : (!isTup e || cellIn sc es) = true) :
    PS X (.Assign [.Tuple es k0 p2] e pos) (liftS X.K G W fun D σ h => te σ h (fun d h1 => tgS tg d h1 σ fun σ' => D.nx σ' h1) fun x h' => D.ex x σ h') := by
  obtain ⟨pg, run⟩ := tg_okG co h1
  refine PS.imp (ps_asg he pg (by unfold swapsWithSole; exact noSw hc _ _ _) (setT_sw co ht) rfl) fun D σ H ⟨a, h, Z, rs, rh, ht, k⟩ =>
    ⟨a, h, _, _, rs, rh, ht, fun d h1 v H1 fx rd rh1 hq => run d v a σ H1 _ _ _ rd (rs.ext fx.ext) rh1 hq fun a' σ' rs' _ hz => k.nx a' h1 σ' H1 fx rs' rh1 hz, k.cx rs⟩
end
theorem s_ite {e : Expr} {te : TTD} {l m : List Stmt} {ta tb : TSD} (he : PT X e (liftT X.K G W te)) (ha : PSs X l (liftS X.K G W ta)) (hb : PSs X m (liftS X.K G W tb)) :
    PS X (.If e l m pos) (liftS X.K G W fun D σ h => te σ h (fun k h1 => if k = true then ta D σ h1 else tb D σ h1) fun x h' => D.ex x σ h') :=
  PS.imp (ps_if he ha hb) fun D σ H ⟨a, h, Z, rs, rh, ht, k⟩ => ⟨a, h, _, _, rs, rh, ht, fun b h1 H1 fx rh1 hq => by
    cases b with
    | true => exact ⟨a, h1, Z, rs.ext fx.ext, rh1, hq, k.ext fx⟩
    | false => exact ⟨a, h1, Z, rs.ext fx.ext, rh1, hq, k.ext fx⟩, k.cx rs⟩
theorem b_nil : PSs X [] (liftS X.K G W fun D σ h => D.nx σ h) := PSs.imp pss_nil fun D σ H ⟨a, h, Z, rs, rh, ht, k⟩ => k.nx a h σ H Fx.refl rs rh ht
theorem b_one {st : Stmt} {t : TSD} (h : PS X st (liftS X.K G W t)) : PSs X [st] (liftS X.K G W t) := pss_one h
theorem b_cons {st : Stmt} {l : List Stmt} {t u : TSD} (h : PS X st (liftS X.K G W t)) (hl : PSs X l (liftS X.K G W u)) : PSs X (st :: l) (liftS X.K G W fun D σ h => t { D with nx := u D } σ h) :=
  PSs.imp (pss_cons h hl) fun D σ H ⟨a, h, Z, rs, rh, ht, k⟩ => ⟨a, h, _, rs, rh, ht, ⟨fun a' h' σ' H' fx rs' rh' hq => ⟨a', h', Z, rs', rh', hq, k.ext fx⟩, k.rt, k.bk, k.ct, k.ex⟩⟩
theorem s_whl (po : PassesOwn (model X.prog X.w) X.A X.env X.xe) {e : Expr} {te : TTD} {l : List Stmt} {tb : TSD} (he : PT X e (liftT X.K G W te)) (hb : PSs X l (liftS X.K G W tb)) :
    PS X (.While e l [] pos) (liftS X.K G W fun D σ h => ∃ n, whlR te tb D n σ h) :=
  PS.imp (ps_while po he hb) fun D σ H ⟨a, h, Z, rs, rh, ⟨m, ht⟩, k⟩ => by
    refine ⟨fun m σ' H' => ∃ a' h', RS X.K G H' a' σ' ∧ RH X.K G H' h' ∧ Fx H h H' h' ∧ whlR te tb Z m a' h', ⟨m, a, h, rs, rh, Fx.refl, ht⟩, fun m σ' H' ⟨a', h', rs', rh', fx', hw⟩ => ?_⟩
    cases m with
    | zero => exact hw.elim
    | succ m =>
      refine ⟨a', h', _, _, rs', rh', hw, fun b h1 H1 fx1 rh1 hq => ?_, (k.ext fx').cx rs'⟩
      have f1 := fx'.trans fx1
      cases b with
      | false => exact k.nx a' h1 σ' H1 f1 (rs'.ext fx1.ext) rh1 hq
      | true =>
        refine ⟨fun σ2 H2 => ∃ a2 h2, RS X.K G H2 a2 σ2 ∧ RH X.K G H2 h2 ∧ Fx H h H2 h2 ∧ whlR te tb Z m a2 h2, fun σ2 H2 hN => ⟨m, Nat.lt_succ_self m, hN⟩, a', h1, _, rs'.ext fx1.ext, rh1, hq, ?_⟩
        exact ⟨fun a2 h2 σ2 H2 fx2 rs2 rh2 hz => ⟨a2, h2, rs2, rh2, f1.trans fx2, hz⟩, fun d h2 v H2 fx2 => k.rt d h2 v H2 (f1.trans fx2), fun a2 h2 σ2 H2 fx2 rs2 rh2 hz => k.nx a2 h2 σ2 H2 (f1.trans fx2) rs2 rh2 hz,
          fun a2 h2 σ2 H2 fx2 rs2 rh2 hz => ⟨a2, h2, rs2, rh2, f1.trans fx2, hz⟩, fun c' a2 h2 σ2 H2 fx2 => k.ex c' a2 h2 σ2 H2 (f1.trans fx2)⟩
theorem s_for (po : PassesOwn (model X.prog X.w) X.A X.env X.xe) (hc : X.calm = true) {tg : Tg} {tx it : Expr} {g : TG} {ti : TID} {l : List Stmt} {tb : TSD} (tok : TgOk X G tg tx g) (hi : PI X tx it (liftP X.K G W ti)) (hb : PSs X l (liftS X.K G W tb)) (hs : (!isSet it) = true) :
    PS X (.For tx it l [] pos) (liftS X.K G W fun D σ h => ti σ h (fun xs g h1 => forR tg tb g D xs σ h1) fun x h' => D.ex x σ h') :=
  PS.imp (ps_for po hc hi tok.pg hb (noSet hs X.env)) fun D σ H ⟨a, h, Z, rs, rh, ht, k⟩ => by
    refine ⟨a, h, _, _, rs, rh, ht, fun xs gd h1 J H1 fx1 rh1 wk _ hq => ?_, k.cx rs⟩
    refine ⟨fun i m σ' H' => m = xs.length - i ∧ i ≤ xs.length ∧ ∃ a' h', RS X.K G H' a' σ' ∧ RH X.K G H' h' ∧ Fx H1 h1 H' h' ∧ gdsOk h' gd ∧ forR tg tb gd Z (xs.drop i) a' h',
      ⟨xs.length, by simp, Nat.zero_le _, a, h1, rs.ext fx1.ext, rh1, Fx.refl, wk.ok, hq⟩, fun i m σ' H' ⟨em, hi, a', h', rs', rh', fx', gd', hw⟩ => ?_⟩
    by_cases hlt : i < xs.length
    · refine .inr ⟨(wk.go i H' h' hlt rh' fx' gd').1, fun σ2 H2 => ∃ m', m' < m ∧ (m' = xs.length - (i + 1) ∧ i + 1 ≤ xs.length ∧ ∃ a' h', RS X.K G H2 a' σ2 ∧ RH X.K G H2 h' ∧ Fx H1 h1 H2 h' ∧ gdsOk h' gd ∧ forR tg tb gd Z (xs.drop (i + 1)) a' h'),
        fun σ2 H2 hN => hN, fun x H2 hy => ?_⟩
      obtain ⟨d, ed, rd, rh2, fx2⟩ := (wk.go i H' h' hlt rh' fx' gd').2 x H2 hy
      have ex : xs.drop i = d :: xs.drop (i + 1) := by
        rw [List.drop_eq_getElem_cons hlt]
        rw [List.getElem?_eq_getElem hlt] at ed
        cases ed; rfl
      rw [ex] at hw
      have f2 := fx'.trans fx2
      have ff := fx1.trans f2
      refine tok.run d x a' σ' H2 _ _ _ rd (rs'.ext fx2.ext) rh2 hw fun a2 σ2 rs2 _ hb2 => ⟨a2, h', _, rs2, rh2, hb2, ?_⟩
      have next : ∀ a3 h3 σ3 H3, Fx H2 h' H3 h3 → RS X.K G H3 a3 σ3 → RH X.K G H3 h3 → (gdsOk h3 gd ∧ forR tg tb gd Z (xs.drop (i + 1)) a3 h3) →
          ∃ m', m' < m ∧ (m' = xs.length - (i + 1) ∧ i + 1 ≤ xs.length ∧ ∃ a' h', RS X.K G H3 a' σ3 ∧ RH X.K G H3 h' ∧ Fx H1 h1 H3 h' ∧ gdsOk h' gd ∧ forR tg tb gd Z (xs.drop (i + 1)) a' h') :=
        fun a3 h3 σ3 H3 fx3 rs3 rh3 ⟨g3, hz⟩ => ⟨xs.length - (i + 1), by omega, rfl, hlt, a3, h3, rs3, rh3, f2.trans fx3, g3, hz⟩
      exact ⟨next, fun d h3 v H3 fx3 => k.rt d h3 v H3 (ff.trans fx3), fun a3 h3 σ3 H3 fx3 rs3 rh3 hz => k.nx a3 h3 σ3 H3 (ff.trans fx3) rs3 rh3 hz, next, fun c' a3 h3 σ3 H3 fx3 => k.ex c' a3 h3 σ3 H3 (ff.trans fx3)⟩
    · have e : i = xs.length := by omega
      subst e
      rw [List.drop_length] at hw
      exact .inl ⟨wk.stop _ H' h' (Nat.le_refl _) rh' fx' gd', k.nx a' h' σ' H' (fx1.trans fx') rs' rh' hw⟩
theorem s_raise (co : Co X G W C c sc n) {x m : Str} {g j : Nat} {p p1 p2 : Pos} (h1 : gloB sc x = true) (h2 : (!odd x) = true) (h3 : c.cls.lookup x = some g) :
    PS X (.Raise (some (.Call (.Name x p) [.Constant (.str m) j p2] [] p1)) none pos) (liftS X.K G W fun D σ h => D.ex g σ h) := by
  obtain ⟨mg, E⟩ := co.gf.cls x g h3
  exact PS.imp (ps_raise co.calm co.tk (pmk_own PySem.F.excBase_ValueError E.ex mg E.kp (raises_own E.sub E.ty) (glo_ok co.env h1) (odd_no h2).1)) fun D σ H ⟨a, h, Z, rs, rh, ht, k⟩ => k.ex g a h σ H Fx.refl rs rh ht
end
end Nd
/-! Nd12: the soundness of the small syntax. -/
namespace Nd
open PySem PySem.Spec PyProof.Rows L2
section
variable {X : Cx} {G : Nat → Addr} {W : WX} {C : Ca} {c : Cf} {sc : Scope} {n : Nat}
/-! ### dict displays -/
theorem chkK_cons {k : Key} {ks : List Key} {o : Option Expr} {keys : List (Option Expr)} (h : chkKs (k :: ks) (o :: keys) = true) : (∃ e, o = some e ∧ PE X e (tC (kV k)) ∧ PyData.canLay0 .none = true) ∧ chkKs ks keys = true := by
  cases k with
  | inl i =>
    cases o with
    | none => cases h
    | some e => cases e with
      | Constant v j p => cases v with
        | int z =>
          have h' := Bool.and_eq_true_iff.mp (show (decide (i = z) && chkKs ks keys) = true from h)
          have e := of_decide_eq_true h'.1
          subst e
          exact ⟨⟨_, rfl, pe_int, rfl⟩, h'.2⟩
        | _ => cases h
      | _ => cases h
  | inr s =>
    cases o with
    | none => cases h
    | some e => cases e with
      | Constant v j p => cases v with
        | str z =>
          have h' := Bool.and_eq_true_iff.mp (show (decide (s = z) && chkKs ks keys) = true from h)
          have e := of_decide_eq_true h'.1
          subst e
          exact ⟨⟨_, rfl, pe_str, rfl⟩, h'.2⟩
        | _ => cases h
      | _ => cases h
theorem pp_nil (pos : Pos) (ks : List Key) (keys : List (Option Expr)) (h : chkKs ks keys = true) (l : ks.length = 0) : ∃ trs, PPs X pos keys [] trs ∧ ∀ σ H Q, liftA X.K G W (fun _ h q _ => q [] h) σ H (fun vs H' => Q ((ks.map kV).zip vs) H') → tPairs trs σ H Q := by
  cases ks with
  | cons _ _ => cases l
  | nil => cases keys with
    | cons o _ => cases o <;> cases h
    | nil => exact ⟨[], pps_nil, fun σ H Q ⟨a, hh, q, r, rs, rh, ht, k, kx⟩ => k [] hh [] H Fx.refl .nil rh ht⟩
theorem pp_cons {e : Expr} {l : List Expr} {te : TED} {t : TAD} (he : PE X e (lift X.K G W te)) (ih : ∀ (pos : Pos) (ks : List Key) (keys : List (Option Expr)), chkKs ks keys = true → ks.length = l.length → ∃ trs, PPs X pos keys l trs ∧ ∀ σ H Q, liftA X.K G W t σ H (fun vs H' => Q ((ks.map kV).zip vs) H') → tPairs trs σ H Q)
    (pos : Pos) (ks : List Key) (keys : List (Option Expr)) (h : chkKs ks keys = true) (hl : ks.length = l.length + 1) :
    ∃ trs, PPs X pos keys (e :: l) trs ∧ ∀ σ H Q, liftA X.K G W (fun σ h q x => te σ h (fun d h1 => t σ h1 (fun ds h2 => q (d :: ds) h2) x) x) σ H (fun vs H' => Q ((ks.map kV).zip vs) H') → tPairs trs σ H Q := by
  cases ks with
  | nil => cases hl
  | cons k ks => cases keys with
    | nil => cases k <;> cases h
    | cons o keys =>
      obtain ⟨⟨ke, rfl, pk, _⟩, h2⟩ := chkK_cons (X := X) h
      obtain ⟨trs, p1, p2⟩ := ih pos ks keys h2 (by simpa using hl)
      refine ⟨_, pps_cons pk he p1, fun σ H Q ⟨a, hh, q, r, rs, rh, ht, kk, kx⟩ => ?_⟩
      refine ⟨a, hh, _, r, rs, rh, ht, fun d h1 v1 H1 fx1 rd1 rh1 hq1 => p2 σ H1 _ ⟨a, h1, _, r, rs.ext fx1.ext, rh1, hq1, fun ds h2 vs H2 fx2 rd2 rh2 hq2 => ?_, kx.ext fx1⟩, kx⟩
      exact kk (d :: ds) h2 (v1 :: vs) H2 (fx1.trans fx2) (.cons (rd1.ext fx2.ext) rd2) rh2 hq2
theorem putK_new {kvs : List (Key × V)} {k : Key} {v : V} (h : k ∉ kvs.map (·.1)) : putK kvs k v = kvs ++ [(k, v)] := by
  unfold putK
  rw [if_neg]
  intro z
  rw [List.any_eq_true] at z
  obtain ⟨x, hx, e⟩ := z
  exact h (List.mem_map.mpr ⟨x, hx, of_decide_eq_true e⟩)
theorem merge_nd : ∀ (m kvs : List (Key × V)), ((kvs ++ m).map (·.1)).Nodup → mergeK kvs m = kvs ++ m
  | [], kvs, _ => by simp [mergeK]
  | (k, v) :: m, kvs, h => by
    show mergeK (putK kvs k v) m = _
    have hk : k ∉ kvs.map (·.1) := by
      rw [List.map_append, List.map_cons] at h
      exact fun z => (List.nodup_append.mp h).2.2 _ z _ List.mem_cons_self rfl
    rw [putK_new hk, merge_nd m _ (by rw [List.append_assoc]; exact h), List.append_assoc]; rfl
theorem zip_kv : ∀ (ks : List Key) (vs : List V), (ks.map kV).zip vs = (ks.zip vs).map fun kv => (kV kv.1, kv.2)
  | [], _ => by simp
  | _ :: _, [] => by simp
  | k :: ks, v :: vs => by simp [zip_kv ks vs]
theorem zip_fst {β : Type} : ∀ (ks : List Key) (vs : List β), ks.length = vs.length → (ks.zip vs).map (·.1) = ks
  | [], [], _ => rfl
  | [], _ :: _, h => by cases h
  | _ :: _, [], h => by cases h
  | k :: ks, v :: vs, h => by
    rw [List.zip_cons_cons, List.map_cons, zip_fst ks vs (by simpa using h)]
theorem zip_rk {K : PySem.W.Frag} {H : Hp} : ∀ (ks : List Key) {ds : List D} {vs : List V}, RDs K G H ds vs → RK K G H (ks.zip ds) (ks.zip vs)
  | [], _, _, _ => by simp only [List.zip_nil_left]; exact .nil
  | _ :: _, _, _, .nil => by simp only [List.zip_nil_right]; exact .nil
  | k :: ks, _, _, .cons h t => by
    rw [List.zip_cons_cons, List.zip_cons_cons]
    exact .cons ⟨rfl, h⟩ (zip_rk ks t)
theorem p_dic {ks : List Key} {keys : List (Option Expr)} {l : List Expr} {d : Dns} {pos : Pos} (hd : SndS X G W d l) (h1 : chkKs ks keys = true) (h2 : keys.length = l.length) (h3 : keys.length ≤ 15) (h4 : ks.Nodup) (hk : ks.all keyB = true) (h0 : keys ≠ []) :
    PE X (.Dict keys l pos) (lift X.K G W fun σ h q r => d.a σ h (fun ds h' => ks.length = ds.length ∧ ∀ p, h' p = none → q (.ref p) (hup h' p (.dic (ks.zip ds)))) r) := by
  have hlen : ∀ (ks : List Key) (keys : List (Option Expr)), chkKs ks keys = true → ks.length = keys.length ∧ keys.all (·.isSome) = true := by
    intro ks
    induction ks with
    | nil => intro keys h; cases keys with
      | nil => exact ⟨rfl, rfl⟩
      | cons o _ => cases o <;> cases h
    | cons k ks ih => intro keys h; cases keys with
      | nil => cases k <;> cases h
      | cons o keys =>
        obtain ⟨⟨e, rfl, _, _⟩, h2⟩ := chkK_cons (X := X) h
        obtain ⟨a, b⟩ := ih keys h2
        exact ⟨by simp [a], by simp [b]⟩
  obtain ⟨e1, e2⟩ := hlen ks keys h1
  obtain ⟨trs, p1, p2⟩ := hd.pp pos ks keys h1 (e1.trans h2)
  refine PE.imp (pe_disp p1 e2 h2 h0 h3) fun σ H Q ⟨a, h, q, r, rs, rh, ht, k, kx⟩ p np => ?_
  refine p2 σ _ _ ⟨a, h, _, r, rs.ext (Ext.new np), rh.hid np, ht, fun ds h1 vs H1 fx1 rd1 rh1 ⟨el, hq1⟩ => ?_, kx.ext (Fx.new np)⟩
  have np1 : h1 p = none := fx1.nw p (by rw [upd_same]; exact fun z => nomatch z) (rh.none_of np)
  have e5 : H1 p = some (.dK []) := fx1.st p _ upd_same (.inl (rh.none_of np))
  have lv : ks.length = vs.length := el.trans rd1.len
  have md : mergeK [] (ks.zip vs) = ks.zip vs := by
    rw [merge_nd _ _ (by rw [List.nil_append, zip_fst ks vs lv]; exact h4), List.nil_append]
  have lz : (ks.zip vs).length = ks.length := by rw [List.length_zip, ← lv, Nat.min_self]
  have lz2 : (ks.zip ds).length = ks.length := by rw [List.length_zip, ← el, Nat.min_self]
  refine ⟨e5, ks.zip vs, zip_kv ks vs, by rw [lz, e1]; exact h3, ?_⟩
  rw [md]
  have f : Fx H h (upd H1 p (.dK (ks.zip vs))) h1 := ((Fx.new np).trans fx1).hidw np
  refine k (.ref p) _ (.ref p) _ (fx_tell f np) (.ref p) (rh_tell (m := .dic (ks.zip ds)) (rh1.hidw e5 (fun z => z) np1) ⟨_, upd_same, by rw [lz2, e1, sizeLine_eq]; omega, (zip_rk ks rd1).ext (Ext.wr e5 (fun z => z)), fun q hq => keyB_ok hk _ (List.of_mem_zip hq).1⟩) (hq1 p np1)
theorem p_dic0 {pos : Pos} : PE X (.Dict [] [] pos) (lift X.K G W fun _ h q _ => ([] : List Key).length = ([] : List D).length ∧ ∀ p, h p = none → q (.ref p) (hup h p (.dic (([] : List Key).zip ([] : List D))))) :=
  PE.imp pe_dnewK fun σ H Q ⟨a, h, q, r, rs, rh, ht, k, kx⟩ p np =>
    k (.ref p) _ (.ref p) _ (Fx.newM np) (.ref p) (rh.new (m := .dic []) np ⟨[], upd_same, Nat.zero_le _, .nil, fun _ z => by cases z⟩) (ht.2 p (rh.none_of np))
/-! ### stores -/
theorem put_rk {K : PySem.W.Frag} {H : Hp} {kvs : List (Key × D)} {vs : List (Key × V)} {d : D} {v : V} (r : RK K G H kvs vs) (k : Key) (q : RD K G H d v) : RK K G H (putD kvs k d) (putK vs k v) := by
  have any : (kvs.any fun kv => decide (kv.1 = k)) = vs.any fun kv => decide (kv.1 = k) := by
    induction r with
    | nil => rfl
    | cons h t ih => rw [List.any_cons, List.any_cons, h.1, ih]
  have mp : RK K G H (kvs.map fun kv => if kv.1 = k then (kv.1, d) else kv) (vs.map fun kv => if kv.1 = k then (kv.1, v) else kv) := by
    clear any
    induction r with
    | nil => exact .nil
    | @cons x y l1 l2 h t ih =>
      rw [List.map_cons, List.map_cons]
      refine .cons ?_ ih
      by_cases e : x.1 = k
      · rw [if_pos e, if_pos (h.1 ▸ e)]; exact ⟨h.1, q⟩
      · rw [if_neg e, if_neg (fun z => e (h.1.trans z))]; exact h
  unfold putD putK
  rw [← any]
  split
  · exact mp
  · exact Paired.snoc r ⟨rfl, q⟩
theorem putD_len (kvs : List (Key × D)) (k : Key) (d : D) : (putD kvs k d).length ≤ kvs.length + 1 := by
  unfold putD
  split
  · rw [List.length_map]; omega
  · rw [List.length_append]; exact Nat.le_refl _
theorem put_key {kvs : List (Key × D)} {k : Key} {d : D} (h : ∀ p ∈ kvs, KeyG p.1) (g : KeyG k) : ∀ p ∈ putD kvs k d, KeyG p.1 := fun p hp => by
  unfold putD at hp
  split at hp
  · obtain ⟨q, hq, rfl⟩ := List.mem_map.mp hp
    have := h q hq
    split <;> exact this
  · rcases List.mem_append.mp hp with z | z
    · exact h p z
    · rw [List.mem_singleton.mp z]; exact g
theorem keyG_of {K : PySem.W.Frag} {H : Hp} {d : D} {v : V} {k : Key} (r : RD K G H d v) (e : keyD d = some k) : KeyG k := by
  cases r <;> first | (cases e; first | trivial | assumption) | cases e
theorem s_setItem (hu : X.A.units + 1 < cLine) : PSet X (fun o i v H Q => ∃ x y d h q, RD X.K G H x o ∧ RD X.K G H y i ∧ RD X.K G H d v ∧ RH X.K G H h ∧ setV x y d h q ∧ ∀ h' H', Fx H h H' h' → RH X.K G H' h' → q h' → Q H') := by
  intro pins s σ H o i v ov iv u Q I ro ri rv ⟨x, y, d, h, q, rx, ry, rd, rh, hr, k⟩
  unfold setV at hr
  split at hr
  · rename_i a
    cases rx
    split at hr
    · rename_i kvs e
      split at hr
      · rename_i kk ek
        obtain ⟨vs, h1, h2, h3, h4⟩ := rh a _ e
        have kg := keyG_of ry ek
        have ev := key_of ry ek
        subst ev
        obtain rfl : ov = Value.ref a := ro
        have lv : kvs.length = vs.length := Paired.length h3
        exact d_setItem hu I (DPut.k (k := kk) h1 (by rw [← lv]; exact hr.1)) ri rv fun s' I' => ⟨_, I', k _ _ (Fx.wr e h1 fun z => z) (rh.wr (m := .dic (putD kvs kk d)) h1 (fun z => z) ⟨_, upd_same, Nat.le_trans (putD_len _ _ _) hr.1, (put_rk h3 kk rd).ext (Ext.wr h1 fun z => z), put_key h4 kg⟩) hr.2⟩
      · exact hr.elim
    · rename_i xs e
      split at hr
      · rename_i z
        split at hr
        · rename_i j ej
          obtain ⟨vs, h1, h2, h3⟩ := rh a _ e
          cases ry
          exact set_list pins s σ H _ _ v ov iv u Q I ro ri rv ⟨a, vs, z, j, rfl, rfl, h1, by rw [← h3.len]; exact ej, k _ _ (Fx.wr e h1 fun z => z) (rh.wrL h1 (fun z => z) (by rw [List.length_set]; exact h2) (h3.set j rd)) hr⟩
        · exact hr.elim
      · exact hr.elim
    · exact hr.elim
  · exact hr.elim
theorem s_setS (hu : X.A.units + 1 < cLine) {o i e : Expr} {to ti te : TED} {p2 pos : Pos} (hsl : (!isSlice i) = true) (he : PE X e (lift X.K G W te)) (ho : PE X o (lift X.K G W to)) (hi : PE X i (lift X.K G W ti)) :
    PS X (.Assign [.Subscript o i p2] e pos) (liftS X.K G W fun D σ h => te σ h (fun d h1 => to σ h1 (fun x h2 => ti σ h2 (fun y h3 => setV x y d h3 fun h4 => D.nx σ h4) fun x h' => D.ex x σ h') fun x h' => D.ex x σ h') fun x h' => D.ex x σ h') := by
  have hs : swapsWithSole [.Subscript o i p2] e pos.line X.env = pure false := by
    unfold swapsWithSole
    cases e <;> rfl
  refine PS.imp (ps_asg he (pg_sub ho hi (s_setItem hu) (by cases i <;> first | (intro v; rfl) | cases hsl)) hs (by cases e <;> rfl) rfl) fun D σ H ⟨a, h, Z, rs, rh, ht, k⟩ =>
    ⟨a, h, _, _, rs, rh, ht, fun d h1 v H1 fx1 rd1 rh1 hq1 => ⟨a, h1, _, _, rs.ext fx1.ext, rh1, hq1, fun x h2 v2 H2 fx2 rd2 rh2 hq2 => ⟨a, h2, _, _, rs.ext (fx1.trans fx2).ext, rh2, hq2, fun y h3 v3 H3 fx3 rd3 rh3 hq3 =>
      ⟨x, y, d, h3, _, rd2.ext fx3.ext, rd3, rd1.ext (fx2.trans fx3).ext, rh3, hq3, fun h4 H4 fx4 rh4 hz => k.nx a h4 σ H4 (fx1.trans (fx2.trans (fx3.trans fx4))) (rs.ext (fx1.trans (fx2.trans (fx3.trans fx4))).ext) rh4 hz⟩,
      (k.ext (fx1.trans fx2)).cx (rs.ext (fx1.trans fx2).ext)⟩, (k.ext fx1).cx (rs.ext fx1.ext)⟩, k.cx rs⟩
/-- x op= e -/
theorem s_iaug (op : Operator) : PIp X op (fun x y H Q => lop X.K G (augV op) x y H Q) := by
  intro pins s σ H x y v u Q I rx ry ⟨d, e, h, q, hd, he, hh, hr, k⟩
  unfold augV at hr
  split at hr
  · cases hd with
    | int => cases he with
      | int j => exact iop_add pins s σ H _ _ v u Q I rx ry ⟨_, j, rfl, rfl, k _ _ _ _ Fx.refl (.int _) hh hr⟩
      | _ => exact False.elim hr
  · cases hd with
    | str _ g => cases he with
      | str y g' => exact iop_add_str pins s σ H _ _ v u Q I rx ry ⟨_, y, rfl, rfl, hr.1, k _ _ _ _ Fx.refl (.str _ (strG_app g g' hr.1)) hh hr.2⟩
      | _ => exact False.elim hr
  · cases hd with
    | int i => cases he with
      | int j => exact iop_sub pins s σ H _ _ v u Q I rx ry ⟨i, j, rfl, rfl, k _ _ _ _ Fx.refl (.int _) hh hr⟩
      | _ => exact False.elim hr
    | _ => exact False.elim hr
  · rename_i l
    cases hd
    split at hr
    · rename_i xs b e1
      cases he
      split at hr
      · rename_i zs e2
        obtain ⟨vs, g1, g2, g3⟩ := hh l _ e1
        obtain ⟨ws, j1, j2, j3⟩ := hh b _ e2
        exact iop_ext pins s σ H _ _ v u Q I rx ry ⟨l, b, vs, ws, rfl, rfl, g1, j1, by rw [← g3.len, ← j3.len]; exact hr.1, k _ _ _ _ (Fx.wr e1 g1 (fun z => z)) (.ref l) (hh.wrL g1 (fun z => z) (by rw [List.length_append]; exact hr.1) (g3.app j3)) hr.2⟩
      · exact hr.elim
    · exact hr.elim
  · exact hr.elim
theorem s_aug (co : Co X G W C c sc n) {i : Nat} {y : Str} {py pos : Pos} {op : Operator} {e : Expr} {te : TED} (h1 : c.N[i]? = some y) (h2 : locB sc y = true) (he : PE X e (lift X.K G W te)) :
    PS X (.AugAssign (.Name y py) op e pos) (liftS X.K G W fun D σ h => match (σ[i]?).join with
      | some d => te σ h (fun x h1 => augV op d x h1 fun y h2 => D.nx (σ.set i (some y)) h2) fun x h' => D.ex x σ h'
      | none => False) := by
  obtain ⟨l1, l2⟩ := loc_ok co.env h2
  refine PS.imp (ps_aug (i := i) co.nd (by rw [co.hN]; exact h1) l1 he (s_iaug (G := G) op) l2) fun D σ H ⟨a, h, Z, rs, rh, ht, k⟩ => ?_
  dsimp only at ht
  cases ea : a[i]? with
  | none => rw [ea] at ht; exact ht.elim
  | some o =>
    rw [ea] at ht
    cases o with
    | none => exact ht.elim
    | some d =>
      obtain ⟨v, e1, e2⟩ := rs.get ea
      exact ⟨v, e1, a, h, _, _, rs, rh, ht, fun x h1 v1 H1 fx1 rd1 rh1 hq1 => ⟨d, x, h1, _, e2.ext fx1.ext, rd1, rh1, hq1, fun z h2 v2 H2 fx2 rd2 rh2 hq2 =>
        k.nx _ h2 _ H2 (fx1.trans fx2) ((rs.ext (fx1.trans fx2).ext).set i rd2) rh2 hq2⟩, k.cx rs⟩
end
end Nd
/-! Ne1: try, an error caught by name and kept. -/
namespace Nd
open PySem PySem.Spec PyProof.Rows L2
section
variable {X : Cx} {pins : List (Addr × Obj)} {σ : L2.St} {H : Hp} {s : Shared}
/-- an error of ours is tracked from here on -/
theorem track {a : Addr} {oe : Obj} {vs : Array Value} {cls : Value} (I : L2.Inv X pins σ H s) (ha : s.heap.get? a = some oe) (hz : Zc cls none oe) (hd : oe.data = .fields vs) (na : H a = none) (n0 : X.s_0.heap.get? a = none)
    (np : ∀ p ∈ X.pn ++ pins, p.1 ≠ a) (nL : a ≠ X.env.locals) : L2.Inv X pins σ (upd H a (ExC cls a)) s := by
  have keep : ∀ {b : Addr} {o : HO}, H b = some o → upd H a (ExC cls a) b = some o := fun {b o} e => by rw [upd_ne (ne_of_none e na)]; exact e
  have new : ObjOk X.prog X.w (upd H a (ExC cls a)) s.heap a (ExC cls a) :=
    ⟨⟨oe, vs, ha, hz, hd⟩, ⟨oe, ha⟩, fun g g' ⟨o, v, q, r⟩ k => ⟨o, v, k o q, r⟩⟩
  refine { ok := I.ok, os := I.os, bare := I.bare, base := ?_, loc := I.loc, cell := I.cell, free := ?_, freeC := ?_, pin := ?_, hok := ?_, len := I.len }
  · exact { keep := I.base.keep, slot := I.base.slot, there := I.base.there
            free := fun b o e n hx => by rw [upd_ne (fun z => by rw [z, n0] at e; cases e)]; exact I.base.free b o e n hx
            tups := fun b xs e => keep (I.base.tups b xs e)
            frzs := fun b o u e => keep (I.base.frzs b o u e)
            tbls := fun b ps e => by obtain ⟨m, z⟩ := I.base.tbls b ps e; exact ⟨m, keep z⟩ }
  · rw [upd_ne (Ne.symm nL)]
    exact I.free
  · intro x c e
    have ne : c ≠ a := fun z => by
      obtain ⟨v, o, ho, hc⟩ := I.cell x c e
      rw [z, ha] at ho
      cases ho
      rw [hd] at hc
      cases hc
    rw [upd_ne ne]
    exact I.freeC x c e
  · intro p hp
    obtain ⟨p1, p2, p3⟩ := I.pin p hp
    refine ⟨p1, ?_, p3⟩
    rw [upd_ne (np p hp)]
    exact p2
  · intro b u e
    by_cases hb : b = a
    · subst hb
      rw [upd_same] at e
      cases e
      exact new
    · rw [upd_ne hb] at e
      exact (I.hok b u e).stay (fun _ _ _ q => q) (fun c q => keep q) fun c xs q => keep q
/-- what a kept error is -/
def wT (K : PySem.W.Frag) (c : Value) (i j : Nat) (Wout : WX) (D : Ends) : WX := fun cls d σ H =>
  ∃ b, PySem.W.exmOne K cls c = some b ∧ (b = true → d = none ∧ ∀ a, H a = none → D.nx ((σ.set j (some (.ref a))).set i none) (upd H a (ExC cls a))) ∧ (b = false → Wout cls d σ H)
theorem p_try {x n y : Str} {c : Value} {i j : Nat} {body : List Stmt} {np ap yp p2 pos pos' : Pos} {tb : WX → TS} {Wout : WX} (hs : X.stack = X.env :: X.outer) (hf : X.env.frame = some X.env.locals) (hex : X.ex = []) (hN : X.N.Nodup) (hi : X.N[i]? = some n) (hln : X.env.kindOf n = some .local)
    (hj : X.N[j]? = some y) (hlj : Loc X.env.scope y) (hfj : X.fn y = true ∨ X.env.scope.names.lookup y = some .local) (hij : i ≠ j) (hnd : (n == ("__debug__" : Str)) = false) (hnc : (n == ("__classdict__" : Str)) = false) (hc : Names X x c) (tk : Takes X Wout)
    (hb : ∀ (W : WX) (pn : List (Addr × Obj)) (xe : Value → Shared → Prop), Takes (X.tr pn xe) W → PassesOwn (model X.prog X.w) X.A X.env xe → PSs (X.tr pn xe) body (tb W)) :
    PS X (.Try body [.ExceptHandler (some (.Name x np)) (some n) [.Assign [.Name y yp] (.Name n ap) p2] pos'] [] [] pos) (fun D σ H => tb (wT X.K c i j Wout D) D σ H) := by
  refine ⟨fun pins s σ H D I h => ?_⟩
  have ok := I.ok
  have hfr : X.A.frames = some (X.env :: X.outer) := by rw [ok.frames, hs]
  let xeT : Value → Shared → Prop := fun e s₁ => wpAny (model X.prog X.w) X.A (noteFrame e X.env) (fun _ s₂ => wpAny (model X.prog X.w) X.A (setFlight e none) (fun _ s₃ =>
    wpAny (model X.prog X.w) X.A (handleBy e X.env [.ExceptHandler (some (.Name x np)) (some n) [.Assign [.Name y yp] (.Name n ap) p2] pos']) (SP X pins D) X.xe s₃) X.xe s₂) X.xe s₁
  have tkT : Takes (X.tr (X.pn ++ pins) xeT) (wT X.K c i j Wout D) := by
    rintro u s' ⟨a, B, sI, pins', σ', H', cls, d, rfl, J', nb, up, sky, na, os, ag, b, hb1, hyes, hno⟩
    have J : L2.Inv X pins σ' H' sI := J'.ofTry ok
    have sk : Sky B (X.env :: X.outer) a (Zc cls d) X.env.locals s'.heap := by rw [← hs]; exact sky
    have Ba : B.get? a = none := by
      rcases sk with ⟨_, z, _⟩ | ⟨_, z, _⟩ | ⟨_, z, _⟩ <;> exact z
    show wpAny (model X.prog X.w) X.A (noteFrame (.ref a) X.env) _ _ _
    refine Sky.land Zc.steady hfr hf sk fun g1 fl1 up1 => ?_
    have J1 : L2.Inv X pins σ' H' { s' with heap := g1 } := J.landed nb fl1.1 (up.trans up1) os ag
    obtain ⟨o1, v1, ho1, hz1, hd1⟩ := fl1.there
    have away : a ∉ frs (X.env :: X.outer) := fun hm => by
      obtain ⟨_, o', e', hnf⟩ := fl1.2.2.1.mem hm
      rw [ho1] at e'
      cases e'
      exact hnf _ hd1
    have nL : a ≠ X.env.locals := fun z => away (List.mem_filterMap.mpr ⟨X.env, List.mem_cons_self, by rw [hf, z]⟩)
    have nF : a ∉ X.fs := fun hm => by
      obtain ⟨e, he, q⟩ := List.mem_filterMap.mp hm
      exact away (List.mem_filterMap.mpr ⟨e, List.mem_cons_of_mem _ he, q⟩)
    have nI : sI.heap.get? a = none := by
      cases q : sI.heap.get? a with
      | none => rfl
      | some o =>
        have z := nb a o q (by show a ∉ frs X.stack; rw [hs]; exact away)
        rw [Ba] at z
        cases z
    have n0 : X.s_0.heap.get? a = none := by
      cases q : X.s_0.heap.get? a with
      | none => rfl
      | some o =>
        obtain ⟨o', z⟩ := J.base.there a o q (by rw [hex]; exact fun z => nomatch z)
        rw [nI] at z
        cases z
    have npn : ∀ p ∈ X.pn ++ pins, p.1 ≠ a := fun p hp e => by
      have z := (J.pin p hp).1
      rw [e, nI] at z
      cases z
    have S1 := J1.suite ho1 hd1 na nL nF
    refine wpAny_handleBy_cons (codeAny_handlers_test ?_) (by intro q; cases q)
    have LT : PySem.W.Looks (model X.prog X.w) g1 (typeOf (.ref a)) cls := fun A Q E s k q => wpAny_typeOf_ref (k _ _ ho1) (by rw [hz1.1]; exact q)
    have LM := PySem.W.exm_one (M := model X.prog X.w) (J1.kIn) LT hb1
    have look : ∀ {Q : Value → Shared → Prop} {E : Value → Shared → Prop}, Q c { s' with heap := g1 } → wpAny (model X.prog X.w) (X.A.mark (some (.ref a))) (eval (.Name x np) X.env) Q E { s' with heap := g1 } := fun {Q E} q => by
      obtain ⟨hg, hdb, hm | ⟨hm, hv, hnn⟩⟩ := hc
      · exact ld_glob (X := X.suite a ((a, o1) :: (X.pn ++ pins))) S1 hg hm q hdb
      · exact ld_blt (X := X.suite a ((a, o1) :: (X.pn ++ pins))) S1 hg hm hv q hnn hdb
    refine look (LM.here ?_)
    cases b with
    | true =>
      obtain ⟨rfl, hyes2⟩ := hyes rfl
      refine codeAny_handlers_suite_as ?_
      refine HandSPX.lands_againZ fl1 fun g2 fl2 up2 => ?_
      have J2 : L2.Inv X pins σ' H' { s' with heap := g2 } := J.landed nb fl2.1 ((up.trans up1).trans up2) os ag
      obtain ⟨o2, v2, ho2, hz2, hd2⟩ := fl2.there
      have S2 := J2.suite ho2 hd2 na nL nF
      have hi' : (X.suite a ((a, o2) :: (X.pn ++ pins))).N[i]? = some n := hi
      refine store_ok (X := X.suite a ((a, o2) :: (X.pn ++ pins))) (v := .ref a) S2 hN hi (.inl hln) rfl (fun s5 S5 => ?_) (.inr hln)
      have step : PSs (X.suite a ((a, o2) :: (X.pn ++ pins))) [.Assign [.Name y yp] (.Name n ap) p2] _ := pss_one (ps_set (i := j) hN hj hlj (pe_var (i := i) hi (.inl hln) hnd hnc) rfl hfj)
      have li : i < σ'.length := by rw [J2.len]; exact (List.getElem?_eq_some_iff.mp hi).1
      refine wpAny_mono (step.run [] s5 _ H' { nx := fun σ6 H6 => σ6 = (σ'.set i (some (.ref a))).set j (some (.ref a)) ∧ H6 = H', rt := fun _ _ => False } S5 ⟨.ref a, by rw [List.getElem?_set_self li], rfl, rfl⟩) (fun f s6 hsp => ?_) (fun _ _ z => False.elim z)
      cases f with
      | next =>
        obtain ⟨σ6, H6, S6, rfl, rfl⟩ := hsp
        have q6 := (S6.pin (a, o2) (List.mem_append_left _ List.mem_cons_self)).1
        have J6 : L2.Inv X pins _ H6 s6 := S6.unsuite ok
        have J7 := track J6 q6 hz2 hd2 na n0 npn nL
        refine gone_ok J7 hN hi hln fun s7 I7 => ⟨_, _, I7, ?_⟩
        have e : (((σ'.set i (some (V.ref a))).set j (some (V.ref a))).set i none) = (σ'.set j (some (V.ref a))).set i none := by
          rw [List.set_comm _ _ hij, List.set_set]
        rw [e]
        exact hyes2 a na
      | brk =>
        obtain ⟨_, _, _, z⟩ := hsp
        exact z.elim
      | cont =>
        obtain ⟨_, _, _, z⟩ := hsp
        exact z.elim
      | ret u =>
        obtain ⟨_, _, _, _, _, z⟩ := hsp
        exact z.elim
    | false =>
      show wpAny _ X.A (handleBy (.ref a) X.env []) _ _ _
      refine wpAny_handleBy_nil ?_
      obtain ⟨m1, m2, m3, ob, fv, tb', oT, us', e1, e2, e3, e4, e5⟩ := id fl1
      unfold PySem.passOn
      refine wpAny_bind (wpAny_field e1 e3 e4 ?_)
      rw [if_neg (by simp)]
      have go : wpAny (model X.prog X.w) X.A (setFlight (.ref a) X.env.frame) (fun _ s4 => wpAny (model X.prog X.w) X.A (throw (.ref a) : Sem Flow) (SP X pins D) X.xe s4) X.xe { s' with heap := g1 } := by
        rw [hf]
        refine HandSPX.setFlight_upZ fl1 fun g4 fl4 up4 => wpAny_throw (tk _ _ ⟨a, B, sI, pins, σ', H', cls, d, rfl, J, nb, (up.trans up1).trans up4, .inr (.inr ?_), na, os, ag, hno rfl⟩)
        rw [hs]
        exact fl4
      first
        | exact wpAny_bind go
        | exact wpAny_bind (wpAny_pure (wpAny_bind go))
  refine wpAny_Try_except (wpAny_mono ((hb (wT X.K c i j Wout D) (X.pn ++ pins) xeT tkT PassesOwn.looking).run [] s σ H D (I.toTry _) h) (fun f s1 hsp => ?_) fun e s1 he => he)
  cases f with
  | next =>
    obtain ⟨σ1, H1, J1, q⟩ := hsp
    exact wpAny_execs_nil ⟨σ1, H1, J1.ofTry ok, q⟩
  | brk =>
    obtain ⟨σ1, H1, J1, q⟩ := hsp
    exact ⟨σ1, H1, J1.ofTry ok, q⟩
  | cont =>
    obtain ⟨σ1, H1, J1, q⟩ := hsp
    exact ⟨σ1, H1, J1.ofTry ok, q⟩
  | ret u =>
    obtain ⟨v1, σ1, H1, J1, r1, q⟩ := hsp
    exact ⟨v1, σ1, H1, J1.ofTry ok, r1, q⟩
end
end Nd
/-! Ne2: more of lists, of three numbers. -/
namespace Nd
open PySem PySem.Spec PyProof.Rows L2
section
variable {X : Cx} {G : Nat → Addr} {W : WX} {C : Ca} {c : Cf} {sc : Scope} {n : Nat}
theorem vals_cons' {v : V} {vs : List V} {us : List Value} (r : Vals (v :: vs) us) : ∃ u ws, us = u :: ws ∧ RelV v u ∧ Vals vs ws := by
  cases r with
  | cons a r => exact ⟨_, _, rfl, a, r⟩
theorem c_max3 (hc : X.calm = true) : CallR X (.builtin "max") (lcall X.K G fun ds h q => biV C.exm .max3 ds h q) := by
  intro pins s σ H xs us Q I r ⟨ds, h, q, rd, rh, hr, k⟩
  match ds, rd, hr with
  | [.int i, .int j, .int m], rd, hr =>
    cases rd with
    | cons r1 rd2 =>
      obtain ⟨v, w, rfl, r2, r3⟩ := rds2 rd2
      cases r1
      cases r2
      cases r3
      obtain ⟨u1, us2, rfl, ⟨t1, rfl⟩, rr⟩ := vals_cons' r
      obtain ⟨u2, u3, rfl, ⟨t2, rfl⟩, ⟨t3, rfl⟩⟩ := vals2 rr
      refine max_three_ints (I.ok.hd hc) fun h' tk hk => ?_
      have I2 : L2.Inv X pins σ H { s with heap := h', toks := tk } := I.kept (t' := tk) hk
      have hq : q (.int (if j > i then (if m > j then m else j) else if m > i then m else i)) h := hr
      refine ⟨.int (if j > i then (if m > j then m else j) else if m > i then m else i), H, I2, ?_, k _ _ _ _ Fx.refl (.int _) rh hq⟩
      split <;> split <;> exact ⟨_, rfl⟩
/-- a method of lists of one argument that changes nothing -/
def lmt (K : PySem.W.Frag) (G : Nat → Addr) (r : D → List D → HD → VQ → Prop) : V → List V → Hp → VK → Prop := fun x xs H Q => ∃ d ds h q, RD K G H d x ∧ RDs K G H ds xs ∧ RH K G H h ∧ r d ds h q ∧ Cont K G H h q Q
theorem m_count (hu : X.A.units + 65 < cLine) : MtR X "list.count" (lmt X.K G fun d ds h q => bmV .count d ds h q) := by
  intro pins s σ H x xs v us Q I rx rxs ⟨d, ds, h, q, rd, rds, rh, hr, k⟩
  match ds, rds, hr with
  | [y], rds, hr =>
    obtain ⟨w, rfl, ry⟩ := rds1 rds
    obtain ⟨u1, rfl, r1⟩ := vals1 rxs
    unfold bmV at hr
    dsimp only at hr
    split at hr
    · rename_i zs e
      obtain ⟨ps, p, h1, h2, h3, h4, h5, h6, hr⟩ := hr
      obtain ⟨a, vs, rfl, g1, g3, g2⟩ := lst_sq rh rd e
      cases rx
      obtain ⟨its, rv, pl, hz⟩ := I.list g1
      have dp := Py.dp rh h2 ry
      have dps := Pys.dp rh h1 g3
      obtain ⟨as, q1⟩ := Dp.reads I p w u1 dp r1
      obtain ⟨bs, q2⟩ := Dp.readsAll I ps vs its dps rv
      refine PySem.SeqAt.count_list_data pl.isList (by simpa using q2) q1 h3 h4 (by omega) ⟨.int _, H, I.tok _, ⟨_, rfl⟩, k _ _ _ _ Fx.refl (.int _) rh hr⟩
    · exact hr.elim
theorem m_index (hu : X.A.units + 65 < cLine) : MtR X "list.index" (lmt X.K G fun d ds h q => bmV .index d ds h q) := by
  intro pins s σ H x xs v us Q I rx rxs ⟨d, ds, h, q, rd, rds, rh, hr, k⟩
  match ds, rds, hr with
  | [y], rds, hr =>
    obtain ⟨w, rfl, ry⟩ := rds1 rds
    unfold bmV at hr
    dsimp only at hr
    split at hr
    · rename_i zs e
      obtain ⟨ps, p, j, z, h1, h2, h3, h4, h5, h6, h7, hr⟩ := hr
      obtain ⟨a, vs, rfl, g1, g3, g2⟩ := lst_sq rh rd e
      have hz : Py h d (.list ps) := by
        cases d with
        | kls xs' => cases e; exact .kls h1
        | ref b =>
          unfold lstOf at e
          dsimp only at e
          split at e
          · rename_i ea; cases e; exact .lst ea h1
          · cases e
        | _ => cases e
      exact mt_indexD hu pins s σ H _ _ v us Q I rx rxs ⟨a, w, p, ps, j, z, rfl, rfl, Py.dp rh hz rd, Py.dp rh h2 ry, h3, h4, h5, h6, h7, k _ _ _ _ Fx.refl (.int _) rh hr⟩
    · exact hr.elim
theorem p_lm1 {m : BM} {f : Str} {f0 id : String} {o e : Expr} {to te : TED} {apos cpos : Pos} (hpl : PlainAttrs "list") (hsl : Slot "list" (Str.ofString (f0 : String)) id) (hf : f = Str.ofString f0) (hty : typeOf (.builtin id) = pure (.type "method_descriptor")) (hm : MtR X id (lmt X.K G fun d ds h q => bmV m d ds h q)) (hT : ∀ d h, bmT m d h → (lstOf h d).isSome = true)
    (ho : PE X o (lift X.K G W to)) (he : PE X e (lift X.K G W te)) (hb : (!isCall0 o) = true) (hs : (!isStar e) = true) (hl : (apos.endLine == cpos.line) = true) :
    PE X (.Call (.Attribute o f apos) [e] [] cpos) (lift X.K G W fun σ h q x => to σ h (fun d h1 => bmT m d h1 ∧ te σ h1 (fun y h2 => bmV m d [y] h2 q) x) x) :=
  hf ▸ PE.imp (pe_bm hpl hsl hty hm ho (pa_cons he pa_nil (star1 hs _ _)) (base_no hb _ _ _) (few_ok (by show ((!isStar e) && true) = true; rw [hs]; rfl) (by show 1 < 30; decide)) hl (star1 hs _ _) rfl)
    fun σ H Q ⟨a, h, q, x, rs, rh, ht, k, kx⟩ => ⟨a, h, _, x, rs, rh, ht, fun d h1 v1 H1 fx1 rd1 rh1 ⟨hq0, hq1⟩ => by
      obtain ⟨xs, e0⟩ := Option.isSome_iff_exists.mp (hT d h1 hq0)
      obtain ⟨l, vs0, rfl, g1, _⟩ := lst_sq rh1 rd1 e0
      exact ⟨.inl ⟨rfl, vs0, g1⟩, a, h1, _, x, rs.ext fx1.ext, rh1, hq1, fun y h2 v2 H2 fx2 rd2 rh2 hq2 => ⟨d, [y], h2, q, rd1.ext fx2.ext, .cons rd2 .nil, rh2, hq2, k.ext (fx1.trans fx2)⟩, kx.ext fx1⟩, kx⟩
end
end Nd
/-! Nf1: zip of three tuples, zip of a text and a tuple. -/
namespace Nd
open PySem PySem.Spec PyProof.Rows L2
/-- three tuples side by side, m turns -/
def Iz3 (K : PySem.W.Frag) (a b c : Addr) (m : Nat) : It :=
  ⟨fun i H => ∃ xs ys zs : List V, SqT K H a xs ∧ SqT K H b ys ∧ SqT K H c zs ∧ min (min xs.length ys.length) zs.length = m ∧ i < m,
   fun i H v H' => ∃ (T : Addr) (x y z : V), v = .ref T ∧ H T = none ∧ H' = upd H T (.tup [x, y, z]) ∧ (∀ xs, SqT K H a xs → xs[i]? = some x) ∧ (∀ ys, SqT K H b ys → ys[i]? = some y) ∧ ∀ zs, SqT K H c zs → zs[i]? = some z,
   fun i H => ∃ xs ys zs : List V, SqT K H a xs ∧ SqT K H b ys ∧ SqT K H c zs ∧ min (min xs.length ys.length) zs.length = m ∧ m ≤ i⟩
section
variable {P : Program} {w : World} {K : PySem.W.Frag} {el : List Expr} {kk : Nat} {tp : Pos}
theorem tupIt_obj {h : Heap} {i t : Addr} {n : Nat} (st : h.IsTupleIter i t n) : ∃ o, h.get? i = some o ∧ ∀ v, o.data ≠ .cell v := by
  obtain ⟨o, e, _, d⟩ := st
  exact ⟨o, e, fun v q => by rw [d] at q; cases q⟩
theorem vals_back {xs : List V} {us : List Value} {i : Nat} {u : Value} (r : Vals xs us) (h : us[i]? = some u) : ∃ x, xs[i]? = some x ∧ RelV x u := by
  have hl := r.length
  have hi : i < xs.length := by
    have := (List.getElem?_eq_some_iff.mp h).1
    omega
  have e := List.getElem?_eq_getElem hi
  obtain ⟨u', e2, r2⟩ := r.get e
  rw [h] at e2
  cases e2
  exact ⟨_, e, r2⟩
theorem turn_z3 {a b c z ti to i1 i2 i3 : Addr} {m : Nat} (S : ZipSep3 z ti to i1 i2 i3 [i1, a] [i2, b] [i3, c]) (n1 : a ≠ i1) (n2 : b ≠ i2) (n3 : c ≠ i3) :
    Turn P w K (.Tuple el kk tp) (Iz3 K a b c m) [z, ti, to, i1, i2, i3] z fun i h => i ≤ m ∧ IsZip h z ti to .none ∧ IsTupOf3 h ti (.ref i1) (.ref i2) (.ref i3) ∧ (∃ x y u, IsTupOf3 h to x y u) ∧ h.IsTupleIter i1 a i ∧ h.IsTupleIter i2 b i ∧ h.IsTupleIter i3 c i where
  mem := by simp
  obj := by
    rintro i h ⟨_, q1, q2, ⟨x, y, u, q3⟩, q4, q5, q6⟩ b' hb'
    simp only [List.mem_cons, List.not_mem_nil, or_false] at hb'
    rcases hb' with e | e | e | e | e | e <;> rw [e]
    · exact ⟨_, q1, fun v q => nomatch q⟩
    · exact ⟨_, q2, fun v q => nomatch q⟩
    · exact ⟨_, q3, fun v q => nomatch q⟩
    · exact tupIt_obj q4
    · exact tupIt_obj q5
    · exact tupIt_obj q6
  keep := by
    rintro i h h' ⟨q0, q1, q2, ⟨x, y, u, q3⟩, q4, q5, q6⟩ k
    exact ⟨q0, k z (by simp) _ q1, k ti (by simp) _ q2, ⟨x, y, u, k to (by simp) _ q3⟩, q4.at fun o q => k i1 (by simp) o q, q5.at fun o q => k i2 (by simp) o q, q6.at fun o q => k i3 (by simp) o q⟩
  item := by
    intro X hP hw hK hc i pins s σ H E I hf st hg
    subst hP hw hK
    obtain ⟨q0, q1, q2, q3, q4, q5, q6⟩ := id st
    obtain ⟨xs, ys, zs, t1, t2, t3, hm, hi⟩ := hg
    obtain ⟨us, r1, p1, _⟩ := I.tuple t1
    obtain ⟨vs, r2, p2, _⟩ := I.tuple t2
    obtain ⟨ws, r3, p3, _⟩ := I.tuple t3
    have l1 := r1.length
    have l2 := r2.length
    have l3 := r3.length
    have hd : X.A.in1.handled = none := I.ok.hd hc
    have W := GoesN.zip3 (prog := X.prog) (w := X.w) (A := X.A) (elts := el) (x1 := kk) (pos := tp) S (Draws.tuple hd i1 a n1 us.toArray) (Draws.tuple hd i2 b n2 vs.toArray) (Draws.tuple hd i3 c n3 ws.toArray)
    refine W.goes i s _ _ (by simp only [List.size_toArray]; omega) ⟨q1, q2, q3, ⟨q4, p1⟩, ⟨q5, p2⟩, ⟨q6, p3⟩⟩ fun v h' tk hY st2 hk htk => ?_
    obtain ⟨T, x, y, u, rfl, hT, hx, hy, hu, ht⟩ := hY
    obtain ⟨st3, st4, st5, st6, st7, st8⟩ := st2
    have hx : us[i]? = some x := by simpa using hx
    have hy : vs[i]? = some y := by simpa using hy
    have hu : ws[i]? = some u := by simpa using hu
    obtain ⟨x', ex, rx⟩ := vals_back r1 hx
    obtain ⟨y', ey, ry⟩ := vals_back r2 hy
    obtain ⟨z', ez, rz⟩ := vals_back r3 hu
    have new : ObjOk X.prog X.w (upd H T (.tup [x', y', z'])) h' T (.tup [x', y', z']) :=
      ⟨by show 3 ≤ sizeLine; decide, [x, y, u], .cons rx (.cons ry (.cons rz .nil)), ht⟩
    have I1 : Inv X pins σ (upd H T (.tup [x', y', z'])) { s with heap := h', toks := tk } :=
      I.turnedNew (ch := [z, ti, to, i1, i2, i3]) (fun b o hb e => hk b o (fun q => hb (by simp only [List.mem_cons, List.not_mem_nil, or_false] at q ⊢; rcases q with q | q | q | q | q <;> simp [q])) e) hf hT new
    refine ⟨.ref T, _, I1, rfl, ⟨T, x', y', z', rfl, I.hok.fresh hT, rfl, fun l hl => by rw [I.tuple_inj hl t1]; exact ex, fun l hl => by rw [I.tuple_inj hl t2]; exact ey, fun l hl => by rw [I.tuple_inj hl t3]; exact ez⟩,
      ⟨by omega, st3, st4, st5, st6.1, st7.1, st8.1⟩, fun b hb => ?_⟩
    have hlt : b < s.heap.objs.size := by
      obtain ⟨x0, y0, u0, q3⟩ := q3
      simp only [List.mem_cons, List.not_mem_nil, or_false] at hb
      rcases hb with e | e | e | e | e | e <;> rw [e]
      · exact Heap.lt_size q1
      · exact Heap.lt_size q2
      · exact Heap.lt_size q3
      · exact Heap.lt_size (tupIt_obj q4).choose_spec.1
      · exact Heap.lt_size (tupIt_obj q5).choose_spec.1
      · exact Heap.lt_size (tupIt_obj q6).choose_spec.1
    rw [upd_ne (Nat.ne_of_lt (Nat.lt_of_lt_of_le hlt hT))]
    exact (hf b hb).1
  done := by
    intro X hP hw hK hc i pins s σ H E I hf st hg
    subst hP hw hK
    obtain ⟨q0, q1, q2, q3, q4, q5, q6⟩ := id st
    obtain ⟨xs, ys, zs, t1, t2, t3, hm, hi⟩ := hg
    obtain ⟨us, r1, p1, _⟩ := I.tuple t1
    obtain ⟨vs, r2, p2, _⟩ := I.tuple t2
    obtain ⟨ws, r3, p3, _⟩ := I.tuple t3
    have l1 := r1.length
    have l2 := r2.length
    have l3 := r3.length
    have hd : X.A.in1.handled = none := I.ok.hd hc
    have W := GoesN.zip3 (prog := X.prog) (w := X.w) (A := X.A) (elts := el) (x1 := kk) (pos := tp) S (Draws.tuple hd i1 a n1 us.toArray) (Draws.tuple hd i2 b n2 vs.toArray) (Draws.tuple hd i3 c n3 ws.toArray)
    have en : i = min (min us.toArray.size vs.toArray.size) ws.toArray.size := by simp only [List.size_toArray]; omega
    refine W.stops s _ _ ?_ fun h' tk hk htk => ?_
    · rw [← en]
      exact ⟨q1, q2, q3, ⟨q4, p1⟩, ⟨q5, p2⟩, ⟨q6, p3⟩⟩
    · exact I.turnedL (t' := tk) (ch := [z, ti, to, i1, i2, i3]) (fun b o hb e => hk b o (fun q => hb (by simp only [List.mem_cons, List.not_mem_nil, or_false] at q ⊢; rcases q with q | q | q | q | q <;> simp [q])) e) hf
  self := fun _ _ _ _ _ st h => wpAny_pyIter_zip st.2.1 h
end
end Nd
/-! Nf2: zip of three tuples begins; a text beside a tuple. -/
namespace Nd
open PySem PySem.Spec PyProof.Rows L2
section
variable {X : Cx} {e e2 e3 : Expr} {ta : TA} {p pos tpos : Pos} {el : List Expr} {kk : Nat}
theorem vals_split {v : V} {vs : List V} {us : List Value} (r : Vals (v :: vs) us) : ∃ u ws, us = u :: ws ∧ RelV v u ∧ Vals vs ws := by
  cases r with
  | cons a r => exact ⟨_, _, rfl, a, r⟩
theorem fp_new {pins : List (Addr × Obj)} {σ : L2.St} {H : Hp} {s : Shared} (I : Inv X pins σ H s) {l : List Addr} (h : ∀ b ∈ l, s.heap.objs.size ≤ b) : ∀ b ∈ l, FpOk X pins H b := fun b hb => I.fpOk (h b hb) (I.hok.fresh (h b hb))
def iZ3 (K : PySem.W.Frag) (ta : TA) : TI := fun σ H R => ta σ H fun vs H1 => ∃ (a b c : Addr) (xs ys zs : List V), vs = [.ref a, .ref b, .ref c] ∧ SqT K H1 a xs ∧ SqT K H1 b ys ∧ SqT K H1 c zs ∧ R (Iz3 K a b c (min (min xs.length ys.length) zs.length)) H1
theorem pi_z3 (hg : Gl X "zip") (hm : X.mg "zip" = none) (ha : PA X [e, e2, e3] ta) (hs : starEach [e, e2, e3] X.env = (false, eval e X.env) :: starEach [e2, e3] X.env) (hpl : (backTo pos (starEach [e2, e3] X.env)).any (·.1) = false) :
    PI X (.Tuple el kk tpos) (.Call (.Name "zip" p) [e, e2, e3] [] pos) (iZ3 X.K ta) := by
  refine ⟨fun pins s σ H R I h => ?_⟩
  refine Call_ (ld_blt I hg hm PyProof.Rows.boot_zip ?_)
  refine PyProof.Rows.callWith_type1 (thn (ha.run pos pins s σ H _ I h) fun us s1 ⟨vs, H1, I1, r1, q1⟩ => ?_) hs hpl
  obtain ⟨a, b, c, xs, ys, zs, rfl, t1, t2, t3, q⟩ := q1
  obtain ⟨u1, us1, rfl, w1, rr⟩ := vals_split r1
  obtain ⟨u2, us2, rfl, w2, rr⟩ := vals_split rr
  obtain ⟨u3, us3, rfl, w3, rr⟩ := vals_split rr
  cases rr
  obtain rfl : u1 = Value.ref a := w1
  obtain rfl : u2 = Value.ref b := w2
  obtain rfl : u3 = Value.ref c := w3
  case _ =>
    obtain ⟨us, rv1, p1, _⟩ := I1.tuple t1
    obtain ⟨vs, rv2, p2, _⟩ := I1.tuple t2
    obtain ⟨ws, rv3, p3, _⟩ := I1.tuple t3
    have sz : ∀ {x : Addr} {its : Array Value}, s1.heap.IsTuple x its → x < s1.heap.objs.size := fun ⟨o, ho, _⟩ => Heap.lt_size ho
    have la := sz (its := us.toArray) p1
    have lb := sz (its := vs.toArray) p2
    have lc := sz (its := ws.toArray) p3
    refine zip_begins3 (begins_tuple a us.toArray) (begins_tuple b vs.toArray) (begins_tuple c ws.toArray) p1 p2 p3 fun h' hz hI hO g1 g2 g3 hsz hk => wpAny_pyIter_zip hz ?_
    have I2 : Inv X pins σ H1 { s1 with heap := h' } := I1.kept (t' := s1.toks) hk
    refine ⟨s1.heap.objs.size + 5, [s1.heap.objs.size + 5, s1.heap.objs.size + 3, s1.heap.objs.size + 4, s1.heap.objs.size, s1.heap.objs.size + 1, s1.heap.objs.size + 2], _, _, H1, rfl, I2,
      turn_z3 (zip_sep3 (fun x hx => by rw [List.mem_singleton.mp hx]; exact la) (fun x hx => by rw [List.mem_singleton.mp hx]; exact lb) (fun x hx => by rw [List.mem_singleton.mp hx]; exact lc)) (Nat.ne_of_lt la) (Nat.ne_of_lt (Nat.lt_succ_of_lt lb)) (Nat.ne_of_lt (Nat.lt_succ_of_lt (Nat.lt_succ_of_lt lc))),
      ⟨Nat.zero_le _, hz, hI, ⟨_, _, _, hO⟩, ⟨_, g1, rfl, rfl⟩, ⟨_, g2, rfl, rfl⟩, ⟨_, g3, rfl, rfl⟩⟩, fp_new I1 fun b hb => ?_, q⟩
    simp only [List.mem_cons, List.not_mem_nil, or_false] at hb
    rcases hb with z | z | z | z | z | z <;> rw [z] <;> first | exact Nat.le_refl _ | exact Nat.le_add_right _ _
/-- a text's signs beside a tuple's items -/
def Izs (K : PySem.W.Frag) (x : Str) (b : Addr) (m : Nat) : It :=
  ⟨fun i H => ∃ ys : List V, SqT K H b ys ∧ min x.cps.size ys.length = m ∧ i < m,
   fun i H v H' => ∃ (T : Addr) (c : Nat) (y : V), v = .ref T ∧ H T = none ∧ H' = upd H T (.tup [.str ⟨#[c]⟩, y]) ∧ x.cps[i]? = some c ∧ ∀ ys, SqT K H b ys → ys[i]? = some y,
   fun i H => ∃ ys : List V, SqT K H b ys ∧ min x.cps.size ys.length = m ∧ m ≤ i⟩
theorem strIt_obj {h : Heap} {i : Addr} {T : String} {x : Str} {t : Tok} {n : Nat} (st : h.IsStrIter i T x t n) : ∃ o, h.get? i = some o ∧ ∀ v, o.data ≠ .cell v := by
  obtain ⟨o, e, _, d⟩ := st
  exact ⟨o, e, fun v q => by rw [d] at q; cases q⟩
theorem turn_zs {P : Program} {w : World} {K : PySem.W.Frag} {tp : Pos} {x : Str} {t : Tok} {b z ti to i1 i2 : Addr} {m : Nat} (S : ZipSep2 z ti to i1 i2 [i1] [i2, b]) (n2 : b ≠ i2) :
    Turn P w K (.Tuple el kk tp) (Izs K x b m) [z, ti, to, i1, i2] z fun i h => i ≤ m ∧ IsZip h z ti to .none ∧ IsTupOf2 h ti (.ref i1) (.ref i2) ∧ (∃ x y, IsTupOf2 h to x y) ∧ h.IsStrIter i1 (strIterType x) x t i ∧ h.IsTupleIter i2 b i where
  mem := by simp
  obj := by
    rintro i h ⟨_, q1, q2, ⟨x, y, q3⟩, q4, q5⟩ b' hb'
    simp only [List.mem_cons, List.not_mem_nil, or_false] at hb'
    rcases hb' with e | e | e | e | e <;> rw [e]
    · exact ⟨_, q1, fun v q => nomatch q⟩
    · exact ⟨_, q2, fun v q => nomatch q⟩
    · exact ⟨_, q3, fun v q => nomatch q⟩
    · exact strIt_obj q4
    · exact tupIt_obj q5
  keep := by
    rintro i h h' ⟨q0, q1, q2, ⟨x, y, q3⟩, q4, q5⟩ k
    obtain ⟨o, g1, g2, g3⟩ := q4
    exact ⟨q0, k z (by simp) _ q1, k ti (by simp) _ q2, ⟨x, y, k to (by simp) _ q3⟩, ⟨o, k i1 (by simp) _ g1, g2, g3⟩, q5.at fun o q => k i2 (by simp) o q⟩
  item := by
    intro X hP hw hK hc i pins s σ H E I hf st hg
    subst hP hw hK
    obtain ⟨q0, q1, q2, q3, q4, q5⟩ := id st
    obtain ⟨ys, t2, hm, hi⟩ := hg
    obtain ⟨vs, r2, p2, _⟩ := I.tuple t2
    have l2 := r2.length
    have hd : X.A.in1.handled = none := I.ok.hd hc
    have W := GoesN.zip2 (prog := X.prog) (w := X.w) (A := X.A) (elts := el) (x1 := kk) (pos := tp) S (Draws.text hd i1 x t) (Draws.tuple hd i2 b n2 vs.toArray)
    refine W.goes i s _ _ (by simp only [List.size_toArray]; omega) ⟨q1, q2, q3, q4, ⟨q5, p2⟩⟩ fun v h' tk hY st2 hk htk => ?_
    obtain ⟨T, _, y, rfl, hT, ⟨c, u, hx, rfl⟩, hy, ht⟩ := hY
    obtain ⟨st3, st4, st5, st6, st7⟩ := st2
    have hy : vs[i]? = some y := by simpa using hy
    obtain ⟨y', ey, ry⟩ := vals_back r2 hy
    have new : ObjOk X.prog X.w (upd H T (.tup [.str ⟨#[c]⟩, y'])) h' T (.tup [.str ⟨#[c]⟩, y']) :=
      ⟨by show 2 ≤ sizeLine; decide, [.str ⟨#[c]⟩ u, y], .cons ⟨_, rfl⟩ (.cons ry .nil), ht⟩
    have I1 : Inv X pins σ (upd H T (.tup [.str ⟨#[c]⟩, y'])) { s with heap := h', toks := tk } :=
      I.turnedNew (ch := [z, ti, to, i1, i2]) (fun b o hb e => hk b o (fun q => hb (by simp only [List.mem_cons, List.not_mem_nil, or_false] at q ⊢; rcases q with q | q | q | q <;> simp [q])) e) hf hT new
    refine ⟨.ref T, _, I1, rfl, ⟨T, c, y', rfl, I.hok.fresh hT, rfl, hx, fun l hl => by rw [I.tuple_inj hl t2]; exact ey⟩, ⟨by omega, st3, st4, st5, st6, st7.1⟩, fun b hb => ?_⟩
    have hlt : b < s.heap.objs.size := by
      obtain ⟨x0, y0, q3⟩ := q3
      simp only [List.mem_cons, List.not_mem_nil, or_false] at hb
      rcases hb with e | e | e | e | e <;> rw [e]
      · exact Heap.lt_size q1
      · exact Heap.lt_size q2
      · exact Heap.lt_size q3
      · exact Heap.lt_size (strIt_obj q4).choose_spec.1
      · exact Heap.lt_size (tupIt_obj q5).choose_spec.1
    rw [upd_ne (Nat.ne_of_lt (Nat.lt_of_lt_of_le hlt hT))]
    exact (hf b hb).1
  done := by
    intro X hP hw hK hc i pins s σ H E I hf st hg
    subst hP hw hK
    obtain ⟨q0, q1, q2, q3, q4, q5⟩ := id st
    obtain ⟨ys, t2, hm, hi⟩ := hg
    obtain ⟨vs, r2, p2, _⟩ := I.tuple t2
    have l2 := r2.length
    have hd : X.A.in1.handled = none := I.ok.hd hc
    have W := GoesN.zip2 (prog := X.prog) (w := X.w) (A := X.A) (elts := el) (x1 := kk) (pos := tp) S (Draws.text hd i1 x t) (Draws.tuple hd i2 b n2 vs.toArray)
    have en : i = min x.cps.size vs.toArray.size := by simp only [List.size_toArray]; omega
    refine W.stops s _ _ ?_ fun h' tk hk htk => ?_
    · rw [← en]
      exact ⟨q1, q2, q3, q4, ⟨q5, p2⟩⟩
    · exact I.turnedL (t' := tk) (ch := [z, ti, to, i1, i2]) (fun b o hb e => hk b o (fun q => hb (by simp only [List.mem_cons, List.not_mem_nil, or_false] at q ⊢; rcases q with q | q | q | q <;> simp [q])) e) hf
  self := fun _ _ _ _ _ st h => wpAny_pyIter_zip st.2.1 h
def iZs (K : PySem.W.Frag) (ta : TA) : TI := fun σ H R => ta σ H fun vs H1 => ∃ (x : Str) (b : Addr) (ys : List V), vs = [.str x, .ref b] ∧ SqT K H1 b ys ∧ R (Izs K x b (min x.cps.size ys.length)) H1
theorem pi_zs (hg : Gl X "zip") (hm : X.mg "zip" = none) (ha : PA X [e, e2] ta) (hs : starEach [e, e2] X.env = (false, eval e X.env) :: starEach [e2] X.env) (hpl : (backTo pos (starEach [e2] X.env)).any (·.1) = false) :
    PI X (.Tuple el kk tpos) (.Call (.Name "zip" p) [e, e2] [] pos) (iZs X.K ta) := by
  refine ⟨fun pins s σ H R I h => ?_⟩
  refine Call_ (ld_blt I hg hm PyProof.Rows.boot_zip ?_)
  refine PyProof.Rows.callWith_type1 (thn (ha.run pos pins s σ H _ I h) fun us s1 ⟨vs, H1, I1, r1, q1⟩ => ?_) hs hpl
  obtain ⟨x, b, ys, rfl, t2, q⟩ := q1
  obtain ⟨u1, us1, rfl, w1, rr⟩ := vals_split r1
  obtain ⟨u2, us2, rfl, w2, rr⟩ := vals_split rr
  cases rr
  obtain ⟨t, rfl⟩ := w1
  obtain rfl : u2 = Value.ref b := w2
  obtain ⟨vs, rv2, p2, _⟩ := I1.tuple t2
  have sz : ∀ {x : Addr} {its : Array Value}, s1.heap.IsTuple x its → x < s1.heap.objs.size := fun ⟨o, ho, _⟩ => Heap.lt_size ho
  have lb := sz (its := vs.toArray) p2
  refine zip_begins2 (begins_text x t) (begins_tuple b vs.toArray) trivial p2 fun h' hz hI hO g1 g2 hsz hk => wpAny_pyIter_zip hz ?_
  have I2 : Inv X pins σ H1 { s1 with heap := h' } := I1.kept (t' := s1.toks) hk
  refine ⟨s1.heap.objs.size + 4, [s1.heap.objs.size + 4, s1.heap.objs.size + 2, s1.heap.objs.size + 3, s1.heap.objs.size, s1.heap.objs.size + 1], _, _, H1, rfl, I2,
    turn_zs (t := t) (zip_sep2 (fp1 := []) (fun x hx => nomatch hx) (fun x hx => by rw [List.mem_singleton.mp hx]; exact lb)) (Nat.ne_of_lt (Nat.lt_succ_of_lt lb)),
    ⟨Nat.zero_le _, hz, hI, ⟨_, _, hO⟩, ⟨_, g1, rfl, rfl⟩, ⟨_, g2, rfl, rfl⟩⟩, fp_new I1 fun b hb => ?_, q⟩
  simp only [List.mem_cons, List.not_mem_nil, or_false] at hb
  rcases hb with z | z | z | z | z <;> rw [z] <;> first | exact Nat.le_refl _ | exact Nat.le_add_right _ _
end
end Nd
/-! Nf3: repr of data. -/
namespace Nd
open PySem PySem.Spec PyProof.Rows L2
theorem smPs_all : ∀ {xs : List PyData}, smPs xs = true ↔ ∀ x ∈ xs, smP x = true
  | [] => ⟨(fun _ x hx => nomatch hx), fun _ => rfl⟩
  | x :: xs => by
    show (smP x && smPs xs) = true ↔ _
    rw [Bool.and_eq_true, smPs_all, List.forall_mem_cons]
theorem int_len {i : Int} (h : i.natAbs < 10 ^ 40) : (PyData.shown (.int i)).length ≤ 42 := by
  have e := int_text_length_le10 (k := 40) (by decide) h
  show (Str.ofString (toString i)).length ≤ 42
  rw [PySem.ofString_length]
  omega
theorem log_small {i : Int} (h : i.natAbs < 10 ^ 40) : i.natAbs.log2 < 1920 := by
  by_cases z : i.natAbs = 0
  · rw [z]; decide
  · rw [Nat.log2_lt z]
    exact Nat.lt_trans h (by decide)
mutual
theorem sm_show : ∀ p : PyData, smP p = true → p.showable = true
  | .none, _ => rfl
  | .bool _, _ => rfl
  | .str _, _ => rfl
  | .int i, h => decide_eq_true (log_small (of_decide_eq_true h))
  | .list xs, h => sm_shows xs h
  | .tuple xs, h => sm_shows xs h
  | .dict _, h => nomatch (show false = true from h)
theorem sm_shows : ∀ xs : List PyData, smPs xs = true → PyData.showableAll xs = true
  | [], _ => rfl
  | x :: xs, h => by
    obtain ⟨h1, h2⟩ := Bool.and_eq_true_iff.mp (show (smP x && smPs xs) = true from h)
    show (_ && _) = true
    rw [sm_show x h1, sm_shows xs h2]; rfl
end
mutual
theorem sm_short : ∀ p : PyData, smP p = true → p.canLay0 = true → p.leavesShort 42 = true
  | .none, _, _ => rfl
  | .bool _, _, _ => rfl
  | .str x, _, c => by
    have c : PyData.strOk x = true := c
    show (x.cps.toList.all fun c => decide (c < 16 ^ 8)) = true
    unfold PyData.strOk at c
    rw [← Array.all_toList] at c
    rw [List.all_eq_true] at c ⊢
    intro y hy
    have := of_decide_eq_true (c y hy)
    exact decide_eq_true (Nat.lt_trans this (by decide))
  | .int i, h, _ => decide_eq_true (int_len (of_decide_eq_true h))
  | .list xs, h, c => sm_shorts xs h c
  | .tuple xs, h, c => sm_shorts xs h c
  | .dict _, h, _ => nomatch (show false = true from h)
theorem sm_shorts : ∀ xs : List PyData, smPs xs = true → PyData.canLayAll0 xs = true → PyData.leavesShortAll 42 xs = true
  | [], _, _ => rfl
  | x :: xs, h, c => by
    obtain ⟨h1, h2⟩ := Bool.and_eq_true_iff.mp (show (smP x && smPs xs) = true from h)
    obtain ⟨c1, c2⟩ := Bool.and_eq_true_iff.mp (show (PyData.canLay0 x && PyData.canLayAll0 xs) = true from c)
    show (_ && _) = true
    rw [sm_short x h1 c1, sm_shorts xs h2 c2]; rfl
end
/-! ### its signs -/
theorem ok_iff {x : Str} : PyData.strOk x = true ↔ ∀ c ∈ x.cps.toList, c < 0x110000 := by
  unfold PyData.strOk
  rw [← Array.all_toList, List.all_eq_true]
  exact ⟨fun h c hc => of_decide_eq_true (h c hc), fun h c hc => decide_eq_true (h c hc)⟩
theorem ok_app {x y : Str} (a : PyData.strOk x = true) (b : PyData.strOk y = true) : PyData.strOk (x ++ y) = true := by
  rw [ok_iff] at a b ⊢
  intro c hc
  have hc : c ∈ (x.cps ++ y.cps).toList := hc
  rw [Array.toList_append] at hc
  exact (List.mem_append.mp hc).elim (a c) (b c)
theorem ok_of (s : String) : PyData.strOk (Str.ofString s) = true := by
  rw [ok_iff]
  intro c hc
  have hc : c ∈ (s.toList.map Char.toNat) := by
    rw [← signs_ofString]
    exact hc
  obtain ⟨d, _, rfl⟩ := List.mem_map.mp hc
  have := d.valid
  rcases this with h | ⟨_, h⟩
  · exact Nat.lt_trans h (by decide)
  · exact h
theorem ok_from : ∀ (ts : List Str) (k : Nat) (acc : Str), (∀ t ∈ ts, PyData.strOk t = true) → PyData.strOk acc = true → PyData.strOk (textFrom k acc ts) = true
  | [], _, _, _, h => h
  | t :: ts, k, acc, h, ha => by
    refine ok_from ts (k + 1) _ (fun u hu => h u (List.mem_cons_of_mem _ hu)) (ok_app (ok_app ha (ok_of _)) (h t List.mem_cons_self))
theorem ok_join : ∀ (ts : List Str), (∀ t ∈ ts, PyData.strOk t = true) → PyData.strOk (Str.join ", " ts) = true
  | [], _ => by decide +kernel
  | [t], h => h t List.mem_cons_self
  | t :: u :: ts, h => by
    have ih := ok_join (u :: ts) fun v hv => h v (List.mem_cons_of_mem _ hv)
    exact ok_app (ok_app (h t List.mem_cons_self) (ok_of _)) ih
theorem ok_chr {q c : Nat} (hq : q < 0x110000) (hc : c < 0x110000) : ∀ d ∈ Builtin.Str.reprChar q c, d < 0x110000 := by
  have hex : ∀ (n : Nat) (d : Nat), d ∈ (List.replicate (n - ((Nat.toDigits 16 c).map Char.toNat).length) 48 ++ (Nat.toDigits 16 c).map Char.toNat) → d < 0x110000 := by
    intro n d hd
    rcases List.mem_append.mp hd with z | z
    · rw [(List.mem_replicate.mp z).2]; decide
    · obtain ⟨e, _, rfl⟩ := List.mem_map.mp z
      rcases e.valid with h | ⟨_, h⟩
      · exact Nat.lt_trans h (by decide)
      · exact h
  intro d hd
  unfold Builtin.Str.reprChar at hd
  simp only at hd
  split at hd
  · simp at hd; omega
  split at hd
  · simp at hd; omega
  split at hd
  · simp at hd; omega
  split at hd
  · simp at hd; omega
  split at hd
  · simp at hd; omega
  have two : ∀ (a b n : Nat), a < 0x110000 → b < 0x110000 → d ∈ ([a, b] ++ (List.replicate (n - ((Nat.toDigits 16 c).map Char.toNat).length) 48 ++ (Nat.toDigits 16 c).map Char.toNat)) → d < 0x110000 := by
    intro a b n ha hb h
    rcases List.mem_append.mp h with z | z
    · simp at z; omega
    · exact hex n d z
  split at hd
  · exact two _ _ 2 (by decide) (by decide) hd
  split at hd
  · exact two _ _ 4 (by decide) (by decide) hd
  · exact two _ _ 8 (by decide) (by decide) hd
theorem ok_text {x : Str} (h : PyData.strOk x = true) : PyData.strOk (reprText x) = true := by
  have hq : reprQuote x < 0x110000 := by
    unfold reprQuote
    split <;> decide
  have fold : ∀ (l : List Nat) (acc : Array Nat), (∀ c ∈ l, c < 0x110000) → (∀ c ∈ acc.toList, c < 0x110000) → ∀ c ∈ (l.foldl (fun out c => out ++ (Builtin.Str.reprChar (reprQuote x) c).toArray) acc).toList, c < 0x110000 := by
    intro l
    induction l with
    | nil => exact fun acc _ h => h
    | cons a l ih =>
      intro acc h1 h2
      refine ih _ (fun c hc => h1 c (List.mem_cons_of_mem _ hc)) fun c hc => ?_
      rw [Array.toList_append] at hc
      rcases List.mem_append.mp hc with z | z
      · exact h2 c z
      · exact ok_chr hq (h1 a List.mem_cons_self) c (by simpa using z)
  rw [ok_iff] at h ⊢
  intro c hc
  unfold reprText at hc
  rw [← Array.foldl_toList] at hc
  have hc : c ∈ (Array.push _ (reprQuote x)).toList := hc
  rw [Array.toList_push] at hc
  rcases List.mem_append.mp hc with z | z
  · exact fold _ _ h (fun d hd => by simp at hd; rw [hd]; exact hq) c z
  · rw [List.mem_singleton.mp z]; exact hq
mutual
theorem ok_shown : ∀ p : PyData, p.canLay0 = true → PyData.strOk p.shown = true
  | .none, _ => by rw [PyData.shown_none]; exact ok_of _
  | .bool b, _ => by rw [PyData.shown_bool]; cases b <;> exact ok_of _
  | .int i, _ => by rw [PyData.shown_int]; exact ok_of _
  | .str x, h => by rw [PyData.shown_str]; exact ok_text h
  | .list xs, h => by
    rw [PyData.shown_list]
    exact ok_app (ok_app (ok_of _) (ok_join _ (ok_showns xs h))) (ok_of _)
  | .tuple xs, h => by
    rw [PyData.shown_tuple]
    exact ok_app (ok_app (ok_of _) (ok_join _ (ok_showns xs h))) (ok_of _)
  | .dict _, h => by cases h
theorem ok_showns : ∀ xs : List PyData, PyData.canLayAll0 xs = true → ∀ t ∈ PyData.shownAll xs, PyData.strOk t = true
  | [], _, t, ht => by rw [PyData.shownAll_nil] at ht; cases ht
  | x :: xs, h, t, ht => by
    obtain ⟨h1, h2⟩ := Bool.and_eq_true_iff.mp (show (PyData.canLay0 x && PyData.canLayAll0 xs) = true from h)
    rw [PyData.shownAll_cons] at ht
    rcases List.mem_cons.mp ht with e | ht
    · rw [e]; exact ok_shown x h1
    · exact ok_showns xs h2 t ht
end
theorem sm_size {p : PyData} (h : smP p = true) (c : p.canLay0 = true) (w : p.weight ≤ 300000) : p.shown.length ≤ sizeLine := by
  have e := PyData.shown_le 42 (by decide) p (sm_short p h c)
  have : (42 + 2) * p.weight ≤ 44 * 300000 := Nat.mul_le_mul (by decide) w
  have z : sizeLine = 16777216 := rfl
  omega
end Nd
/-! Nf5: enumerate of a tuple. -/
namespace Nd
open PySem PySem.Spec PyProof.Rows L2
theorem meets_enum1 {v : Value} {o : Obj} {H : Heap → Prop} (B : Begins v o H) :
    Meets (Builtin.«enumerate.__new__» ⟨[.type "enumerate", v], []⟩) (fun _ R s => H s.heap ∧
      R (.ok (.ret (.ref (s.heap.push o).objs.size))) { s with heap := (s.heap.push o).push { cls := .type "enumerate", data := .fields #[.none, .bool false, .ref s.heap.objs.size, rawInt 0, .none, .none] } }) :=
  .of_wp fun prog w A R s h => by
    obtain ⟨hp, g, d, tk, os⟩ := s
    obtain ⟨w1, h⟩ := h
    have hsub := sub_enumerate
    have it1 : ∀ {A' : Around} {E : Value → Shared → Prop} {Q : Value → Shared → Prop}, Q (.ref hp.objs.size) ⟨hp.push o, g, d, tk, os⟩ → wpAny (model prog w) A' (pyIter v) Q E ⟨hp, g, d, tk, os⟩ :=
      fun q => B.iter prog w _ _ ⟨hp, g, d, tk, os⟩ _ w1 q
    wp_walk using it1
    refine wpAny_stack_any fun st => wpAny_pure ?_
    split
    · rename_i c _ _ _ _ _
      cases (c == Value.type "enumerate")
      all_goals (wp_walk using it1; exact ⟨_, rfl, h⟩)
    · wp_walk using it1
      exact ⟨_, rfl, h⟩
theorem enum_new {prog : Program} {w : World} {A : Around} {E : Value → Shared → Prop} {s : Shared} {v : Value} {o : Obj} {H : Heap → Prop} {Q : Value → Shared → Prop} (B : Begins v o H) (h1 : H s.heap)
    (h : ∀ h', IsEnum h' (s.heap.objs.size + 1) s.heap.objs.size 0 .none → h'.get? s.heap.objs.size = some o → h'.objs.size = s.heap.objs.size + 2 → (∀ b o, s.heap.get? b = some o → h'.get? b = some o) → Q (.ref (s.heap.objs.size + 1)) { s with heap := h' }) :
    wpAny (model prog w) A (call (.type "enumerate") [v]) Q E s := by
  refine callType_new F.called_enumerate (by decide) (F.typeCall_enumerate_1 _) (F.newCall_enumerate_1 _) (fun obj => F.args_object_init_2 obj _) F.entry_enumerate_new (meets_enum1 B) ⟨h1, ?_⟩
  have z : (s.heap.push o).objs.size = s.heap.objs.size + 1 := Heap.size_push ..
  show _ ∧ _
  rw [z]
  have at1 := Heap.get?_push_size (s.heap.push o) (o := { cls := .type "enumerate", data := .fields #[.none, .bool false, .ref s.heap.objs.size, rawInt 0, .none, .none] }) rfl
  rw [z] at at1
  have he : IsEnum ((s.heap.push o).push { cls := .type "enumerate", data := .fields #[.none, .bool false, .ref s.heap.objs.size, rawInt 0, .none, .none] }) (s.heap.objs.size + 1) s.heap.objs.size 0 .none := at1
  exact ⟨⟨_, he, rfl⟩, h _ he (Heap.get?_push_of_some _ (Heap.get?_push_size _ B.free)) (by rw [Heap.size_push, z]) fun b o x => Heap.get?_push_of_some _ (Heap.get?_push_of_some _ x)⟩
/-- a tuple's items with their numbers, m of them -/
def Iet (K : PySem.W.Frag) (b : Addr) (m : Nat) : It :=
  ⟨fun i H => ∃ ys : List V, SqT K H b ys ∧ ys.length = m ∧ i < m,
   fun i H v H' => ∃ (T : Addr) (y : V), v = .ref T ∧ H T = none ∧ H' = upd H T (.tup [.int (i : Nat), y]) ∧ ∀ ys, SqT K H b ys → ys[i]? = some y,
   fun i H => ∃ ys : List V, SqT K H b ys ∧ ys.length = m ∧ m ≤ i⟩
section
variable {el : List Expr} {kk : Nat}
theorem turn_et {P : Program} {w : World} {K : PySem.W.Frag} {tp : Pos} {b e it : Addr} {m : Nat} (n1 : e ≠ it) (n2 : e ∉ [it, b]) (n3 : b ≠ it) :
    Turn P w K (.Tuple el kk tp) (Iet K b m) [e, it] e fun i h => i ≤ m ∧ (∃ old, IsEnum h e it (0 + (i : Int)) old) ∧ h.IsTupleIter it b i where
  mem := by simp
  obj := by
    rintro i h ⟨_, ⟨old, q1⟩, q2⟩ b' hb'
    simp only [List.mem_cons, List.not_mem_nil, or_false] at hb'
    rcases hb' with z | z <;> rw [z]
    · exact ⟨_, q1, fun v q => nomatch q⟩
    · exact tupIt_obj q2
  keep := by
    rintro i h h' ⟨q0, ⟨old, q1⟩, q2⟩ k
    exact ⟨q0, ⟨old, k e (by simp) _ q1⟩, q2.at fun o q => k it (by simp) o q⟩
  item := by
    intro X hP hw hK hc i pins s σ H E I hf st hg
    subst hP hw hK
    obtain ⟨q0, q1, q2⟩ := id st
    obtain ⟨ys, t2, hm, hi⟩ := hg
    obtain ⟨vs, r2, p2, _⟩ := I.tuple t2
    have l2 := r2.length
    have hd : X.A.in1.handled = none := I.ok.hd hc
    have W := GoesN.enumFrom (prog := X.prog) (w := X.w) (A := X.A) (elts := el) (x1 := kk) (pos := tp) 0 (Draws.tuple hd it b n3 vs.toArray) e n1 n2 (by simp)
    refine W.goes i s _ _ (by simp only [List.size_toArray]; omega) ⟨q1, q2, p2⟩ fun v h' tk hY st2 hk htk => ?_
    obtain ⟨T, t, y, rfl, hT, hy, ht⟩ := hY
    obtain ⟨st3, st4⟩ := st2
    have hy : vs[i]? = some y := by simpa using hy
    obtain ⟨y', ey, ry⟩ := vals_back r2 hy
    have ei : (0 : Int) + (i : Int) = ((i : Nat) : Int) := by omega
    rw [ei] at ht
    have new : ObjOk X.prog X.w (upd H T (.tup [.int (i : Nat), y'])) h' T (.tup [.int (i : Nat), y']) :=
      ⟨by show 2 ≤ sizeLine; decide, [.int (i : Nat) t, y], .cons ⟨_, rfl⟩ (.cons ry .nil), ht⟩
    have I1 : Inv X pins σ (upd H T (.tup [.int (i : Nat), y'])) { s with heap := h', toks := tk } := I.turnedNew (ch := [e, it]) hk hf hT new
    refine ⟨.ref T, _, I1, rfl, ⟨T, y', rfl, I.hok.fresh hT, rfl, fun l hl => by rw [I.tuple_inj hl t2]; exact ey⟩, ⟨by omega, st3, st4.1⟩, fun b hb => ?_⟩
    have hlt : b < s.heap.objs.size := by
      obtain ⟨old, q1⟩ := q1
      simp only [List.mem_cons, List.not_mem_nil, or_false] at hb
      rcases hb with z | z <;> rw [z]
      · exact Heap.lt_size q1
      · exact Heap.lt_size (tupIt_obj q2).choose_spec.1
    rw [upd_ne (Nat.ne_of_lt (Nat.lt_of_lt_of_le hlt hT))]
    exact (hf b hb).1
  done := by
    intro X hP hw hK hc i pins s σ H E I hf st hg
    subst hP hw hK
    obtain ⟨q0, q1, q2⟩ := id st
    obtain ⟨ys, t2, hm, hi⟩ := hg
    obtain ⟨vs, r2, p2, _⟩ := I.tuple t2
    have l2 := r2.length
    have hd : X.A.in1.handled = none := I.ok.hd hc
    have W := GoesN.enumFrom (prog := X.prog) (w := X.w) (A := X.A) (elts := el) (x1 := kk) (pos := tp) 0 (Draws.tuple hd it b n3 vs.toArray) e n1 n2 (by simp)
    have en : i = vs.toArray.size := by simp only [List.size_toArray]; omega
    refine W.stops s _ _ ?_ fun h' tk hk htk => I.turnedL (t' := tk) (ch := [e, it]) hk hf
    rw [← en]
    exact ⟨q1, q2, p2⟩
  self := fun _ _ _ _ _ st h => by
    obtain ⟨_, ⟨old, he⟩, _⟩ := st
    exact wpAny_pyIter_enum he h
variable {X : Cx} {e : Expr} {ta : TA} {p pos tpos : Pos}
def iEt (K : PySem.W.Frag) (ta : TA) : TI := fun σ H R => ta σ H fun vs H1 => ∃ (b : Addr) (ys : List V), vs = [.ref b] ∧ SqT K H1 b ys ∧ R (Iet K b ys.length) H1
theorem pi_et (hg : Gl X "enumerate") (hm : X.mg "enumerate" = none) (ha : PA X [e] ta) (hs : starEach [e] X.env = (false, eval e X.env) :: starEach [] X.env) :
    PI X (.Tuple el kk tpos) (.Call (.Name "enumerate" p) [e] [] pos) (iEt X.K ta) := by
  refine ⟨fun pins s σ H R I h => ?_⟩
  refine Call_ (ld_blt I hg hm (u := .type "enumerate") (by decide +kernel) ?_)
  refine PyProof.Rows.callWith_type1 (thn (ha.run pos pins s σ H _ I h) fun us s1 ⟨vs, H1, I1, r1, q1⟩ => ?_) hs rfl
  obtain ⟨b, ys, rfl, t2, q⟩ := q1
  obtain ⟨u1, us1, rfl, w1, rr⟩ := vals_split r1
  cases rr
  obtain rfl : u1 = Value.ref b := w1
  obtain ⟨vs, rv2, p2, _⟩ := I1.tuple t2
  have sz : ∀ {x : Addr} {its : Array Value}, s1.heap.IsTuple x its → x < s1.heap.objs.size := fun ⟨o, ho, _⟩ => Heap.lt_size ho
  have lb := sz (its := vs.toArray) p2
  refine enum_new (begins_tuple b vs.toArray) p2 fun h' he g1 hsz hk => wpAny_pyIter_enum he ?_
  have I2 : Inv X pins σ H1 { s1 with heap := h' } := I1.kept (t' := s1.toks) hk
  refine ⟨s1.heap.objs.size + 1, [s1.heap.objs.size + 1, s1.heap.objs.size], _, _, H1, rfl, I2,
    turn_et (Nat.ne_of_gt (Nat.lt_succ_self _)) (fun z => ?_) (Nat.ne_of_lt lb), ⟨Nat.zero_le _, ⟨_, he⟩, ⟨_, g1, rfl, rfl⟩⟩, fp_new I1 fun b hb => ?_, q⟩
  · simp only [List.mem_cons, List.not_mem_nil, or_false] at z
    rcases z with z | z
    · exact absurd z (Nat.ne_of_gt (Nat.lt_succ_self _))
    · rw [← z] at lb
      exact absurd (Nat.lt_of_succ_lt lb) (Nat.lt_irrefl _)
  · simp only [List.mem_cons, List.not_mem_nil, or_false] at hb
    rcases hb with z | z <;> rw [z] <;> first | exact Nat.le_refl _ | exact Nat.le_add_right _ _
end
end Nd
/-! Nf4: repr, zip of three, zip of a text, xs[::-1] as parts of the small syntax. -/
namespace Nd
open PySem PySem.Spec PyProof.Rows L2
section
variable {X : Cx} {G : Nat → Addr} {W : WX} {C : Ca} {c : Cf} {sc : Scope} {n : Nat}
theorem c_repr (hg : X.A.guards = some []) (hu : X.A.units + 70 < cLine) : CallR X (.builtin "repr") (lcall X.K G fun ds h q => biV C.exm .repr1 ds h q) := by
  intro pins s σ H xs us Q I r ⟨ds, h, q, rd, rh, hr, k⟩
  match ds, rd, hr with
  | [d], rd, hr =>
    obtain ⟨v, rfl, r1⟩ := rds1 rd
    obtain ⟨p, hp, ⟨hrp, hs⟩, hw, hd, hq⟩ := (show ∃ p, Py h d p ∧ (rpP p = true ∧ smP p = true) ∧ p.weight ≤ 300000 ∧ p.depth ≤ 64 ∧ q (.str p.shown) h from hr)
    obtain ⟨u, rfl, ru⟩ := vals1 r
    have lay := Py.lay rh hp r1
    have sg : StrG p.shown := ⟨sm_size hs lay hw, ok_shown p lay⟩
    obtain ⟨as, rr⟩ := Dp.reads I p v u (Py.dp rh hp r1) ru
    have hsm : p.hasDict = true → sysModules ∉ as := PyData.noDict_hsm (PyData.hasDict_of_canLay p lay)
    have hsh := sm_show p hs
    have fin : ∀ h' tk t, (∀ b o, s.heap.get? b = some o → h'.get? b = some o) → EP X pins σ Q (.str p.shown t) { s with heap := h', toks := tk } := fun h' tk t hk =>
      ⟨.str p.shown, H, I.kept hk, ⟨t, rfl⟩, k _ _ _ _ Fx.refl (.str _ sg) rh hq⟩
    cases hp with
    | int i =>
      cases r1
      obtain ⟨t, rfl⟩ := ru
      exact PySem.P.repr_of_int (log_small (of_decide_eq_true hs)) (fin s.heap _ _ fun _ _ e => e)
    | str x =>
      cases r1
      obtain ⟨t, rfl⟩ := ru
      exact PySem.P.repr_of_str (by have e := fin s.heap (s.toks + 1) s.toks fun _ _ e => e; rw [PyData.shown_str] at e; exact e) (by have := sg.1; rw [PyData.shown_str] at this; exact this)
    | tup z =>
      cases r1
      obtain rfl : u = Value.ref _ := ru
      exact repr_of_reads' rr hsh hsm hg (by omega) (fun _ _ e => e) (fun h' t tk hk => fin h' tk t hk) sg.1
    | lst e z =>
      cases r1
      obtain rfl : u = Value.ref _ := ru
      exact repr_of_reads' rr hsh hsm hg (by omega) (fun _ _ e => e) (fun h' t tk hk => fin h' tk t hk) sg.1
    | kls z =>
      cases r1
      obtain rfl : u = Value.ref _ := ru
      exact repr_of_reads' rr hsh hsm hg (by omega) (fun _ _ e => e) (fun h' t tk hk => fin h' tk t hk) sg.1
    | non =>
      cases r1
      obtain rfl : u = Value.none := ru
      exact PySem.P.repr_of_none (by have e := fin s.heap (s.toks + 1) s.toks fun _ _ e => e; rw [PyData.shown_none] at e; exact e)
    | bl b =>
      cases r1
      obtain rfl : u = Value.bool b := ru
      exact PySem.P.repr_of_bool (by have e := fin s.heap (s.toks + 1) s.toks fun _ _ e => e; rw [PyData.shown_bool] at e; exact e)
theorem rds3 {K : PySem.W.Frag} {H : Hp} {d e f : D} {vs : List V} (r : RDs K G H [d, e, f] vs) : ∃ u v w, vs = [u, v, w] ∧ RD K G H d u ∧ RD K G H e v ∧ RD K G H f w := by
  cases r with
  | cons a r => cases r with
    | cons b r => cases r with
      | cons c r => cases r; exact ⟨_, _, _, rfl, a, b, c⟩
theorem zipL3_len {xs ys zs : List D} : (zipL3 xs ys zs).length = min (min xs.length ys.length) zs.length := by
  unfold zipL3
  rw [List.length_map, List.length_zip, List.length_zip]
  omega
theorem zipL3_get {xs ys zs : List D} {i : Nat} {x y z : D} (hx : xs[i]? = some x) (hy : ys[i]? = some y) (hz : zs[i]? = some z) : (zipL3 xs ys zs)[i]? = some (.tup [x, y, z]) := by
  unfold zipL3
  have e2 : (ys.zip zs)[i]? = some (y, z) := List.getElem?_zip_eq_some.mpr ⟨hy, hz⟩
  have e : (xs.zip (ys.zip zs))[i]? = some (x, y, z) := List.getElem?_zip_eq_some.mpr ⟨hx, e2⟩
  rw [List.getElem?_map, e]
  rfl
theorem triple_new {K : PySem.W.Frag} {H : Hp} {h : HD} {T : Addr} {x y z : V} {d e f : D} (hT : H T = none) (rh : RH K G H h) (r1 : RD K G H d x) (r2 : RD K G H e y) (r3 : RD K G H f z) :
    RD K G (upd H T (.tup [x, y, z])) (.tup [d, e, f]) (.ref T) ∧ RH K G (upd H T (.tup [x, y, z])) h ∧ Fx H h (upd H T (.tup [x, y, z])) h :=
  ⟨.tup (.inl upd_same) (by show 3 ≤ sizeLine; decide) (.cons (r1.ext (Ext.new hT)) (.cons (r2.ext (Ext.new hT)) (.cons (r3.ext (Ext.new hT)) .nil))), rh.hid hT, Fx.new hT⟩
theorem wk_z3 {K : PySem.W.Frag} {a b c : Addr} {xs ys zs : List D} {us vs ws : List V} {H0 : Hp} {h0 : HD} (t1 : TupAt K H0 a us) (r1 : RDs K G H0 xs us) (t2 : TupAt K H0 b vs) (r2 : RDs K G H0 ys vs) (t3 : TupAt K H0 c ws) (r3 : RDs K G H0 zs ws) :
    Wk K G (Iz3 K a b c (min (min us.length vs.length) ws.length)) (zipL3 xs ys zs) [] H0 h0 where
  ok := g0
  go := fun i H h hi rh fx g => by
    rw [zipL3_len] at hi
    have s1 := (t1.ext fx.ext).sq
    have s2 := (t2.ext fx.ext).sq
    have s3 := (t3.ext fx.ext).sq
    have q1 := r1.ext fx.ext
    have q2 := r2.ext fx.ext
    have q3 := r3.ext fx.ext
    have l1 := r1.len
    have l2 := r2.len
    have l3 := r3.len
    have hx := List.getElem?_eq_getElem (l := xs) (i := i) (by omega)
    have hy := List.getElem?_eq_getElem (l := ys) (i := i) (by omega)
    have hz := List.getElem?_eq_getElem (l := zs) (i := i) (by omega)
    obtain ⟨v1, e1, w1⟩ := q1.get hx
    obtain ⟨v2, e2, w2⟩ := q2.get hy
    obtain ⟨v3, e3, w3⟩ := q3.get hz
    refine ⟨⟨us, vs, ws, s1, s2, s3, rfl, by omega⟩, ?_⟩
    rintro z H' ⟨T, x, y, u, rfl, hT, rfl, f1, f2, f3⟩
    have f1 := f1 us s1
    have f2 := f2 vs s2
    have f3 := f3 ws s3
    rw [e1] at f1
    rw [e2] at f2
    rw [e3] at f3
    cases f1
    cases f2
    cases f3
    exact ⟨_, zipL3_get hx hy hz, triple_new hT rh w1 w2 w3⟩
  stop := fun i H h hi rh fx g => by
    rw [zipL3_len] at hi
    have l1 := r1.len
    have l2 := r2.len
    have l3 := r3.len
    exact ⟨us, vs, ws, (t1.ext fx.ext).sq, (t2.ext fx.ext).sq, (t3.ext fx.ext).sq, rfl, by omega⟩
theorem i_zip3 {a b c0 : Expr} {el : List Expr} {kk : Nat} {t : TAD} {p pos tpos : Pos} (hg : Gl X "zip") (hm : X.mg "zip" = none) (ha : PA X [a, b, c0] (liftA X.K G W t)) (hs : (!isStar a) = true) (hs' : (!isStar b) = true) (hs2 : (!isStar c0) = true) :
    PI X (.Tuple el kk tpos) (.Call (.Name "zip" p) [a, b, c0] [] pos) (liftP X.K G W fun σ h q r => t σ h (fun ds h1 => itK .zip3 ds h1 q) r) := by
  refine ⟨fun pins s σ H R I ⟨a, h, q, r, rs, rh, ht, k, kx⟩ => (pi_z3 hg hm ha (by rw [star1 hs, star1 hs', star1 hs2]) (by rw [star1 hs', star1 hs2]; rfl)).run pins s σ H R I ⟨a, h, _, r, rs, rh, ht, fun ds h1 vs H1 fx1 rd1 rh1 hq1 => ?_, kx⟩⟩
  match ds, rd1, hq1 with
  | [.tup xs, .tup ys, .tup zs], rd1, hq1 =>
    obtain ⟨v1, v2, v3, rfl, r1, r2, r3⟩ := rds3 rd1
    cases r1 with
    | tup t1 l1 q1 => cases r2 with
      | tup t2 l2 q2 => cases r3 with
        | tup t3 l3 q3 => exact ⟨_, _, _, _, _, _, rfl, t1.sq, t2.sq, t3.sq, k _ _ _ _ _ fx1 rh1 (wk_z3 t1 q1 t2 q2 t3 q3) (by rw [zipL3_len]; omega) hq1⟩
theorem chars_get {s : Str} {i c : Nat} (h : s.cps[i]? = some c) : (chars s)[i]? = some (.str ⟨#[c]⟩) := by
  unfold chars
  rw [List.getElem?_map, Array.getElem?_toList, h]
  rfl
theorem chars_len {s : Str} : (chars s).length = s.cps.size := by
  unfold chars
  rw [List.length_map, Array.length_toList]
theorem sign_ok {s : Str} {c i : Nat} (h : PyData.strOk s = true) (e : s.cps[i]? = some c) : StrG ⟨#[c]⟩ := by
  refine ⟨by show 1 ≤ sizeLine; decide, ?_⟩
  rw [ok_iff] at h ⊢
  intro d hd
  have hd : d ∈ [c] := hd
  rw [List.mem_singleton.mp hd]
  exact h c (by
    rw [← Array.getElem?_toList] at e
    exact List.mem_of_getElem? e)
theorem wk_zs {K : PySem.W.Frag} {s : Str} {b : Addr} {ys : List D} {vs : List V} {H0 : Hp} {h0 : HD} (hs : PyData.strOk s = true) (t2 : TupAt K H0 b vs) (r2 : RDs K G H0 ys vs) : Wk K G (Izs K s b (min s.cps.size vs.length)) (zipL (chars s) ys) [] H0 h0 where
  ok := g0
  go := fun i H h hi rh fx g => by
    rw [zipL_len, chars_len] at hi
    have s2 := (t2.ext fx.ext).sq
    have q2 := r2.ext fx.ext
    have l2 := r2.len
    have hy := List.getElem?_eq_getElem (l := ys) (i := i) (by omega)
    obtain ⟨v2, e2, w2⟩ := q2.get hy
    refine ⟨⟨vs, s2, rfl, by omega⟩, ?_⟩
    rintro z H' ⟨T, c, y, rfl, hT, rfl, f1, f2⟩
    have f2 := f2 vs s2
    rw [e2] at f2
    cases f2
    exact ⟨_, zipL_get (chars_get f1) hy, pair_new hT rh (.str _ (sign_ok hs f1)) w2⟩
  stop := fun i H h hi rh fx g => by
    rw [zipL_len, chars_len] at hi
    have l2 := r2.len
    exact ⟨vs, (t2.ext fx.ext).sq, rfl, by omega⟩
theorem i_zipS {a b : Expr} {el : List Expr} {kk : Nat} {t : TAD} {p pos tpos : Pos} (hg : Gl X "zip") (hm : X.mg "zip" = none) (ha : PA X [a, b] (liftA X.K G W t)) (hs : (!isStar a) = true) (hs' : (!isStar b) = true) :
    PI X (.Tuple el kk tpos) (.Call (.Name "zip" p) [a, b] [] pos) (liftP X.K G W fun σ h q r => t σ h (fun ds h1 => itK .zipS ds h1 q) r) := by
  refine ⟨fun pins s σ H R I ⟨a, h, q, r, rs, rh, ht, k, kx⟩ => (pi_zs hg hm ha (by rw [star1 hs, star1 hs']) (by rw [star1 hs']; rfl)).run pins s σ H R I ⟨a, h, _, r, rs, rh, ht, fun ds h1 vs H1 fx1 rd1 rh1 hq1 => ?_, kx⟩⟩
  match ds, rd1, hq1 with
  | [.str s, .tup ys], rd1, hq1 =>
    obtain ⟨v1, v2, rfl, r1, r2⟩ := rds2 rd1
    cases r1 with
    | str _ g => cases r2 with
      | tup t2 l2 q2 => exact ⟨_, _, _, rfl, t2.sq, k _ _ _ _ _ fx1 rh1 (wk_zs g.2 t2 q2) (by rw [zipL_len]; omega) hq1⟩
theorem enumL_len {xs : List D} : (enumL xs).length = xs.length := by
  unfold enumL
  rw [List.length_map, List.length_zipIdx]
theorem enumL_get {xs : List D} {i : Nat} {x : D} (h : xs[i]? = some x) : (enumL xs)[i]? = some (.tup [.int (i : Nat), x]) := by
  unfold enumL
  rw [List.getElem?_map, List.getElem?_zipIdx, h]
  simp
theorem wk_et {K : PySem.W.Frag} {b : Addr} {ys : List D} {vs : List V} {H0 : Hp} {h0 : HD} (t2 : TupAt K H0 b vs) (r2 : RDs K G H0 ys vs) : Wk K G (Iet K b vs.length) (enumL ys) [] H0 h0 where
  ok := g0
  go := fun i H h hi rh fx g => by
    rw [enumL_len] at hi
    have s2 := (t2.ext fx.ext).sq
    have q2 := r2.ext fx.ext
    have l2 := r2.len
    have hy := List.getElem?_eq_getElem (l := ys) (i := i) (by omega)
    obtain ⟨v2, e2, w2⟩ := q2.get hy
    refine ⟨⟨vs, s2, rfl, by omega⟩, ?_⟩
    rintro z H' ⟨T, y, rfl, hT, rfl, f2⟩
    have f2 := f2 vs s2
    rw [e2] at f2
    cases f2
    exact ⟨_, enumL_get hy, pair_new hT rh (.int _) w2⟩
  stop := fun i H h hi rh fx g => by
    rw [enumL_len] at hi
    have l2 := r2.len
    exact ⟨vs, (t2.ext fx.ext).sq, rfl, by omega⟩
theorem i_enumT {a : Expr} {el : List Expr} {kk : Nat} {t : TAD} {p pos tpos : Pos} (hg : Gl X "enumerate") (hm : X.mg "enumerate" = none) (ha : PA X [a] (liftA X.K G W t)) (hs : (!isStar a) = true) :
    PI X (.Tuple el kk tpos) (.Call (.Name "enumerate" p) [a] [] pos) (liftP X.K G W fun σ h q r => t σ h (fun ds h1 => itK .enumT ds h1 q) r) := by
  refine ⟨fun pins s σ H R I ⟨a, h, q, r, rs, rh, ht, k, kx⟩ => (pi_et hg hm ha (by rw [star1 hs])).run pins s σ H R I ⟨a, h, _, r, rs, rh, ht, fun ds h1 vs H1 fx1 rd1 rh1 hq1 => ?_, kx⟩⟩
  match ds, rd1, hq1 with
  | [.tup ys], rd1, hq1 =>
    obtain ⟨v1, rfl, r1⟩ := rds1 rd1
    cases r1 with
    | tup t2 l2 q2 => exact ⟨_, _, rfl, t2.sq, k _ _ _ _ _ fx1 rh1 (wk_et t2 q2) (by rw [enumL_len]; exact l2) hq1⟩
/-! ### xs[::-1] -/
theorem p_rvs {a : Expr} {te : TED} {k : Nat} {p1 p2 p3 pos : Pos} (ha : PE X a (lift X.K G W te)) : PE X (.Subscript a (.Slice none none (some (.UnaryOp .USub (.Constant (.int 1) k p1) p2)) p3) pos) (lift X.K G W fun σ h q r => te σ h (fun x h1 => rvsV x h1 q) r) :=
  PE.imp (pe_revL ha) fun σ H Q ⟨a, h, q, r, rs, rh, ht, k, kx⟩ => ⟨a, h, _, r, rs, rh, ht, fun d h1 v1 H1 fx1 rd1 rh1 hq1 => by
    cases rd1 with
    | @kls a vs xs t g2 g3 =>
      exact ⟨a, vs, rfl, t.sq, fun p np => k (.ref p) _ (.ref p) _ (fx1.trans (Fx.newM np)) (.ref p) (rh1.newL np (by rw [List.length_reverse]; exact g2) g3.rev) (hq1 p (rh1.none_of np))⟩
    | ref a =>
      unfold rvsV at hq1
      dsimp only at hq1
      split at hq1
      · rename_i xs e
        obtain ⟨vs, g1, g2, g3⟩ := rh1 a _ e
        refine ⟨a, vs, rfl, .inl (.inl g1), fun p np => k (.ref p) _ (.ref p) _ (fx1.trans (Fx.newM np)) (.ref p) (rh1.newL np (by rw [List.length_reverse]; exact g2) g3.rev) (hq1 p (rh1.none_of np))⟩
      · exact hq1.elim
    | _ => exact False.elim hq1, kx⟩
end
end Nd
/-! Nh1: things that change no more; walks of such dicts. -/
namespace Nd
open PySem PySem.Spec PyProof.Rows L2
section
variable {X : Cx} {G : Nat → Addr} {W : WX}
/-- a ghost step behind an expression: a thing is changed no more -/
theorem pe_ghost {e : Expr} {t : TE} (h : PE X e t) : PE X e (fun σ H Q => t σ H fun v H1 => Q v H1 ∨ ∃ d u, H1 d = some u ∧ Mut (some u) ∧ ∀ od, Q v (upd H1 d (.frz od u))) := by
  refine ⟨fun pins s σ H Q I hw => ?_⟩
  refine thn (h.run pins s σ H _ I hw) fun v s1 ⟨x, H1, I1, r, q⟩ => ?_
  rcases q with q | ⟨d, u, hd, mu, q⟩
  · exact ⟨x, H1, I1, r, q⟩
  · obtain ⟨od, I2⟩ := I1.lock hd mu
    exact ⟨x, _, I2, r, q od⟩
theorem Fx.fz {H : Hp} {h : HD} {a : Addr} {u : HO} {od : Obj} {m : MO} (e : h a = some m) (e2 : H a = some u) (n : ¬ Imm u) : Fx H h (upd H a (.frz od u)) (hdel h a) where
  st := fun b o q c => by
    have ne : b ≠ a := fun z => by
      subst z
      rcases c with c | c
      · rw [e] at c; cases c
      · rw [e2] at q; cases q; exact n c
    rw [upd_ne ne]; exact q
  nw := fun b _ z => by
    unfold hdel
    split
    · rfl
    · exact z
  dm := fun b z => upd_dm z
theorem RH.fz {K : PySem.W.Frag} {H : Hp} {h : HD} (r : RH K G H h) {a : Addr} {u : HO} {od : Obj} (e2 : H a = some u) (n : ¬ Imm u) : RH K G (upd H a (.frz od u)) (hdel h a) := fun b m z => by
  unfold hdel at z
  split at z
  · cases z
  · rename_i ne
    exact (r b m z).ext (Ext.wr e2 n) (upd_ne ne)
theorem rk_vals {K : PySem.W.Frag} {H : Hp} : ∀ {kvs : List (Key × D)} {vs : List (Key × V)}, RK K G H kvs vs → (kvs.map (·.1)).zip (vs.map (·.2)) = vs ∧ RDs K G H (kvs.map (·.2)) (vs.map (·.2))
  | _, _, .nil => ⟨rfl, .nil⟩
  | _, _, .cons h t => by
    obtain ⟨a, b⟩ := rk_vals t
    obtain ⟨e, r⟩ := h
    refine ⟨?_, .cons r b⟩
    rw [List.map_cons, List.map_cons, List.zip_cons_cons, a, e]
/-- what is changed no more, of a value -/
theorem frz_of {K : PySem.W.Frag} {H : Hp} {h : HD} {d : D} {v : V} {q : VQ} (r : RD K G H d v) (rh : RH K G H h) (z : frzV d h q) : (RD K G H d v ∧ q d h) ∨ ∃ a u, H a = some u ∧ Mut (some u) ∧ ∀ od, ∃ d' h', RD K G (upd H a (.frz od u)) d' v ∧ RH K G (upd H a (.frz od u)) h' ∧ Fx H h (upd H a (.frz od u)) h' ∧ q d' h' := by
  cases r with
  | ref a =>
    unfold frzV at z
    dsimp only at z
    split at z
    · rename_i xs e
      obtain ⟨vs, g1, g2, g3⟩ := rh a _ e
      refine .inr ⟨a, .lst vs, g1, trivial, fun od => ⟨_, _, .kls (.inl ⟨od, upd_same⟩) g2 (g3.ext (Ext.wr g1 fun z => z)), rh.fz g1 (fun z => z), Fx.fz e g1 (fun z => z), z⟩⟩
    · rename_i kvs e
      obtain ⟨vs, g1, g2, g3, g4⟩ := rh a _ e
      obtain ⟨w1, w2⟩ := rk_vals g3
      refine .inr ⟨a, .dK vs, g1, trivial, fun od => ⟨_, _, .kdc (xs := vs.map (·.2)) ⟨od, by rw [w1]; exact upd_same⟩ ⟨by rw [List.length_map, List.length_map], fun k hk => ?_⟩ (by rw [List.length_map]; exact g2) (w2.ext (Ext.wr g1 fun z => z)), rh.fz g1 (fun z => z), Fx.fz e g1 (fun z => z), z⟩⟩
      obtain ⟨p, hp, rfl⟩ := List.mem_map.mp hk
      exact g4 p hp
    · exact z.elim
  | non => exact .inl ⟨.non, z⟩
  | bl b => exact .inl ⟨.bl b, z⟩
  | int i => exact .inl ⟨.int i, z⟩
  | str s g => exact .inl ⟨.str s g, z⟩
  | tup t l r => exact .inl ⟨.tup t l r, z⟩
  | ty n => exact .inl ⟨.ty n, z⟩
  | glo g => exact .inl ⟨.glo g, z⟩
  | exc t => exact .inl ⟨.exc t, z⟩
  | kls t l r => exact .inl ⟨.kls t l r, z⟩
  | kdc t n l r => exact .inl ⟨.kdc t n l r, z⟩
theorem p_frz {e : Expr} {te : TED} (he : PE X e (lift X.K G W te)) : PE X e (lift X.K G W fun σ h q x => te σ h (fun d h1 => frzV d h1 q) x) :=
  PE.imp (pe_ghost he) fun σ H Q ⟨a, h, q, x, rs, rh, ht, k, kx⟩ => ⟨a, h, _, x, rs, rh, ht, fun d h1 v H1 fx rd rh1 hq => by
    rcases frz_of rd rh1 hq with ⟨_, z⟩ | ⟨b, u, e1, mu, z⟩
    · exact .inl (k _ _ _ _ fx rd rh1 z)
    · refine .inr ⟨b, u, e1, mu, fun od => ?_⟩
      obtain ⟨d', h', r1, r2, r3, r4⟩ := z od
      exact k _ _ _ _ (fx.trans r3) r1 r2 r4, kx⟩
/-- .. ahead of statements, a name's -/
theorem b_fz {l : List Stmt} {t : TSD} {i : Nat} (hb : PSs X l (liftS X.K G W t)) : PSs X l (liftS X.K G W fun D σ h => match (σ[i]?).join with
    | some d => frzV d h fun d' h' => t D (σ.set i (some d')) h'
    | none => False) := by
  refine ⟨fun pins s σ H D I ⟨a, h, Z, rs, rh, ht, k⟩ => ?_⟩
  dsimp only at ht
  split at ht
  · rename_i d ed
    have ed' : a[i]? = some (some d) := by
      cases q : a[i]? with
      | none => rw [q] at ed; cases ed
      | some z => rw [q] at ed; cases z with
        | none => cases ed
        | some y => cases ed; rfl
    obtain ⟨v, ev, rd⟩ := rs.get ed'
    have self : ∀ {σ : L2.St} {i : Nat} {v : V}, σ[i]? = some (some v) → σ.set i (some v) = σ := fun {σ i v} e => by
      apply List.ext_getElem?
      intro j
      rw [List.getElem?_set]
      split
      · rename_i q
        subst q
        split
        · exact e.symm
        · rename_i q
          rw [List.getElem?_eq_none (by omega)]
      · rfl
    rcases frz_of rd rh ht with ⟨_, z⟩ | ⟨b, u, e1, mu, z⟩
    · refine hb.run pins s σ H D I ⟨_, h, Z, ?_, rh, z, k⟩
      have := rs.set i rd
      rw [self ev] at this
      exact this
    · obtain ⟨od, I1⟩ := I.lock e1 mu
      obtain ⟨d', h', r1, r2, r3, r4⟩ := z od
      refine hb.run pins s σ _ D I1 ⟨_, h', Z, ?_, r2, r4, ?_⟩
      · have := (rs.ext r3.ext).set i r1
        rw [self ev] at this
        exact this
      · exact k.ext r3
  · exact ht.elim
/-! ### walks of dicts that stay -/
theorem wk_vals {K : PySem.W.Frag} {d : Addr} {o : Obj} {ks : List Key} {xs : List D} {vs : List V} {H0 : Hp} {h0 : HD} (hl : ks.length = xs.length) (t : H0 d = some (.frz o (.dK (ks.zip vs)))) (r : RDs K G H0 xs vs) : Wk K G (Itd d o (ks.zip vs)) xs [] H0 h0 where
  ok := g0
  go := fun i H h hi rh fx g => by
    have s1 := fx.ext _ _ t trivial
    have e1 := r.len
    refine ⟨⟨s1, by rw [zip_len (by omega)]; omega⟩, fun x H' ⟨eH, k, e⟩ => ?_⟩
    subst eH
    have e' := (List.getElem?_zip_eq_some.mp e).2
    obtain ⟨d', e2, r2⟩ := r.get' e'
    exact ⟨d', e2, r2.ext fx.ext, rh, Fx.refl⟩
  stop := fun i H h hi rh fx g => ⟨fx.ext _ _ t trivial, by have := r.len; rw [zip_len (by omega)]; omega⟩
theorem rd_key {K : PySem.W.Frag} {H : Hp} {k : Key} (g : KeyG k) : RD K G H (kD k) (kV k) := by
  cases k with
  | inl i => exact .int i
  | inr s => exact .str s g
theorem wk_items {K : PySem.W.Frag} {d : Addr} {o : Obj} {ks : List Key} {xs : List D} {vs : List V} {H0 : Hp} {h0 : HD} (n : KdG ks xs) (t : H0 d = some (.frz o (.dK (ks.zip vs)))) (r : RDs K G H0 xs vs) : Wk K G (Iti d o (ks.zip vs)) ((ks.zip xs).map fun p => .tup [kD p.1, p.2]) [] H0 h0 where
  ok := g0
  go := fun i H h hi rh fx g => by
    have s1 := fx.ext _ _ t trivial
    have e1 := r.len
    have n1 := n.len
    rw [List.length_map, zip_len n1] at hi
    refine ⟨⟨s1, by rw [zip_len (by omega)]; omega⟩, fun x H' ⟨T, k, v, e, ex, hT, eH⟩ => ?_⟩
    subst eH ex
    obtain ⟨e2, e3⟩ := List.getElem?_zip_eq_some.mp e
    obtain ⟨d', e4, r2⟩ := r.get' e3
    have ez : (ks.zip xs)[i]? = some (k, d') := List.getElem?_zip_eq_some.mpr ⟨e2, e4⟩
    obtain ⟨p1, p2, p3⟩ := pair_new hT rh (rd_key (n.key _ (List.mem_of_getElem? e2))) (r2.ext fx.ext)
    exact ⟨.tup [kD k, d'], by rw [List.getElem?_map, ez]; rfl, p1, p2, p3⟩
  stop := fun i H h hi rh fx g => ⟨fx.ext _ _ t trivial, by
    have := r.len
    have n1 := n.len
    rw [List.length_map, zip_len n1] at hi
    rw [zip_len (by omega)]; omega⟩
theorem i_items {e : Expr} {te : TED} {elts : List Expr} {kk : Nat} {tpos apos cpos : Pos} (he : PE X e (lift X.K G W te)) (hb : (!isCall0 e) = true) (hl : (apos.endLine == cpos.line) = true) :
    PI X (.Tuple elts kk tpos) (.Call (.Attribute e "items" apos) [] [] cpos) (liftP X.K G W fun σ h q r => te σ h (fun d h1 => itK .items [d] h1 q) r) := by
  refine ⟨fun pins s σ H R I ⟨a, h, q, r, rs, rh, ht, k, kx⟩ => (pi_items he (base_no hb _ _ _) hl).run pins s σ H R I ⟨a, h, _, r, rs, rh, ht, fun d h1 v H1 fx1 rd1 rh1 hq1 => ?_, kx⟩⟩
  cases rd1 with
  | kdc t n l rr =>
    obtain ⟨o, t⟩ := t
    exact ⟨_, o, _, rfl, t, k _ _ _ _ _ fx1 rh1 (wk_items n t rr) (by rw [List.length_map, zip_len n.len]; exact l) hq1⟩
  | _ => exact False.elim hq1
theorem i_values {e tg : Expr} {te : TED} {apos cpos : Pos} (he : PE X e (lift X.K G W te)) (hb : (!isCall0 e) = true) (hl : (apos.endLine == cpos.line) = true) :
    PI X tg (.Call (.Attribute e "values" apos) [] [] cpos) (liftP X.K G W fun σ h q r => te σ h (fun d h1 => itK .values [d] h1 q) r) := by
  refine ⟨fun pins s σ H R I ⟨a, h, q, r, rs, rh, ht, k, kx⟩ => (pi_values he (base_no hb _ _ _) hl).run pins s σ H R I ⟨a, h, _, r, rs, rh, ht, fun d h1 v H1 fx1 rd1 rh1 hq1 => ?_, kx⟩⟩
  cases rd1 with
  | kdc t n l rr =>
    obtain ⟨o, t⟩ := t
    exact ⟨_, o, _, rfl, t, k _ _ _ _ _ fx1 rh1 (wk_vals n.len t rr) l hq1⟩
  | _ => exact False.elim hq1
end
end Nd
/-! Nh2: dict(pairs), len(set(numbers)), list(d.items()). -/
namespace Nd
open PySem PySem.Spec PyProof.Rows L2
section
variable {X : Cx} {G : Nat → Addr} {W : WX}
theorem merge_rk {K : PySem.W.Frag} {H : Hp} : ∀ {kvs : List (Key × D)} {vs : List (Key × V)} {a : List (Key × D)} {b : List (Key × V)}, RK K G H kvs vs → RK K G H a b → RK K G H (kvs.foldl (fun acc p => putD acc p.1 p.2) a) (vs.foldl (fun acc p => putK acc p.1 p.2) b)
  | _, _, _, _, .nil, r => r
  | _, _, _, _, .cons h t, r => by
    rw [List.foldl_cons, List.foldl_cons, h.1]
    exact merge_rk t (put_rk r _ h.2)
theorem merge_len : ∀ (kvs a : List (Key × D)), (kvs.foldl (fun acc p => putD acc p.1 p.2) a).length ≤ a.length + kvs.length
  | [], a => Nat.le_refl _
  | p :: kvs, a => by
    rw [List.foldl_cons]
    have := merge_len kvs (putD a p.1 p.2)
    have := putD_len a p.1 p.2
    rw [List.length_cons]
    omega
theorem merge_key : ∀ {kvs a : List (Key × D)}, (∀ p ∈ kvs, KeyG p.1) → (∀ p ∈ a, KeyG p.1) → ∀ p ∈ kvs.foldl (fun acc p => putD acc p.1 p.2) a, KeyG p.1
  | [], a, _, h => h
  | q :: kvs, a, h1, h2 => merge_key (kvs := kvs) (a := putD a q.1 q.2) (fun p hp => h1 p (List.mem_cons_of_mem _ hp)) (put_key h2 (h1 q List.mem_cons_self))
theorem pairs_vs {K : PySem.W.Frag} {H : Hp} : ∀ {kvs : List (Key × D)} {vs : List V}, RDs K G H (kvs.map fun p => .tup [kD p.1, p.2]) vs → ∃ (ps : List Addr) (kws : List (Key × V)), vs = ps.map V.ref ∧ Paired (fun p kv => SqT K H p [kV kv.1, kv.2]) ps kws ∧ RK K G H kvs kws ∧ ∀ p ∈ kvs, KeyG p.1
  | [], _, .nil => ⟨[], [], rfl, .nil, .nil, fun _ z => by cases z⟩
  | q :: kvs, _, .cons r t => by
    obtain ⟨ps, kws, e1, e2, e3, e4⟩ := pairs_vs t
    cases r with
    | @tup a xs _ ta l rr =>
      obtain ⟨v, w, rfl, r1, r2⟩ := rds2 rr
      have kg : KeyG q.1 ∧ v = kV q.1 := by
        generalize hk : q.1 = k at r1
        cases k with
        | inl i => cases r1; exact ⟨trivial, rfl⟩
        | inr s => cases r1 with
          | str _ g => exact ⟨g, rfl⟩
      refine ⟨a :: ps, (q.1, w) :: kws, by rw [e1]; rfl, .cons (by rw [← kg.2]; exact ta.sq) e2, .cons ⟨rfl, r2⟩ e3, fun p hp => ?_⟩
      rcases List.mem_cons.mp hp with rfl | hp
      · exact kg.1
      · exact e4 p hp
theorem c_dict (hc : X.calm = true) : CallR X (.type "dict") (lct X.K G (blV .dict)) := by
  rintro pins s σ H xs us Q I r ⟨v, ds, g, h, q, rfl, it, rh, ⟨gl, kvs, rfl, hr⟩, k⟩
  obtain ⟨p, vs, rfl, s1, s2, s3⟩ := itL it rh gl
  obtain ⟨ps, kws, rfl, e2, e3, e4⟩ := pairs_vs s2
  rw [List.length_map] at s3
  refine call_dictP hc pins s σ H _ us Q I r ⟨p, ps, kws, rfl, s1, e2, fun a na => ?_⟩
  have l := merge_len kvs []
  exact k _ _ _ _ (Fx.newM na) (.ref a) (rh.new (m := .dic (mergeD kvs)) na ⟨_, upd_same, by rw [List.length_nil, Nat.zero_add] at l; exact Nat.le_trans l s3, (merge_rk e3 .nil).ext (Ext.new na), merge_key e4 fun _ z => by cases z⟩) (hr a (rh.none_of na))
/-- len(set(numbers)) -/
theorem pe_lset {a : Expr} {ta : TE} {p p2 q pos : Pos} (hg : Gl X "len") (hm : X.mg "len" = none) (hg2 : Gl X "set") (hm2 : X.mg "set" = none) (ha : PE X a ta) (hc : X.calm = true) (na : (!isStar a) = true) :
    PE X (.Call (.Name "len" p) [.Call (.Name "set" p2) [a] [] q] [] pos) (fun σ H Q => ta σ H fun x H1 => ∃ (l : Addr) (ns : List Int), x = .ref l ∧ SqL X.K H1 l (ns.map V.int) ∧ ns.length + 1 < PySem.scanBound ∧ Q (.int (dedupZ ns).length) H1) := by
  refine ⟨fun pins s σ H Q I h => ?_⟩
  have na := star1 na [] X.env
  refine Call_ (ld_blt I hg hm boot_len ?_)
  refine PyProof.Rows.callWith_builtin1 (PyProof.Rows.args_cons ?_ rfl) rfl rfl
  refine Call_ (ld_blt I hg2 hm2 boot_set ?_)
  refine PyProof.Rows.callWith_type1 (PyProof.Rows.args_cons (thn (ha.run pins s σ H _ I h) fun v s1 ⟨x, H1, I1, r1, q1⟩ => PyProof.Rows.args_nil ?_) na) na rfl
  obtain ⟨l, ns, rfl, hq, hl, q1⟩ := q1
  cases r1
  obtain ⟨its, r, pl, hz⟩ := I1.list hq
  have hlen : its.toArray.size = ns.length := by rw [List.size_toArray, ← r.length, List.length_map]
  refine call_set_list (I1.ok.hd hc) pl.isList (by simpa using RZ.intsAre_vals r) (by rw [hlen]; exact hl) fun h' tk hS hk => ?_
  refine PyProof.Rows.args_nil ?_
  rw [hlen] at hS
  obtain ⟨o, es, ep, t, ho, hex, hd, _, _, hf0, hf, hn⟩ := hS
  have I2 : Inv X pins σ H1 { s1 with heap := h', toks := tk } := I1.kept fun b o e => hk b o (Heap.lt_size e) e
  have ub := PyProof.Rows.firstMet_length_le (fun i => ns.getD i 0) ns.length
  have sb : PySem.scanBound = 4096 := rfl
  exact call_len_set ho hex hd hf (by rw [hn] <;> omega) ⟨.int (dedupZ ns).length, H1, I2.tok _, ⟨_, by rw [hn]; rfl⟩, q1⟩
/-- list(d.items()), the dict stays -/
theorem pe_itm {e : Expr} {te : TE} {p apos cpos pos : Pos} (hc : X.calm = true) (he : PE X e te) (hg : Gl X "list") (hm : X.mg "list" = none) (hb : (!isCall0 e) = true) (hline : (apos.endLine == cpos.line) = true) :
    PE X (.Call (.Name "list" p) [.Call (.Attribute e "items" apos) [] [] cpos] [] pos) (fun σ H Q => te σ H fun x H1 => ∃ (d : Addr) (kvs : List (Key × V)), x = .ref d ∧ (H1 d = some (.dK kvs) ∨ KdcAt H1 d kvs) ∧
  ∀ (H' : Hp) (p : Addr) (ts : List Addr), (∀ b o, H1 b = some o → H' b = some o) → H1 p = none → (∀ t ∈ ts, H1 t = none) → p ∉ ts → H' p = some (.lst (ts.map V.ref)) → Paired (fun (t : Addr) (q : Key × V) => H' t = some (.tup [kV q.1, q.2])) ts kvs → Q (.ref p) H') := by
  have hbase := base_no hb "items" X.env (eval e X.env)
  have hs : starEach [.Call (.Attribute e "items" apos) [] [] cpos] X.env = (false, eval (.Call (.Attribute e "items" apos) [] [] cpos) X.env) :: starEach [] X.env := rfl
  refine ⟨fun pins s σ H Q I hq => ?_⟩
  refine wpAny_Call_Name_kw (ld_blt I hg hm (show bootBuiltins "list" = some (.type "list") by decide +kernel) ?_)
  refine PyProof.Rows.callWith_type1 ?_ hs rfl
  rw [hs]
  show wpAny _ _ (spliced ((false, eval (.Call (.Attribute e "items" apos) [] [] cpos) X.env) :: backTo pos (starEach [] X.env))) _ _ s
  refine Calls.spliced_cons ?_
  refine wpAny_Call_method (T := "dict") (id := "dict.items") hbase rfl hline F.plainAttrs_dict F.slot_dict_items F.type_dict_items (thn (he.run pins s σ H _ I hq) fun u s1 ⟨x, H1, I1, rx, d, kvs, ex, hd, q⟩ => ?_)
  subst ex
  obtain rfl : u = Value.ref d := rx
  obtain ⟨hz, hs0, vs, kv, hdo⟩ := dk_rd I1.hok hd
  obtain ⟨ep, hat⟩ := hdo.dictAt
  have lk : kvs.length = vs.length := Paired.length kv
  have I2 : Inv X pins σ H1 { s1 with heap := s1.heap.push { cls := .type "dict_items", data := .fields #[.ref d] } } := I1.kept (t' := s1.toks) fun b ob q => Heap.get?_push_of_some _ q
  refine ⟨hdo.typeIs, hdo.mapOf.noDict, ?_⟩
  show wpAny _ _ (callWith cpos (.builtin "dict.items") [.ref d] [] []) _ X.xe s1
  refine method_meetsIn F.slot_dict_items F.entry_dict_items rfl (PySem.evalArgs_none ⟨rfl, hdo.typeIs, F.args_dict_items_1 _, _, meets_dict_items (mixKind X.prog X.w) d hs0, ⟨vs, hdo⟩, ?_⟩)
  refine Calls.spliced_nil ?_
  refine PySem.W.kdx_call (knd := mixKind X.prog X.w) (kvs := vs) (ep := ep) (I1.ok.hd hc) ⟨_, Heap.get?_push_size _ rfl, rfl, rfl⟩ (hat.push _) (by omega) fun h' tk acc c as hk hS hl hG hacc => ?_
  obtain ⟨H', k1, k2, k3, k4, k5, k6, J⟩ := LiI.items_laid (tk := tk) I2 hz kv hk hS hl hG hacc
  exact ⟨.ref _, H', J, rfl, q H' _ as k1 k2 k3 k4 k5 k6⟩
theorem items_rd {K : PySem.W.Frag} {H1 H' : Hp} (ext : Ext H1 H') : ∀ {ks : List Key} {ds : List D} {vs : List V} {ts : List Addr}, (∀ k ∈ ks, KeyG k) → RDs K G H1 ds vs → Paired (fun (t : Addr) (q : Key × V) => H' t = some (.tup [kV q.1, q.2])) ts (ks.zip vs) → ks.length = ds.length → RDs K G H' ((ks.zip ds).map fun p => .tup [kD p.1, p.2]) (ts.map V.ref)
  | [], _, _, _, _, _, .nil, _ => .nil
  | k :: ks, _, _, _, _, .nil, _, e => by cases e
  | k :: ks, _, _, _, kg, .cons r rs, .cons h t, e => .cons (.tup (.inl h) (by show 2 ≤ sizeLine; decide) (.cons (rd_key (kg k List.mem_cons_self)) (.cons (r.ext ext) .nil))) (items_rd ext (fun k hk => kg k (List.mem_cons_of_mem _ hk)) rs t (by simpa using e))
theorem items_rk {K : PySem.W.Frag} {H1 H' : Hp} (ext : Ext H1 H') : ∀ {kvs : List (Key × D)} {vs : List (Key × V)} {ts : List Addr}, (∀ p ∈ kvs, KeyG p.1) → RK K G H1 kvs vs → Paired (fun (t : Addr) (q : Key × V) => H' t = some (.tup [kV q.1, q.2])) ts vs → RDs K G H' (kvs.map fun p => .tup [kD p.1, p.2]) (ts.map V.ref)
  | [], _, _, _, .nil, .nil => .nil
  | p :: kvs, _, _, kg, .cons r rs, .cons h t => by
    refine .cons (.tup (.inl h) (by show 2 ≤ sizeLine; decide) (.cons ?_ (.cons (r.2.ext ext) .nil))) (items_rk ext (fun k hk => kg k (List.mem_cons_of_mem _ hk)) rs t)
    rw [← r.1]
    exact rd_key (kg p List.mem_cons_self)
theorem p_itm {e : Expr} {te : TED} {p apos cpos pos : Pos} (hc : X.calm = true) (he : PE X e (lift X.K G W te)) (hg : Gl X "list") (hm : X.mg "list" = none) (hb : (!isCall0 e) = true) (hline : (apos.endLine == cpos.line) = true) :
    PE X (.Call (.Name "list" p) [.Call (.Attribute e "items" apos) [] [] cpos] [] pos) (lift X.K G W fun σ h q r => te σ h (fun d h1 => (∃ ks xs, d = .kdc ks xs ∧ ∀ p, h1 p = none → q (.ref p) (hup h1 p (.lst ((ks.zip xs).map fun p => .tup [kD p.1, p.2])))) ∨ ∃ a kvs, d = .ref a ∧ h1 a = some (.dic kvs) ∧ ∀ p, h1 p = none → q (.ref p) (hup h1 p (.lst (kvs.map fun p => .tup [kD p.1, p.2])))) r) :=
  PE.imp (pe_itm hc he hg hm hb hline) fun σ H Q ⟨a, h, q, r, rs, rh, ht, k, kx⟩ => ⟨a, h, _, r, rs, rh, ht, fun d h1 v H1 fx rd rh1 hz => by
    have new : ∀ {H' : Hp} (hk : ∀ b o, H1 b = some o → H' b = some o), Ext H1 H' ∧ Fx H1 h1 H' h1 ∧ RH X.K G H' h1 := fun {H'} hk =>
      ⟨fun a o e _ => hk a o e, ⟨fun a o e _ => hk a o e, fun _ _ z => z, fun a z => by
        obtain ⟨o, e⟩ := Option.ne_none_iff_exists'.mp z
        rw [hk a o e]; exact fun y => nomatch y⟩, fun a m e => by
        obtain ⟨o, ho, _⟩ := (rh1 a m e).there
        exact (rh1 a m e).ext (fun a o e _ => hk a o e) ((hk a o ho).trans ho.symm)⟩
    rcases hz with ⟨ks, xs, ed, hq⟩ | ⟨b, kvs, ed, hb, hq⟩
    · subst ed
      cases rd with
      | @kdc d _ vs _ t n l rr =>
        refine ⟨d, ks.zip vs, rfl, .inr t, fun H' p ts hk np nt nin hp pr => ?_⟩
        obtain ⟨ext, f, rh'⟩ := new hk
        have n1 : h1 p = none := rh1.none_of np
        refine k (.ref p) _ (.ref p) H' (fx.trans (fx_tell f np)) (.ref p) (rh_tell (m := .lst _) rh' ⟨_, hp, ?_, items_rd ext n.key rr pr n.len⟩) (hq p n1)
        rw [List.length_map, zip_len n.len]; exact l
    · subst ed
      cases rd with
      | ref _ =>
        obtain ⟨vs, e1, e2, e3, e4⟩ := rh1 b _ hb
        refine ⟨b, vs, rfl, .inl e1, fun H' p ts hk np nt nin hp pr => ?_⟩
        obtain ⟨ext, f, rh'⟩ := new hk
        have n1 : h1 p = none := rh1.none_of np
        refine k (.ref p) _ (.ref p) H' (fx.trans (fx_tell f np)) (.ref p) (rh_tell (m := .lst _) rh' ⟨_, hp, ?_, items_rk ext e4 e3 pr⟩) (hq p n1)
        rw [List.length_map]; exact e2, kx⟩
end
end Nd
/-! Nh3: a set made of a list of keys (numbers, texts), any number; its length; the sorted list of a set of texts. -/
namespace Nd
open PySem PySem.Spec PyProof.Rows L2
theorem pr_left {α β : Type} {F : α → β → Prop} {xs : List α} {ys : List β} (p : Paired F xs ys) : ∀ {x : α}, x ∈ xs → ∃ y, y ∈ ys ∧ F x y := by
  induction p with
  | nil => intro x z; cases z
  | cons f _ ih =>
    intro x z
    rcases List.mem_cons.mp z with rfl | z
    · exact ⟨_, List.mem_cons_self, f⟩
    · obtain ⟨y, h1, h2⟩ := ih z; exact ⟨y, List.mem_cons_of_mem _ h1, h2⟩
theorem pr_right {α β : Type} {F : α → β → Prop} {xs : List α} {ys : List β} (p : Paired F xs ys) : ∀ {y : β}, y ∈ ys → ∃ x, x ∈ xs ∧ F x y := by
  induction p with
  | nil => intro x z; cases z
  | cons f _ ih =>
    intro x z
    rcases List.mem_cons.mp z with rfl | z
    · exact ⟨_, List.mem_cons_self, f⟩
    · obtain ⟨y, h1, h2⟩ := ih z; exact ⟨y, List.mem_cons_of_mem _ h1, h2⟩
theorem pr_perm {α β : Type} {F : α → β → Prop} {xs xs' : List α} (q : xs.Perm xs') : ∀ {ys : List β}, Paired F xs ys → ∃ ys', ys'.Perm ys ∧ Paired F xs' ys' := by
  induction q with
  | nil => intro ys p; exact ⟨ys, .refl _, p⟩
  | cons x _ ih =>
    intro ys p
    cases p with
    | cons f p => obtain ⟨ys', h1, h2⟩ := ih p; exact ⟨_, h1.cons _, .cons f h2⟩
  | swap x y l =>
    intro ys p
    cases p with
    | cons f p => cases p with
      | cons g p => exact ⟨_, List.Perm.swap _ _ _, .cons g (.cons f p)⟩
  | trans _ _ ih1 ih2 =>
    intro ys p
    obtain ⟨y1, h1, h2⟩ := ih1 p
    obtain ⟨y2, h3, h4⟩ := ih2 h2
    exact ⟨y2, h3.trans h1, h4⟩
theorem pr_app {α β : Type} {F : α → β → Prop} {xs xs' : List α} {ys ys' : List β} (p : Paired F xs ys) (q : Paired F xs' ys') : Paired F (xs ++ xs') (ys ++ ys') := by
  induction p with
  | nil => exact q
  | cons f _ ih => exact .cons f ih
theorem pr_map {α β γ : Type} {F : α → β → Prop} {G : γ → β → Prop} {g : α → γ} {xs : List α} {ys : List β} (i : ∀ x y, F x y → G (g x) y) (p : Paired F xs ys) : Paired G (xs.map g) ys := by
  induction p with
  | nil => exact .nil
  | cons f _ ih => exact .cons (i _ _ f) ih
theorem pr_len {α β : Type} {F : α → β → Prop} {xs : List α} {ys : List β} (p : Paired F xs ys) : xs.length = ys.length := by
  induction p with
  | nil => rfl
  | cons f _ ih => simp [ih]
section
variable {κ : Type} [DecidableEq κ]
theorem addL_len (l : List κ) (k : κ) : (addL l k).length ≤ l.length + 1 := by
  unfold addL; split <;> simp
theorem addL_mem {l : List κ} {k j : κ} : j ∈ addL l k ↔ j = k ∨ j ∈ l := by
  unfold addL
  split
  · rename_i h
    exact ⟨.inr, fun z => z.elim (fun e => e ▸ h) id⟩
  · rw [List.mem_append, List.mem_singleton]; exact Or.comm
theorem addL_nodup {l : List κ} {k : κ} (h : l.Nodup) : (addL l k).Nodup := by
  unfold addL
  split
  · exact h
  · rename_i n
    rw [List.nodup_append]
    refine ⟨h, by simp, fun a ha b hb => ?_⟩
    rw [List.mem_singleton] at hb
    subst hb
    exact fun e => n (e ▸ ha)
theorem onceL_nil : onceL ([] : List κ) = [] := rfl
theorem onceL_snoc (l : List κ) (k : κ) : onceL (l ++ [k]) = addL (onceL l) k := by
  unfold onceL; rw [List.foldl_append]; rfl
theorem fold_addL : ∀ (l acc : List κ), acc.Nodup → (l.foldl addL acc).Nodup ∧ (∀ j, j ∈ l.foldl addL acc ↔ j ∈ acc ∨ j ∈ l) ∧ (l.foldl addL acc).length ≤ acc.length + l.length
  | [], acc, h => ⟨h, fun j => by simp, by simp⟩
  | x :: l, acc, h => by
    obtain ⟨h1, h2, h3⟩ := fold_addL l (addL acc x) (addL_nodup h)
    refine ⟨h1, fun j => ?_, ?_⟩
    · rw [List.foldl_cons, h2, addL_mem, List.mem_cons]
      constructor
      · rintro ((a | a) | a)
        · exact .inr (.inl a)
        · exact .inl a
        · exact .inr (.inr a)
      · rintro (a | a | a)
        · exact .inl (.inr a)
        · exact .inl (.inl a)
        · exact .inr a
    · rw [List.foldl_cons, List.length_cons]
      have := addL_len acc x
      omega
theorem onceL_nodup (l : List κ) : (onceL l).Nodup := (fold_addL l [] (by simp)).1
theorem onceL_mem {l : List κ} {j : κ} : j ∈ onceL l ↔ j ∈ l := ((fold_addL l [] (by simp)).2.1 j).trans (by simp)
theorem onceL_len (l : List κ) : (onceL l).length ≤ l.length := by have := (fold_addL l [] (by simp)).2.2; rw [List.length_nil, Nat.zero_add] at this; exact this
theorem onceL_id {l : List κ} (h : l.Nodup) : onceL l = l := by
  have : ∀ (l acc : List κ), (acc ++ l).Nodup → l.foldl addL acc = acc ++ l := by
    intro l
    induction l with
    | nil => intro acc _; simp
    | cons x l ih =>
      intro acc h
      rw [List.foldl_cons]
      have n : x ∉ acc := fun z => by
        rw [List.nodup_append] at h
        exact h.2.2 x z x List.mem_cons_self rfl
      have e : addL acc x = acc ++ [x] := by unfold addL; rw [if_neg n]
      rw [e, ih _ (by rw [List.append_assoc]; exact h), List.append_assoc]; rfl
  exact this l [] (by simpa using h)
/-- as many as it has things, so each is there once -/
theorem onceL_full {l : List κ} (h : (onceL l).length = l.length) : l.Nodup := by
  have : ∀ (l acc : List κ), acc.Nodup → (l.foldl addL acc).length = acc.length + l.length → (acc ++ l).Nodup := by
    intro l
    induction l with
    | nil => intro acc h _; simpa using h
    | cons x l ih =>
      intro acc h e
      rw [List.foldl_cons] at e
      have b := (fold_addL l (addL acc x) (addL_nodup h)).2.2
      rw [List.length_cons] at e
      have n : x ∉ acc := fun z => by
        have q : addL acc x = acc := by unfold addL; rw [if_pos z]
        rw [q] at b e
        omega
      have q : addL acc x = acc ++ [x] := by unfold addL; rw [if_neg n]
      have := ih (addL acc x) (addL_nodup h) (by rw [e, q]; simp; omega)
      rw [q, List.append_assoc] at this
      exact this
  exact by simpa using this l [] (by simp) (by simpa [onceL] using h)
end
section
variable {P : Program} {w : World} {κ : Type} [DecidableEq κ] (knd : PySem.KeyKind P w κ)
/-- an entry of a set's table that stands for a key -/
def EnG (e : Int × Value) (k : κ) : Prop := knd.is k e.2 = true ∧ e.1 = knd.hash k ∧ e.2.scannable = true
/-- the set of these keys at a, that can be walked -/
def SetG (h : Heap) (a : Addr) (l : List κ) : Prop :=
  ∃ (o : Obj) (es : Array (Int × Value)) (ep : Nat) (t : SetTable) (ks : List κ), h.get? a = some o ∧ o.ExactSet ∧ o.data = .set es ep t ∧ Paired (EnG knd) es.toList ks ∧ ks.Perm l ∧ l.Nodup ∧
    es.size < scanBound ∧ t.fits es.size = true ∧ Ris t.place.toList ∧ (w.params.followText "set-order" = true ∨ t.led = true)
variable {knd}
variable {A : Around} {E : Value → Shared → Prop} {s : Shared} {a : Addr} {l : List κ}
theorem SetG.at {h h' : Heap} (R : SetG knd h a l) (k : ∀ o, h.get? a = some o → h'.get? a = some o) : SetG knd h' a l := by
  obtain ⟨o, es, ep, t, ks, h1, r⟩ := R
  exact ⟨o, es, ep, t, ks, k o h1, r⟩
theorem en_elems {es : List (Int × Value)} {ks : List κ} (p : Paired (EnG knd) es ks) : ElemsOf knd es := fun e he => by
  obtain ⟨k, _, h1, h2, h3⟩ := pr_left p he
  exact ⟨⟨k, h1, h2⟩, h3⟩
theorem en_find {es : List (Int × Value)} {ks : List κ} (p : Paired (EnG knd) es ks) (k : κ) : (∃ e ∈ es, knd.is k e.2 = true) ↔ k ∈ ks := by
  constructor
  · rintro ⟨e, he, q⟩
    obtain ⟨j, hj, h1, _⟩ := pr_left p he
    rw [knd.inj e.2 k j q h1]; exact hj
  · intro z
    obtain ⟨e, he, h1, _⟩ := pr_right p z
    exact ⟨e, he, h1⟩
theorem setL_tail {g : Bool → Sem Unit} (hg : ∀ (b : Bool) (s1 : Shared) (Z : Unit → Shared → Prop), Z () s1 → wpAny (model P w) A (g b) Z E s1) {o : Obj} {es : Array (Int × Value)} {ep : Nat} {t : SetTable}
    (h1 : s.heap.get? a = some o) (h2 : o.ExactSet) (h3 : o.data = .set es ep t) {es1 : Array (Int × Value)} {t1 : SetTable} {ks : List κ} (p : Paired (EnG knd) es1.toList ks) (q : ks.Perm l) (nd : l.Nodup)
    (b1 : es1.size < scanBound) (f1 : t1.fits es1.size = true) (r1 : Ris t1.place.toList) (l1 : w.params.followText "set-order" = true ∨ t1.led = true) {wd : Bool} {Z : Option Bool → Shared → Prop}
    (hZ : ∀ h', Heap.SameBut a s.heap h' → SetG knd h' a l → Z (some true) { s with heap := h' }) :
    wpAny (model P w) A (do
      storeSet a es1 t1
      if (!wd && t1.tooFull) = true then do
        g (relayAll t1 es1 (SetTable.grown es1.size)).2.2; storeSet a (relayAll t1 es1 (SetTable.grown es1.size)).1 (relayAll t1 es1 (SetTable.grown es1.size)).2.1
        pure (some true)
      else pure (some true)) Z E s := by
  have u1 := L2.store_at (es' := es1) (t' := t1) h1 h3
  have v1 := Heap.SameBut.update s.heap a (Obj.putSet es1 t1)
  refine wpAny_bind (wpAny_storeSet_of h1 h3 ?_ (fits_of_scanBound b1))
  split
  · have x1 := relayAll_perm t1 es1 (SetTable.grown es1.size); have x2 := relayAll_fits t1 es1 (SetTable.grown es1.size)
    have x3 := L2.relayAll_ris t1 es1 (SetTable.grown es1.size); have x4 := L2.relayAll_led t1 es1 (SetTable.grown es1.size)
    generalize relayAll t1 es1 (SetTable.grown es1.size) = Y at x1 x2 x3 x4 ⊢
    obtain ⟨es2, t2, gv⟩ := Y
    simp only at x1 x2 x3 x4 ⊢
    have z2 : es2.size = es1.size := by simpa using x1.length_eq
    refine wpAny_bind (hg _ _ _ (wpAny_bind (wpAny_storeSet_of u1 rfl ?_ (fits_of_scanBound (by rw [z2]; exact b1)))))
    obtain ⟨ks2, y1, y2⟩ := pr_perm x1.symm p
    exact wpAny_pure (hZ _ (v1.trans (Heap.SameBut.update _ a _)) ⟨_, es2, _, t2, ks2, L2.store_at u1 rfl, h2, rfl, y2, y1.trans q, nd, by rw [z2]; exact b1, x2, x3, l1.imp id fun c => by rw [x4]; exact c⟩)
  · exact wpAny_pure (hZ _ v1 ⟨_, es1, _, t1, ks, u1, h2, rfl, p, q, nd, b1, f1, r1, l1⟩)
theorem setL_add {k : κ} {x : Value} {Q : Bool → Shared → Prop} (R : SetG knd s.heap a l) (hk : knd.is k x = true) (hx : x.scannable = true) (room : l.length + 1 < scanBound)
    (hQ : ∀ (b : Bool) h', Heap.SameBut a s.heap h' → SetG knd h' a (addL l k) → Q b { s with heap := h' }) : wpAny (model P w) A (setAddHashed a x (knd.hash k)) Q E s := by
  obtain ⟨o, es, ep, t, ks, h1, h2, h3, p, q, nd, hb, hf, hr, hl⟩ := R
  have el := en_elems p
  have zl : es.size = l.length := by rw [← Array.length_toList, pr_len p, q.length_eq]
  unfold setAddHashed setAddHashedIn
  refine wpAny_holding (wpAny_bind (wpAny_setState_of h1 h3 hf ?_))
  dsimp only; rw [byScan_of hx hb el]
  simp only [↓reduceIte]; unfold setAddByScan
  refine wpAny_bind (wpAny_bind (wpAny_rule (wpAny_bind (wpAny_setScan_of hk h1 h3 hf el ?_))))
  cases c : List.findIdx? (fun e => knd.is k e.2) es.toList with
  | some j =>
    obtain ⟨j1, j2, _⟩ := List.findIdx?_eq_some_iff_getElem.mp c
    have m : k ∈ l := q.mem_iff.mp ((en_find p k).mp ⟨_, List.getElem_mem j1, j2⟩)
    dsimp only
    refine wpAny_pure (wpAny_pure ?_)
    exact hQ _ s.heap (Heap.SameBut.refl a s.heap) (by unfold addL; rw [if_pos m]; exact ⟨o, es, ep, t, ks, h1, h2, h3, p, q, nd, hb, hf, hr, hl⟩)
  | none =>
    have m : k ∉ l := fun z => by
      obtain ⟨e, e1, e2⟩ := (en_find p k).mpr (q.mem_iff.mpr z)
      have := List.findIdx?_eq_none_iff.mp c e e1
      rw [e2] at this; exact nomatch this
    dsimp only
    have gw : ∀ (b : Bool) {s1 : Shared} {Z : Unit → Shared → Prop}, Z () s1 → wpAny (model P w) A (match b with | true => rule "set.scan.the-table-gave-way" | false => pure ()) Z E s1 := fun b s1 Z z => by
      cases b <;> first | exact wpAny_pure z | exact wpAny_rule z
    have x1 := layNew_perm t es (knd.hash k) x; have x2 := layNew_fits t es (knd.hash k) x
    have x3 := L2.layNew_ris t es (knd.hash k) x hr; have x4 := L2.layNew_led t es (knd.hash k) x
    generalize layNew t es (knd.hash k) x = Y at x1 x2 x3 x4 ⊢
    obtain ⟨es1, t1, wd, gv⟩ := Y
    simp only at x1 x2 x3 x4 ⊢
    rw [Array.toList_push] at x1
    obtain ⟨k1, y1, y2⟩ := pr_perm x1.symm (pr_app p (.cons (⟨hk, rfl, hx⟩ : EnG knd (knd.hash k, x) k) .nil))
    have ea : addL l k = l ++ [k] := by unfold addL; rw [if_neg m]
    have y3 : k1.Perm (l ++ [k]) := y1.trans (q.append_right _)
    have y4 : (l ++ [k]).Nodup := by rw [← ea]; exact addL_nodup nd
    have z1 : es1.size = l.length + 1 := by rw [← Array.length_toList, x1.length_eq, List.length_append, Array.length_toList, zl]; rfl
    have led1 : w.params.followText "set-order" = true ∨ t1.led = true := hl.imp id fun c => by rw [x4]; exact c
    refine wpAny_bind (gw _ ?_)
    split
    · refine wpAny_bind ?_; rw [hashByValue_scannable 8 hx]; refine wpAny_pure ?_
      refine setL_tail (l := l ++ [k]) ?_ h1 h2 h3 y2 y3 y4 (by rw [z1]; exact room) ?_ ?_ ?_ ?_
      · intro b s1 Z z; cases b <;> first | exact wpAny_pure z | exact wpAny_rule z
      · first | (split <;> first | exact x2 | exact SetTable.fits_plain_off x2) | exact x2
      · first | (split <;> exact x3) | exact x3
      · first | (split <;> exact led1) | exact led1
      · intro h' sb r; dsimp only; exact wpAny_pure (hQ _ h' sb (by rw [ea]; exact r))
    · refine wpAny_bind (wpAny_pure ?_)
      simp only [↓reduceIte]
      refine setL_tail (l := l ++ [k]) ?_ h1 h2 h3 y2 y3 y4 (by rw [z1]; exact room) x2 x3 led1 ?_
      · intro b s1 Z z; cases b <;> first | exact wpAny_pure z | exact wpAny_rule z
      · intro h' sb r; dsimp only; exact wpAny_pure (hQ _ h' sb (by rw [ea]; exact r))
/-- a set of nothing -/
def o0 (w : World) : Obj := { cls := .type "set", dict := none, data := .set #[] 0 (.fresh 0 0 (!w.params.followText "set-order")) }
theorem setG0 {h : Heap} (e : h.get? a = some (o0 w)) : SetG knd h a [] :=
  ⟨_, #[], 0, _, [], e, ⟨rfl, rfl, rfl⟩, rfl, .nil, .refl _, by simp, by decide, by rfl, List.Pairwise.nil, by
    show _ ∨ (!w.params.followText "set-order") = true
    cases c : w.params.followText "set-order" <;> first | exact .inl rfl | exact .inr rfl⟩
theorem once_take {ks : List κ} {i : Nat} {k : κ} (e : ks[i]? = some k) : onceL (ks.take (i + 1)) = addL (onceL (ks.take i)) k := by
  rw [List.take_add_one, e]; exact onceL_snoc _ _
theorem setG_loop {I : Addr} {fp wr : List Addr} {G : Array GenState → Array GenState → Prop} {n : Nat} {Pv : Nat → Value → Prop} {St : Nat → Shared → Prop} {R : Result → Shared → Prop}
    (W : WalksS P w A.in1 I fp wr G n Pv St) (c : Addr) (off : c ∉ fp) (ks : List κ) (en : n = ks.length) (room : ks.length + 1 < scanBound) (val : ∀ i v, Pv i v → ∃ k, ks[i]? = some k ∧ knd.is k v = true ∧ v.scannable = true) :
    ∀ (m i : Nat) (s : Shared), n - i = m → i ≤ n → St i s → SetG knd s.heap c (onceL (ks.take i)) → (∀ s', Moved (c :: wr) G s s' → SetG knd s'.heap c (onceL ks) → R (.ok (.ret .none)) s') →
      codeAny (model P w) A (.builtin "set.update.loop" ⟨[.ref c, .ref I], []⟩) R s := by
  have offw : c ∉ wr := fun z => off (W.sub _ z)
  have more : ∀ b ∈ wr, b ∈ c :: wr := fun b z => List.mem_cons_of_mem _ z
  intro m
  induction m with
  | zero =>
    intro i s em le st R0 fin
    obtain rfl : i = n := by omega
    refine codeAny_builtin PyProof.Rows.F.entry_set_update_loop ?_; rw [Around.under_plainId PyProof.Rows.F.plain_set_update_loop _]
    show wpAny _ A.in1 (pyNext (.ref I) >>= _) _ _ s
    refine wpAny_bind (W.done s _ _ st fun s1 mv => wpAny_pure ?_)
    rw [List.take_of_length_le (by omega)] at R0
    exact fin s1 (mv.mono more) (R0.at fun o e => mv.heap c o offw e)
  | succ m ih =>
    intro i s em le st R0 fin
    have lt : i < n := by omega
    refine codeAny_builtin PyProof.Rows.F.entry_set_update_loop ?_; rw [Around.under_plainId PyProof.Rows.F.plain_set_update_loop _]
    show wpAny _ A.in1 (pyNext (.ref I) >>= _) _ _ s
    refine wpAny_bind (W.item i s _ _ lt st fun v s1 hv st1 mv => ?_)
    obtain ⟨k, e1, e2, e3⟩ := val i v hv
    have R1 : SetG knd s1.heap c (onceL (ks.take i)) := R0.at fun o e => mv.heap c o offw e
    show wpAny _ A.in1 (holding [v] (setAdd c v) >>= _) _ _ s1
    refine wpAny_bind (wpAny_holding ?_); unfold setAdd
    refine wpAny_holding (wpAny_bind (knd.pyHash e2 ?_))
    have lr : (onceL (ks.take i)).length + 1 < scanBound := by have := onceL_len (ks.take i); have := List.length_take_le i ks; omega
    refine setL_add (s := { s1 with toks := s1.toks + 1 }) R1 e2 e3 lr fun _ h1 sb R2 => ?_
    rw [← once_take e1] at R2
    have still : ∀ b ∈ fp, ∀ o, s1.heap.get? b = some o → h1.get? b = some o := fun b hb o e => (sb.2 b fun z => off (z ▸ hb)).trans e
    refine wpAny_pure ⟨plainId_quiet PyProof.Rows.F.plain_set_update_loop _, ih (i + 1) _ (by omega) lt (W.frame _ s1 _ _ st1 (Nat.le_succ _) still) R2 fun s2 mv2 R3 => fin s2 (Moved.trans W.gtrans ((mv.mono more).then_heap (Nat.le_succ _) fun b o nb e => ?_) mv2) R3⟩
    exact (sb.2 b fun z => nb (z ▸ List.mem_cons_self)).trans e
/-- set(xs) of a list of keys -/
theorem call_setG {q : Addr} {its : Array Value} (ks : List κ) {Q : Value → Shared → Prop} (hh : A.handled = none) (hq : s.heap.IsList q its) (hk : Paired (fun v k => knd.is k v = true ∧ v.scannable = true) its.toList ks) (room : ks.length + 1 < scanBound)
    (h : ∀ (h' : Heap) (tk : Nat), SetG knd h' s.heap.objs.size (onceL ks) → (∀ b o, s.heap.get? b = some o → h'.get? b = some o) → Q (.ref s.heap.objs.size) { s with heap := h', toks := tk }) :
    wpAny (model P w) A (call (.type "set") [.ref q]) Q E s := by
  have zz : its.size = ks.length := by rw [← Array.length_toList, pr_len hk]
  obtain ⟨_, _, m0⟩ := PySem.F.called_set.mro
  have m1 := PySem.F.called_set.made; have m2 := PySem.F.called_set.sub
  refine wpAny_call (codeAny_of_tree ?_)
  show wpAny _ _ (callAny (.type "set") _) _ _ _
  refine wpAny_pure ⟨Code.quiet_builtin _ (by decide +kernel), codeAny_builtin PySem.F.entry_type_call ?_⟩
  rw [Around.under_plain (weight_type_call_type "set" [.ref q] []) rfl]
  have m3 := PySem.F.called_set.notType; have m4 := PySem.F.called_set.canCreate; have m5 := PySem.F.typeCall_set_1 (.ref q)
  repeat any_goals first | assumption | wp_step
  refine codeAny_mono (L2.code_set_led1 (.ref q) (E := E) (Q₁ := fun u s1 => u = .ref s.heap.objs.size ∧ s1 = { s with heap := s.heap.push (o0 w) }) ⟨rfl, rfl⟩) fun r s1 hr => ?_
  cases r with
  | error e => exact hr
  | ok fl => cases fl with
    | ret u =>
      obtain ⟨rfl, rfl⟩ := hr
      have hS : (s.heap.push (o0 w)).get? s.heap.objs.size = some (o0 w) := Heap.get?_push_size _ rfl
      have hT : Shared.TypeIs { s with heap := s.heap.push (o0 w) } (.ref s.heap.objs.size) "set" := ⟨_, hS, rfl⟩
      have m6 := PySem.F.called_set.init.lookup; have m7 := PySem.F.called_set.init.bind (.ref s.heap.objs.size)
      repeat any_goals first | assumption | wp_step
      refine codeAny_mono (codeAny_call_builtin (R := wants (fun r s2 => r = .none ∧ ∃ h' tk, s2 = { s with heap := h', toks := tk } ∧ SetG knd h' s.heap.objs.size (onceL ks) ∧ ∀ b o, s.heap.get? b = some o → h'.get? b = some o) E)
        PySem.F.called_set.init.plain PySem.F.entry_set_init (check_set_init_1 hT ?_)) fun r2 s2 hr2 => ?_
      · obtain ⟨⟨oc, od, odt, osl⟩, g1, g2, nl, g3⟩ := hq
        simp only at g2 g3; subst g2; subst g3
        have g4 : (s.heap.push (o0 w)).get? q = some { cls := .type "list", dict := od, data := .seq its nl, slots := osl } := Heap.get?_push_of_some _ g1
        have n1 := PySem.F.sub_list_set; have n2 := PySem.F.sub_list_frozenset
        have n3 : (Value.type "list" == Value.type "dict") = false := by decide
        have g5 : (s.heap.push (o0 w)).IsList q its := ⟨_, g4, rfl, nl, rfl⟩
        unfold Builtin.«set.__init__» noKeywords Builtin.Frozenset.updateFrom
        generalize zP : pyIter = PI
        wp_walk
        subst zP
        refine wpAny_pyIter_list g5 (wpAny_bind (wpAny_runValue ?_))
        have lq : q < s.heap.objs.size := Heap.lt_size g1
        have hh3 : A.in1.in1.in1.handled = none := by simp [hh]
        have zp : (s.heap.push (o0 w)).objs.size = s.heap.objs.size + 1 := Heap.size_push ..
        have nI : q ≠ (s.heap.push (o0 w)).objs.size := fun z => absurd lq (by rw [z, zp]; exact Nat.not_lt_of_le (Nat.le_succ _))
        have off : s.heap.objs.size ∉ [(s.heap.push (o0 w)).objs.size, q] := by
          rw [zp, List.mem_cons, List.mem_singleton]
          exact fun z => z.elim (fun e => absurd e (Nat.ne_of_lt (Nat.lt_succ_self _))) fun e => absurd e (Nat.ne_of_gt lq)
        refine setG_loop (knd := knd) ((Walks.list hh3 _ q nI its).toS) s.heap.objs.size off ks zz room (fun i v hv => ?_) (its.size - 0) 0 _ (by omega) (Nat.zero_le _) ⟨⟨_, Heap.get?_push_size _ rfl, rfl, rfl⟩, g5.push _⟩ ?hS0 ?hR
        · have ev : its.toList[i]? = some v := by rw [Array.getElem?_toList]; exact hv
          clear h g4 g5 hS hT m6 m7
          have : ∀ (xs : List Value) (ys : List κ) (i : Nat), Paired (fun v k => knd.is k v = true ∧ v.scannable = true) xs ys → xs[i]? = some v → ∃ k, ys[i]? = some k ∧ knd.is k v = true ∧ v.scannable = true := by
            intro xs ys i p
            induction p generalizing i with
            | nil => intro z; simp at z
            | cons f _ ih => cases i with
              | zero => intro z; simp at z; subst z; exact ⟨_, rfl, f⟩
              | succ i => intro z; exact ih i (by simpa using z)
          exact this _ _ i hk ev
        case hS0 => exact setG0 (Heap.get?_push_of_some _ hS)
        case hR =>
          rintro ⟨h', g', d', tk', os'⟩ mv R1
          obtain rfl : g' = s.gens := mv.gens
          obtain rfl : d' = s.drawn := mv.drawn
          obtain rfl : os' = s.os := mv.os
          show wpAny _ _ _ _ _ _
          refine wpAny_pure ?_
          show wpAny _ _ (ret Value.none) _ _ _
          refine wpAny_pure ⟨rfl, h', tk', rfl, R1, fun b o e => mv.heap b o ?_ (Heap.get?_push_of_some _ (Heap.get?_push_of_some _ e))⟩
          have lb : b < s.heap.objs.size := Heap.lt_size e
          rw [List.mem_cons, List.mem_singleton, zp]
          exact fun z => z.elim (Nat.ne_of_lt lb) (Nat.ne_of_lt (Nat.lt_succ_of_lt lb))
      · cases r2 with
        | error e => exact hr2
        | ok f2 => cases f2 with
          | ret r =>
            obtain ⟨rfl, h', tk, rfl, R1, k1⟩ := hr2
            repeat any_goals first | assumption | wp_step
            exact h _ _ R1 k1
          | _ => exact hr2.elim
    | _ => exact hr.elim
end
end Nd
/-! Nh4: len(set(texts)), sorted(set(texts)). -/
namespace Nd
open PySem PySem.Spec PyProof.Rows L2
section
variable {P : Program} {w : World} {A : Around} {E : Value → Shared → Prop} {s : Shared} {a : Addr} {l : List Str}
/-- a value is this text -/
def IsT (v : Value) (x : Str) : Prop := ∃ t, v = .str x t
theorem vals_T : ∀ {ss : List Str} {us : List Value}, Vals (ss.map V.str) us → Paired (fun v k => (PySem.strKind P w).is k v = true ∧ v.scannable = true) us ss
  | [], _, .nil => .nil
  | x :: ss, _, .cons r t => by
    obtain ⟨tk, rfl⟩ := r
    exact .cons ⟨strKind_is P w x tk, rfl⟩ (vals_T t)
theorem en_T {e : Int × Value} {k : Str} (h : EnG (PySem.strKind P w) e k) : IsT e.2 k := by
  obtain ⟨i, v⟩ := e
  have h1 : (PySem.strKind P w).is k v = true := h.1
  cases v with
  | str y t =>
    have := (PySem.strKind P w).inj (.str y t) k y h1 (strKind_is P w y t)
    exact ⟨t, by rw [this]⟩
  | _ => cases h1
theorem pr_T : ∀ {us : List Value} {ss : List Str}, Paired IsT us ss → Vals (ss.map V.str) us
  | _, _, .nil => .nil
  | _, _, .cons ⟨t, e⟩ r => by subst e; exact .cons ⟨t, rfl⟩ (pr_T r)
theorem pr_each : ∀ {us : List Value} {ss : List Str}, Paired IsT us ss → PySem.W.EachIs IsT us ss
  | _, _, .nil => .nil
  | _, _, .cons f r => .cons f (pr_each r)
theorem each_pr : ∀ {us : List Value} {ss : List Str}, PySem.W.EachIs IsT us ss → Paired IsT us ss
  | _, _, .nil => .nil
  | _, _, .cons f r => .cons f (each_pr r)
theorem leS_eq : PySem.W.dataLe false (fun b : Str => .str b) = leS := PySem.W.dataLe_str (fun b : Str => b)
theorem leS_total (a b : Str) : leS a b = true ∨ leS b a = true := by
  unfold leS; rw [decide_eq_true_eq, decide_eq_true_eq]; exact List.le_total _ _
theorem leS_trans (a b c : Str) (h : leS a b = true) (h' : leS b c = true) : leS a c = true := by
  unfold leS at *; rw [decide_eq_true_eq] at *; exact List.le_trans h h'
theorem leS_anti (a b : Str) (h : leS a b = true) (h' : leS b a = true) : a = b := by
  unfold leS at *; rw [decide_eq_true_eq] at *
  have e := List.le_antisymm h h'
  cases a; cases b; simp only at e; rw [Array.toList_inj.mp e]
theorem merge_perm {xs ys : List Str} (p : xs.Perm ys) : xs.mergeSort leS = ys.mergeSort leS := by
  refine List.Perm.eq_of_pairwise (le := fun a b => leS a b = true) (fun a b _ _ h h' => leS_anti a b h h') ?_ ?_ ?_
  · exact List.pairwise_mergeSort leS_trans (fun a b => by simpa [Bool.or_eq_true] using leS_total a b) xs
  · exact List.pairwise_mergeSort leS_trans (fun a b => by simpa [Bool.or_eq_true] using leS_total a b) ys
  · exact (List.mergeSort_perm xs leS).trans (p.trans (List.mergeSort_perm ys leS).symm)
theorem call_sortedG {Q : Value → Shared → Prop} (R : SetG (PySem.strKind P w) s.heap a l) (hh : A.handled = none) (hu : A.units + 6 < cLine)
    (hQ : ∀ (s' : Shared) (p : Addr) (out : List Value) (c : Nat), (∀ b o, s.heap.get? b = some o → s'.heap.get? b = some o) → s'.gens = s.gens → s'.os = s.os → s.heap.objs.size ≤ p → s'.heap.get? p = some (seqObj "list" out.toArray c) → Paired IsT out (l.mergeSort leS) → Q (.ref p) s') :
    wpAny (model P w) A (call (.builtin "sorted") [.ref a]) Q E s := by
  obtain ⟨o, es, ep, t, ks, h1, h2, h3, pe, q, nd, hb, hf, hr, hl⟩ := R
  refine Calls.call_function_entry kind_sorted plain_sorted entry_sorted (args_sorted1 _) ?_
  unfold Builtin.«sorted»
  refine wpAny_bind (m := checkCount "sorted" 1 1 _) (wpAny_pure (wpAny_bind (L2.collect_set (A := A.in1) hh ⟨o, h1, h2.1, h3⟩ hf hb hr hl fun s1 vs k1 z1 g1 o1 pm => ?_)))
  obtain ⟨ys, y1, y2⟩ := pr_perm pm.symm (pr_map (g := fun e : Int × Value => e.2) (G := IsT) (fun e k f => en_T f) pe)
  have yl : ys.Perm l := y1.trans q
  have vl : vs.length = ys.length := pr_len y2
  have el : es.toList.length = ys.length := by rw [pr_len pe, y1.length_eq]
  have sz : vs.length ≤ sizeLine := by rw [vl, ← el, Array.length_toList]; exact fits_of_scanBound hb
  refine wpAny_bind (wpAny_newList ?_ sz)
  have hL : (s1.heap.push (seqObj "list" vs.toArray 0)).get? s1.heap.objs.size = some (seqObj "list" vs.toArray 0) := Heap.get?_push_size _ rfl
  have rd : PySem.W.EachIs (fun v (b : Str) => ∃ as, Reads (s1.heap.push (seqObj "list" vs.toArray 0)) v (.str b) as ∧ s1.heap.objs.size ∉ as) vs ys := (pr_each y2).mono fun v b ⟨t, e⟩ => ⟨[], by rw [e]; exact .str _ _, by simp⟩
  refine wpAny_bind (wpAny_holding (PySem.W.list_sort_data (s := { s1 with heap := s1.heap.push (seqObj "list" vs.toArray 0) }) (enc := fun b : Str => .str b) hL (pr_each y2) rd (PySem.W.AllAlike.of fun _ _ => rfl)
    (PySem.W.Sortable.others fun _ => ⟨(fun z => nomatch z), (fun _ z => nomatch z)⟩) (by rw [← vl]; exact sz) (fun b _ => by have e : (PyData.str b).depth = 0 := rfl; rw [e]; simp only [PySem.Around.in1_units]; omega) fun out lo eo => ?_))
  obtain ⟨c, hc⟩ := PyProof.Rows.sortedHeap_at (vs := vs) (out := out.toArray) hL
  rw [leS_eq, merge_perm yl] at eo
  refine wpAny_pure ⟨_, rfl, hQ _ s1.heap.objs.size out c (fun b u e => ?_) g1 o1 z1 hc (each_pr eo)⟩
  have e1 := k1 b u e
  have lb := Heap.lt_size e1
  show (PyProof.Rows.sortedHeap (s1.heap.push (seqObj "list" vs.toArray 0)) s1.heap.objs.size vs out.toArray).get? b = some u
  rw [PyProof.Rows.sortedHeap_old (Nat.ne_of_lt lb) (by rw [Heap.size_push]; exact Nat.lt_succ_of_lt lb)]
  exact Heap.get?_push_of_some _ e1
end
section
variable {X : Cx} {G : Nat → Addr} {W : WX}
/-- len(set(numbers)), len(set(texts)) -/
theorem pe_lsetB {a : Expr} {ta : TE} {p p2 q pos : Pos} (hg : Gl X "len") (hm : X.mg "len" = none) (hg2 : Gl X "set") (hm2 : X.mg "set" = none) (ha : PE X a ta) (hc : X.calm = true) (na : (!isStar a) = true) :
    PE X (.Call (.Name "len" p) [.Call (.Name "set" p2) [a] [] q] [] pos) (fun σ H Q => ta σ H fun x H1 => (∃ (l : Addr) (ns : List Int), x = .ref l ∧ SqL X.K H1 l (ns.map V.int) ∧ ns.length + 1 < PySem.scanBound ∧ Q (.int (dedupZ ns).length) H1) ∨
      ∃ (l : Addr) (ns : List Str), x = .ref l ∧ SqL X.K H1 l (ns.map V.str) ∧ ns.length + 1 < PySem.scanBound ∧ Q (.int (onceL ns).length) H1) := by
  refine ⟨fun pins s σ H Q I h => Call_ (ld_blt I hg hm boot_len (PyProof.Rows.callWith_builtin1 (PyProof.Rows.args_cons ?_ rfl) rfl rfl))⟩
  have na := star1 na [] X.env
  have sb : PySem.scanBound = 4096 := rfl
  refine Call_ (ld_blt I hg2 hm2 boot_set (PyProof.Rows.callWith_type1 (PyProof.Rows.args_cons (thn (ha.run pins s σ H _ I h) fun v s1 ⟨x, H1, I1, r1, q1⟩ => PyProof.Rows.args_nil ?_) na) na rfl))
  rcases q1 with ⟨l, ns, rfl, hq, hl, q1⟩ | ⟨l, ns, rfl, hq, hl, q1⟩
  · cases r1
    obtain ⟨its, r, pl, hz⟩ := I1.list hq
    have hlen : its.toArray.size = ns.length := by rw [List.size_toArray, ← r.length, List.length_map]
    refine call_set_list (I1.ok.hd hc) pl.isList (by simpa using RZ.intsAre_vals r) (by rw [hlen]; exact hl) fun h' tk hS hk => PyProof.Rows.args_nil ?_
    rw [hlen] at hS
    obtain ⟨o, es, ep, t, ho, hex, hd, _, _, hf0, hf, hn⟩ := hS
    have I2 : Inv X pins σ H1 { s1 with heap := h', toks := tk } := I1.kept fun b o e => hk b o (Heap.lt_size e) e
    have ub := PyProof.Rows.firstMet_length_le (fun i => ns.getD i 0) ns.length
    exact call_len_set ho hex hd hf (by rw [hn] <;> omega) ⟨.int (dedupZ ns).length, H1, I2.tok _, ⟨_, by rw [hn]; rfl⟩, q1⟩
  · cases r1
    obtain ⟨its, r, pl, hz⟩ := I1.list hq
    refine call_setG ns (I1.ok.hd hc) pl.isList (by simpa using vals_T r) hl fun h' tk R hk => PyProof.Rows.args_nil ?_
    obtain ⟨o, es, ep, t, ks, h1, h2, h3, pe, qe, nd, hb, hf, _⟩ := R
    have I2 : Inv X pins σ H1 { s1 with heap := h', toks := tk } := I1.kept fun b o e => hk b o e
    have zn : es.size = (onceL ns).length := by rw [← Array.length_toList, pr_len pe, qe.length_eq]
    exact call_len_set h1 h2 h3 hf (by omega) ⟨.int (onceL ns).length, H1, I2.tok _, ⟨_, by rw [zn]⟩, q1⟩
theorem strs_rd {K : PySem.W.Frag} {H : Hp} : ∀ {ns : List Str} {vs : List V}, RDs K G H (ns.map .str) vs → ∀ x ∈ ns, StrG x
  | [], _, _, x, hx => nomatch hx
  | y :: ns, _, .cons r t, x, hx => by
    rcases List.mem_cons.mp hx with rfl | hx
    · cases r with | str _ g => exact g
    · exact strs_rd t x hx
theorem rd_strs {K : PySem.W.Frag} {H : Hp} : ∀ {ns : List Str}, (∀ x ∈ ns, StrG x) → RDs K G H (ns.map .str) (ns.map V.str)
  | [], _ => .nil
  | y :: ns, h => .cons (.str y (h y List.mem_cons_self)) (rd_strs fun x hx => h x (List.mem_cons_of_mem _ hx))
theorem sort_rds {K : PySem.W.Frag} {H H' : Hp} {ns : List Str} {vs : List V} (h : RDs K G H (ns.map .str) vs) : RDs K G H' ((sortT ns).map .str) ((sortT ns).map V.str) :=
  rd_strs fun x hx => strs_rd h x (onceL_mem.mp ((List.mergeSort_perm _ _).mem_iff.mp hx))
/-- sorted(set(texts)) -/
theorem pe_sset {a : Expr} {ta : TE} {p p2 q pos : Pos} (hg : Gl X "sorted") (hm : X.mg "sorted" = none) (hg2 : Gl X "set") (hm2 : X.mg "set" = none) (ha : PE X a ta) (hc : X.calm = true) (hu : X.A.units + 6 < cLine) (na : (!isStar a) = true) :
    PE X (.Call (.Name "sorted" p) [.Call (.Name "set" p2) [a] [] q] [] pos) (fun σ H Q => ta σ H fun x H1 => ∃ (l : Addr) (ns : List Str), x = .ref l ∧ SqL X.K H1 l (ns.map V.str) ∧ ns.length + 1 < PySem.scanBound ∧ ∀ p, H1 p = none → Q (.ref p) (upd H1 p (.lst ((sortT ns).map V.str)))) := by
  refine ⟨fun pins s σ H Q I h => Call_ (ld_blt I hg hm (show bootBuiltins "sorted" = some (.builtin "sorted") by decide +kernel) (PyProof.Rows.callWith_builtin1 (PyProof.Rows.args_cons ?_ rfl) rfl rfl))⟩
  have na := star1 na [] X.env
  refine Call_ (ld_blt I hg2 hm2 boot_set (PyProof.Rows.callWith_type1 (PyProof.Rows.args_cons (thn (ha.run pins s σ H _ I h) fun v s1 ⟨x, H1, I1, r1, q1⟩ => PyProof.Rows.args_nil ?_) na) na rfl))
  obtain ⟨l, ns, rfl, hq, hl, q1⟩ := q1
  cases r1
  obtain ⟨its, r, pl, hz⟩ := I1.list hq
  refine call_setG ns (I1.ok.hd hc) pl.isList (by simpa using vals_T r) hl fun h' tk R hk => PyProof.Rows.args_nil ?_
  have I2 : Inv X pins σ H1 { s1 with heap := h', toks := tk } := I1.kept fun b o e => hk b o e
  refine call_sortedG R (I1.ok.hd hc) hu fun s' p out c k g o hp hgt pt => ?_
  have sb : PySem.scanBound = 4096 := rfl
  have lo : ((sortT ns).map V.str).length ≤ sizeLine := by
    rw [List.length_map, sortT, List.length_mergeSort, sizeLine_eq]
    have := onceL_len ns; omega
  have hn : H1 p = none := I2.hok.fresh hp
  have J : Inv X pins σ (upd H1 p (.lst ((sortT ns).map V.str))) { ({ s1 with heap := h', toks := tk } : Shared) with heap := s'.heap, gens := s'.gens, drawn := s'.drawn, toks := s'.toks } :=
    I2.call (ch := []) (Un.laid k hp hn) (I2.hok.laid k hp ⟨lo, out, c, pr_T pt, hgt⟩) (by rw [g]; exact I2.bare) (fun _ z => nomatch z)
  have e : s' = { s1 with heap := s'.heap, gens := s'.gens, drawn := s'.drawn, toks := s'.toks } := by cases s'; cases s1; cases o; rfl
  rw [e]; exact ⟨.ref p, _, J, rfl, q1 p hn⟩
end
end Nd
/-! Nh5: min and max of a list of things that compare as data. -/
namespace Nd
open PySem PySem.Spec PyProof.Rows L2
/-- two compare so wherever all of h0 stands -/
def CmpH (P : Program) (w : World) (A : Around) (op : CmpOp) (h0 : Heap) (Pv : Nat → Value → Prop) (bt : Nat → Nat → Bool) : Prop :=
  ∀ i j u v (s1 : Shared) (Z : Value → Shared → Prop) (E : Value → Shared → Prop), (∀ b o, h0.get? b = some o → s1.heap.get? b = some o) → Pv i u → Pv j v → Z (.bool (bt i j)) s1 → wpAny (model P w) A (richCompare op u v) Z E s1
section
variable {P : Program} {w : World} {A : Around} {R : Result → Shared → Prop} {I : Addr} {fp wr : List Addr} {n : Nat} {Pv : Nat → Value → Prop} {St : Nat → Heap → Prop} {h0 : Heap}
theorem minloop (W : Walks P w A.in1 I fp wr n Pv St) (bt : Nat → Nat → Bool) (cm : CmpH P w A.in1 .Lt h0 Pv bt) (c : Addr) (off : c ∉ fp) (nw : ∀ b o, h0.get? b = some o → b ∉ wr ∧ b ≠ c) :
    ∀ (m j : Nat) (s : Shared) (u : Value) (e : Nat), n - (j + 1) = m → j + 1 ≤ n → St (j + 1) s.heap → Pv (argBest bt j) u → (∀ b o, h0.get? b = some o → s.heap.get? b = some o) → s.heap.get? c = some { cls := .type "list", dict := none, data := .seq #[u, u] e, slots := #[] } →
    (∀ v h' tk, Pv (argBest bt (n - 1)) v → (∀ b o, b ∉ wr → b ≠ c → s.heap.get? b = some o → h'.get? b = some o) → R (.ok (.ret v)) { s with heap := h', toks := tk }) → codeAny (model P w) A (.builtin "min.loop" ⟨[.ref I, .none, .ref c], []⟩) R s := by
  have offw : c ∉ wr := fun z => off (W.sub _ z)
  have nm : (toString "min" ++ toString ".loop" : String) = "min.loop" := by decide
  intro m
  induction m with
  | zero =>
    intro j s u e em le st pu hs hc fin
    obtain rfl : j + 1 = n := by omega
    refine codeAny_builtin PySem.F.entry_min_loop ?_; rw [Around.under_plainId PySem.F.plain_min_loop _]
    show wpAny _ A.in1 (seqItems? (.ref c) >>= _) _ _ s
    refine wpAny_bind (wpAny_seqItems hc rfl ?_)
    show wpAny _ A.in1 (tryCatch (pyNext (.ref I)) _ >>= _) _ _ s
    refine wpAny_bind (wpAny_tryCatch (W.done s _ _ st fun h1 tk k1 => ?_))
    show wpAny _ A.in1 (updateSeq c (fun _ => #[]) >>= _) _ _ _
    refine wpAny_bind (wpAny_updateSeq (k1 c _ offw hc) rfl (wpAny_bind (wpAny_letGo (wpAny_pure (fin u _ tk pu fun b o nb nc q => ?_)))))
    exact (Heap.get?_update_other _ _ (Ne.symm nc)).trans (k1 b o nb q)
  | succ m ih =>
    intro j s u e em le st pu hs hc fin
    have lt : j + 1 < n := by omega
    refine codeAny_builtin PySem.F.entry_min_loop ?_; rw [Around.under_plainId PySem.F.plain_min_loop _]
    show wpAny _ A.in1 (seqItems? (.ref c) >>= _) _ _ s
    refine wpAny_bind (wpAny_seqItems hc rfl ?_)
    show wpAny _ A.in1 (tryCatch (pyNext (.ref I)) _ >>= _) _ _ s
    refine wpAny_bind (wpAny_tryCatch (W.item (j + 1) s _ _ lt st fun v h1 tk pv st1 k1 => ?_))
    have hc1 := k1 c _ offw hc
    have hs1 : ∀ b o, h0.get? b = some o → h1.get? b = some o := fun b o q => k1 b o (nw b o q).1 (hs b o q)
    show wpAny _ A.in1 (tryCatch (holding [v, v] (richCompare .Lt v u >>= _)) _ >>= _) _ _ _
    refine wpAny_bind (wpAny_tryCatch (wpAny_holding (wpAny_bind (cm (j + 1) (argBest bt j) v u { s with heap := h1, toks := tk } _ _ hs1 pv pu ?_))))
    refine wpAny_bind (wpAny_holding (wpAny_truthy_bool (wpAny_bind (wpAny_letGo (wpAny_pure ?_)))))
    cases hb : bt (j + 1) (argBest bt j) with
    | true =>
      simp only [if_true]
      refine wpAny_bind (wpAny_updateSeq hc1 rfl (wpAny_bind (wpAny_letGo ?_)))
      rw [nm]
      have keep2 : ∀ b o, b ≠ c → h1.get? b = some o → (h1.update c (Obj.mapSeq fun _ => #[v, v])).get? b = some o := fun b o nb q => (Heap.get?_update_other _ _ (Ne.symm nb)).trans q
      refine wpAny_pure ⟨plainId_quiet PySem.F.plain_min_loop _, ih (j + 1) _ v _ (by omega) lt (W.frame _ _ _ st1 fun b hb o q => keep2 b o (fun z => off (z ▸ hb)) q) (by simp only [argBest, hb, if_true]; exact pv)
        (fun b o q => keep2 b o (nw b o q).2 (hs1 b o q)) (Heap.get?_update_self _ hc1 rfl) fun v' h2 t2 p2 k2 => fin v' h2 t2 p2 fun b o nb nc q => k2 b o nb nc (keep2 b o nc (k1 b o nb q))⟩
    | false =>
      simp only [Bool.false_eq_true, if_false]
      refine wpAny_bind (wpAny_letGo ?_)
      rw [nm]
      exact wpAny_pure ⟨plainId_quiet PySem.F.plain_min_loop _, ih (j + 1) _ u e (by omega) lt st1 (by simp only [argBest, hb, Bool.false_eq_true, if_false]; exact pu) hs1 hc1 fun v' h2 t2 p2 k2 => fin v' h2 t2 p2 fun b o nb nc q => k2 b o nb nc (k1 b o nb q)⟩
theorem minfirst (W : Walks P w A.in1 I fp wr n Pv St) (bt : Nat → Nat → Bool) (cm : CmpH P w A.in1 .Lt h0 Pv bt) (c : Addr) (off : c ∉ fp) (nw : ∀ b o, h0.get? b = some o → b ∉ wr ∧ b ≠ c) (pos : 0 < n) {s : Shared} {e : Nat} (st : St 0 s.heap)
    (hs : ∀ b o, h0.get? b = some o → s.heap.get? b = some o) (hc : s.heap.get? c = some { cls := .type "list", dict := none, data := .seq #[] e, slots := #[] })
    (fin : ∀ v h' tk, Pv (argBest bt (n - 1)) v → (∀ b o, b ∉ wr → b ≠ c → s.heap.get? b = some o → h'.get? b = some o) → R (.ok (.ret v)) { s with heap := h', toks := tk }) : codeAny (model P w) A (.builtin "min.loop" ⟨[.ref I, .none, .ref c], []⟩) R s := by
  have offw : c ∉ wr := fun z => off (W.sub _ z)
  have nm : (toString "min" ++ toString ".loop" : String) = "min.loop" := by decide
  refine codeAny_builtin PySem.F.entry_min_loop ?_; rw [Around.under_plainId PySem.F.plain_min_loop _]
  show wpAny _ A.in1 (seqItems? (.ref c) >>= _) _ _ s
  refine wpAny_bind (wpAny_seqItems hc rfl ?_)
  show wpAny _ A.in1 (tryCatch (pyNext (.ref I)) _ >>= _) _ _ s
  refine wpAny_bind (wpAny_tryCatch (W.item 0 s _ _ pos st fun v h1 tk pv st1 k1 => ?_))
  have hc1 := k1 c _ offw hc
  show wpAny _ A.in1 (updateSeq c (fun _ => #[v, v]) >>= _) _ _ _
  refine wpAny_bind (wpAny_updateSeq hc1 rfl ?_)
  rw [nm]
  have keep2 : ∀ b o, b ≠ c → h1.get? b = some o → (h1.update c (Obj.mapSeq fun _ => #[v, v])).get? b = some o := fun b o nb q => (Heap.get?_update_other _ _ (Ne.symm nb)).trans q
  exact wpAny_pure ⟨plainId_quiet PySem.F.plain_min_loop _, minloop W bt cm c off nw _ 0 _ v _ rfl pos (W.frame _ _ _ st1 fun b hb o q => keep2 b o (fun z => off (z ▸ hb)) q) pv (fun b o q => keep2 b o (nw b o q).2 (k1 b o (nw b o q).1 (hs b o q))) (Heap.get?_update_self _ hc1 rfl)
    fun v' h2 t2 p2 k2 => fin v' h2 t2 p2 fun b o nb nc q => k2 b o nb nc (keep2 b o nc (k1 b o nb q))⟩
variable {E : Value → Shared → Prop} {s : Shared}
theorem call_minD {l : Addr} {its : Array Value} {Q : Value → Shared → Prop} (bt : Nat → Nat → Bool) (hh : A.handled = none) (hl : s.heap.IsList l its) (pos : 0 < its.size) (cm : CmpH P w A.in1 .Lt s.heap (fun i v => its[i]? = some v) bt)
    (h : ∀ v h' tk, its[argBest bt (its.size - 1)]? = some v → (∀ b o, s.heap.get? b = some o → h'.get? b = some o) → Q v { s with heap := h', toks := tk }) : wpAny (model P w) A (call (.builtin "min") [.ref l]) Q E s := by
  have nm : (toString "min" ++ toString ".loop" : String) = "min.loop" := by decide
  refine call_function_tree PySem.F.kind_min PySem.F.plain_min PySem.F.entry_min (PySem.F.args_min1 _) ?_
  show wpAny _ A.in1 (Builtin.Builtins.bindParams "min" ["key", "default"] 0 ⟨[], []⟩ >>= _) _ _ s
  refine wpAny_bind (wpAny_of_eq (show Builtin.Builtins.bindParams "min" ["key", "default"] 0 ⟨[], []⟩ = pure [none, none] from rfl) (wpAny_bind (wpAny_pure ?_)))
  refine wpAny_bind (wpAny_pyIter_list hl ?_)
  obtain ⟨o, ho, q1, nl, q2⟩ := hl
  have ls : l < s.heap.objs.size := Heap.lt_size ho
  refine wpAny_bind (wpAny_newObj_type ?_)
  have z1 : (s.heap.push { cls := .type "list_iterator", data := .fields #[.ref l, .int 0 0] }).objs.size = s.heap.objs.size + 1 := Heap.size_push ..
  have nI : l ≠ s.heap.objs.size := Nat.ne_of_lt ls
  have W := Walks.list (prog := P) (w := w) (A := A.in1) hh s.heap.objs.size l nI its
  rw [nm]
  have k0 : ∀ b o, s.heap.get? b = some o → ((s.heap.push { cls := .type "list_iterator", data := .fields #[.ref l, .int 0 0] }).push { cls := .type "list", data := .seq ([] : List Value).toArray }).get? b = some o := fun b o e => Heap.get?_push_of_some _ (Heap.get?_push_of_some _ e)
  refine wpAny_pure ⟨plainId_quiet PySem.F.plain_min_loop _, minfirst (h0 := s.heap) W bt cm (s.heap.push { cls := .type "list_iterator", data := .fields #[.ref l, .int 0 0] }).objs.size ?_ (fun b o e => ?_) pos ⟨⟨_, Heap.get?_push_of_some _ (Heap.get?_push_size _ rfl), rfl, rfl⟩, ⟨o, k0 l o ho, q1, nl, q2⟩⟩ k0 (Heap.get?_push_size _ rfl) fun v h1 tk pv k1 => ?_⟩
  · rw [z1, List.mem_cons, List.mem_singleton]
    exact fun z => z.elim (Nat.ne_of_gt (Nat.lt_succ_self _)) (Nat.ne_of_gt (Nat.lt_succ_of_lt ls))
  · have lb := Heap.lt_size e
    refine ⟨fun z => Nat.ne_of_lt lb (List.mem_singleton.mp z), ?_⟩
    rw [z1]; exact Nat.ne_of_lt (Nat.lt_succ_of_lt lb)
  · refine h v h1 tk pv fun b o e => k1 b o (fun z => Nat.ne_of_lt (Heap.lt_size e) (List.mem_singleton.mp z)) ?_ (k0 b o e)
    rw [z1]; exact Nat.ne_of_lt (Nat.lt_succ_of_lt (Heap.lt_size e))
end
section
variable {P : Program} {w : World} {A : Around} {R : Result → Shared → Prop} {I : Addr} {fp wr : List Addr} {n : Nat} {Pv : Nat → Value → Prop} {St : Nat → Heap → Prop} {h0 : Heap}
theorem maxloop (W : Walks P w A.in1 I fp wr n Pv St) (bt : Nat → Nat → Bool) (cm : CmpH P w A.in1 .Gt h0 Pv bt) (c : Addr) (off : c ∉ fp) (nw : ∀ b o, h0.get? b = some o → b ∉ wr ∧ b ≠ c) :
    ∀ (m j : Nat) (s : Shared) (u : Value) (e : Nat), n - (j + 1) = m → j + 1 ≤ n → St (j + 1) s.heap → Pv (argBest bt j) u → (∀ b o, h0.get? b = some o → s.heap.get? b = some o) → s.heap.get? c = some { cls := .type "list", dict := none, data := .seq #[u, u] e, slots := #[] } →
    (∀ v h' tk, Pv (argBest bt (n - 1)) v → (∀ b o, b ∉ wr → b ≠ c → s.heap.get? b = some o → h'.get? b = some o) → R (.ok (.ret v)) { s with heap := h', toks := tk }) → codeAny (model P w) A (.builtin "max.loop" ⟨[.ref I, .none, .ref c], []⟩) R s := by
  have offw : c ∉ wr := fun z => off (W.sub _ z)
  have nm : (toString "max" ++ toString ".loop" : String) = "max.loop" := by decide
  intro m
  induction m with
  | zero =>
    intro j s u e em le st pu hs hc fin
    obtain rfl : j + 1 = n := by omega
    refine codeAny_builtin PySem.F.entry_max_loop ?_; rw [Around.under_plainId PySem.F.plain_max_loop _]
    show wpAny _ A.in1 (seqItems? (.ref c) >>= _) _ _ s
    refine wpAny_bind (wpAny_seqItems hc rfl ?_)
    show wpAny _ A.in1 (tryCatch (pyNext (.ref I)) _ >>= _) _ _ s
    refine wpAny_bind (wpAny_tryCatch (W.done s _ _ st fun h1 tk k1 => ?_))
    show wpAny _ A.in1 (updateSeq c (fun _ => #[]) >>= _) _ _ _
    refine wpAny_bind (wpAny_updateSeq (k1 c _ offw hc) rfl (wpAny_bind (wpAny_letGo (wpAny_pure (fin u _ tk pu fun b o nb nc q => ?_)))))
    exact (Heap.get?_update_other _ _ (Ne.symm nc)).trans (k1 b o nb q)
  | succ m ih =>
    intro j s u e em le st pu hs hc fin
    have lt : j + 1 < n := by omega
    refine codeAny_builtin PySem.F.entry_max_loop ?_; rw [Around.under_plainId PySem.F.plain_max_loop _]
    show wpAny _ A.in1 (seqItems? (.ref c) >>= _) _ _ s
    refine wpAny_bind (wpAny_seqItems hc rfl ?_)
    show wpAny _ A.in1 (tryCatch (pyNext (.ref I)) _ >>= _) _ _ s
    refine wpAny_bind (wpAny_tryCatch (W.item (j + 1) s _ _ lt st fun v h1 tk pv st1 k1 => ?_))
    have hc1 := k1 c _ offw hc
    have hs1 : ∀ b o, h0.get? b = some o → h1.get? b = some o := fun b o q => k1 b o (nw b o q).1 (hs b o q)
    show wpAny _ A.in1 (tryCatch (holding [v, v] (richCompare .Gt v u >>= _)) _ >>= _) _ _ _
    refine wpAny_bind (wpAny_tryCatch (wpAny_holding (wpAny_bind (cm (j + 1) (argBest bt j) v u { s with heap := h1, toks := tk } _ _ hs1 pv pu ?_))))
    refine wpAny_bind (wpAny_holding (wpAny_truthy_bool (wpAny_bind (wpAny_letGo (wpAny_pure ?_)))))
    cases hb : bt (j + 1) (argBest bt j) with
    | true =>
      simp only [if_true]
      refine wpAny_bind (wpAny_updateSeq hc1 rfl (wpAny_bind (wpAny_letGo ?_)))
      rw [nm]
      have keep2 : ∀ b o, b ≠ c → h1.get? b = some o → (h1.update c (Obj.mapSeq fun _ => #[v, v])).get? b = some o := fun b o nb q => (Heap.get?_update_other _ _ (Ne.symm nb)).trans q
      refine wpAny_pure ⟨plainId_quiet PySem.F.plain_max_loop _, ih (j + 1) _ v _ (by omega) lt (W.frame _ _ _ st1 fun b hb o q => keep2 b o (fun z => off (z ▸ hb)) q) (by simp only [argBest, hb, if_true]; exact pv)
        (fun b o q => keep2 b o (nw b o q).2 (hs1 b o q)) (Heap.get?_update_self _ hc1 rfl) fun v' h2 t2 p2 k2 => fin v' h2 t2 p2 fun b o nb nc q => k2 b o nb nc (keep2 b o nc (k1 b o nb q))⟩
    | false =>
      simp only [Bool.false_eq_true, if_false]
      refine wpAny_bind (wpAny_letGo ?_)
      rw [nm]
      exact wpAny_pure ⟨plainId_quiet PySem.F.plain_max_loop _, ih (j + 1) _ u e (by omega) lt st1 (by simp only [argBest, hb, Bool.false_eq_true, if_false]; exact pu) hs1 hc1 fun v' h2 t2 p2 k2 => fin v' h2 t2 p2 fun b o nb nc q => k2 b o nb nc (k1 b o nb q)⟩
theorem maxfirst (W : Walks P w A.in1 I fp wr n Pv St) (bt : Nat → Nat → Bool) (cm : CmpH P w A.in1 .Gt h0 Pv bt) (c : Addr) (off : c ∉ fp) (nw : ∀ b o, h0.get? b = some o → b ∉ wr ∧ b ≠ c) (pos : 0 < n) {s : Shared} {e : Nat} (st : St 0 s.heap)
    (hs : ∀ b o, h0.get? b = some o → s.heap.get? b = some o) (hc : s.heap.get? c = some { cls := .type "list", dict := none, data := .seq #[] e, slots := #[] })
    (fin : ∀ v h' tk, Pv (argBest bt (n - 1)) v → (∀ b o, b ∉ wr → b ≠ c → s.heap.get? b = some o → h'.get? b = some o) → R (.ok (.ret v)) { s with heap := h', toks := tk }) : codeAny (model P w) A (.builtin "max.loop" ⟨[.ref I, .none, .ref c], []⟩) R s := by
  have offw : c ∉ wr := fun z => off (W.sub _ z)
  have nm : (toString "max" ++ toString ".loop" : String) = "max.loop" := by decide
  refine codeAny_builtin PySem.F.entry_max_loop ?_; rw [Around.under_plainId PySem.F.plain_max_loop _]
  show wpAny _ A.in1 (seqItems? (.ref c) >>= _) _ _ s
  refine wpAny_bind (wpAny_seqItems hc rfl ?_)
  show wpAny _ A.in1 (tryCatch (pyNext (.ref I)) _ >>= _) _ _ s
  refine wpAny_bind (wpAny_tryCatch (W.item 0 s _ _ pos st fun v h1 tk pv st1 k1 => ?_))
  have hc1 := k1 c _ offw hc
  show wpAny _ A.in1 (updateSeq c (fun _ => #[v, v]) >>= _) _ _ _
  refine wpAny_bind (wpAny_updateSeq hc1 rfl ?_)
  rw [nm]
  have keep2 : ∀ b o, b ≠ c → h1.get? b = some o → (h1.update c (Obj.mapSeq fun _ => #[v, v])).get? b = some o := fun b o nb q => (Heap.get?_update_other _ _ (Ne.symm nb)).trans q
  exact wpAny_pure ⟨plainId_quiet PySem.F.plain_max_loop _, maxloop W bt cm c off nw _ 0 _ v _ rfl pos (W.frame _ _ _ st1 fun b hb o q => keep2 b o (fun z => off (z ▸ hb)) q) pv (fun b o q => keep2 b o (nw b o q).2 (k1 b o (nw b o q).1 (hs b o q))) (Heap.get?_update_self _ hc1 rfl)
    fun v' h2 t2 p2 k2 => fin v' h2 t2 p2 fun b o nb nc q => k2 b o nb nc (keep2 b o nc (k1 b o nb q))⟩
variable {E : Value → Shared → Prop} {s : Shared}
theorem call_maxD {l : Addr} {its : Array Value} {Q : Value → Shared → Prop} (bt : Nat → Nat → Bool) (hh : A.handled = none) (hl : s.heap.IsList l its) (pos : 0 < its.size) (cm : CmpH P w A.in1 .Gt s.heap (fun i v => its[i]? = some v) bt)
    (h : ∀ v h' tk, its[argBest bt (its.size - 1)]? = some v → (∀ b o, s.heap.get? b = some o → h'.get? b = some o) → Q v { s with heap := h', toks := tk }) : wpAny (model P w) A (call (.builtin "max") [.ref l]) Q E s := by
  have nm : (toString "max" ++ toString ".loop" : String) = "max.loop" := by decide
  refine call_function_tree PySem.F.kind_max PySem.F.plain_max PySem.F.entry_max (PySem.F.args_max1 _) ?_
  show wpAny _ A.in1 (Builtin.Builtins.bindParams "max" ["key", "default"] 0 ⟨[], []⟩ >>= _) _ _ s
  refine wpAny_bind (wpAny_of_eq (show Builtin.Builtins.bindParams "max" ["key", "default"] 0 ⟨[], []⟩ = pure [none, none] from rfl) (wpAny_bind (wpAny_pure ?_)))
  refine wpAny_bind (wpAny_pyIter_list hl ?_)
  obtain ⟨o, ho, q1, nl, q2⟩ := hl
  have ls : l < s.heap.objs.size := Heap.lt_size ho
  refine wpAny_bind (wpAny_newObj_type ?_)
  have z1 : (s.heap.push { cls := .type "list_iterator", data := .fields #[.ref l, .int 0 0] }).objs.size = s.heap.objs.size + 1 := Heap.size_push ..
  have nI : l ≠ s.heap.objs.size := Nat.ne_of_lt ls
  have W := Walks.list (prog := P) (w := w) (A := A.in1) hh s.heap.objs.size l nI its
  rw [nm]
  have k0 : ∀ b o, s.heap.get? b = some o → ((s.heap.push { cls := .type "list_iterator", data := .fields #[.ref l, .int 0 0] }).push { cls := .type "list", data := .seq ([] : List Value).toArray }).get? b = some o := fun b o e => Heap.get?_push_of_some _ (Heap.get?_push_of_some _ e)
  refine wpAny_pure ⟨plainId_quiet PySem.F.plain_max_loop _, maxfirst (h0 := s.heap) W bt cm (s.heap.push { cls := .type "list_iterator", data := .fields #[.ref l, .int 0 0] }).objs.size ?_ (fun b o e => ?_) pos ⟨⟨_, Heap.get?_push_of_some _ (Heap.get?_push_size _ rfl), rfl, rfl⟩, ⟨o, k0 l o ho, q1, nl, q2⟩⟩ k0 (Heap.get?_push_size _ rfl) fun v h1 tk pv k1 => ?_⟩
  · rw [z1, List.mem_cons, List.mem_singleton]
    exact fun z => z.elim (Nat.ne_of_gt (Nat.lt_succ_self _)) (Nat.ne_of_gt (Nat.lt_succ_of_lt ls))
  · have lb := Heap.lt_size e
    refine ⟨fun z => Nat.ne_of_lt lb (List.mem_singleton.mp z), ?_⟩
    rw [z1]; exact Nat.ne_of_lt (Nat.lt_succ_of_lt lb)
  · refine h v h1 tk pv fun b o e => k1 b o (fun z => Nat.ne_of_lt (Heap.lt_size e) (List.mem_singleton.mp z)) ?_ (k0 b o e)
    rw [z1]; exact Nat.ne_of_lt (Nat.lt_succ_of_lt (Heap.lt_size e))
end
/-! ### the first best -/
theorem bstL_arg {α : Type} (lt : α → α → Bool) (l : List α) (d0 : α) : ∀ (n : Nat), n < l.length → ∃ a, bstL lt (l.take (n + 1)) = some a ∧ l[argBest (fun i j => lt (l.getD i d0) (l.getD j d0)) n]? = some a ∧ argBest (fun i j => lt (l.getD i d0) (l.getD j d0)) n ≤ n
  | 0, h => by
    cases l with
    | nil => simp at h
    | cons x l => exact ⟨x, rfl, rfl, Nat.le_refl _⟩
  | n + 1, h => by
    obtain ⟨a, h1, h2, h3⟩ := bstL_arg lt l d0 n (by omega)
    have hx : l[n + 1]? = some l[n + 1] := List.getElem?_eq_getElem h
    have e : l.take (n + 1 + 1) = l.take (n + 1) ++ [l[n + 1]] := by rw [List.take_add_one, hx]; rfl
    have eb : bstL lt (l.take (n + 1 + 1)) = some (if lt l[n + 1] a = true then l[n + 1] else a) := by
      rw [e]
      cases q : l.take (n + 1) with
      | nil => rw [q] at h1; cases h1
      | cons y ys =>
        rw [q] at h1
        have h1 : some (ys.foldl (fun a b => if lt b a = true then b else a) y) = some a := h1
        cases h1
        show some (List.foldl _ y (ys ++ [l[n + 1]])) = _
        rw [List.foldl_append]; rfl
    have ga : l.getD (argBest (fun i j => lt (l.getD i d0) (l.getD j d0)) n) d0 = a := by rw [List.getD_eq_getElem?_getD, h2]; rfl
    have gx : l.getD (n + 1) d0 = l[n + 1] := by rw [List.getD_eq_getElem?_getD, hx]; rfl
    refine ⟨_, eb, ?_, ?_⟩
    · show l[if (lt (l.getD (n + 1) d0) (l.getD (argBest (fun i j => lt (l.getD i d0) (l.getD j d0)) n) d0)) = true then n + 1 else argBest (fun i j => lt (l.getD i d0) (l.getD j d0)) n]? = _
      rw [ga, gx]
      split
      · exact hx
      · exact h2
    · show (if (lt (l.getD (n + 1) d0) (l.getD (argBest (fun i j => lt (l.getD i d0) (l.getD j d0)) n) d0)) = true then n + 1 else argBest (fun i j => lt (l.getD i d0) (l.getD j d0)) n) ≤ n + 1
      split <;> omega
theorem bstL_last {α : Type} (lt : α → α → Bool) {l : List α} (d0 : α) {a : α} (h : bstL lt l = some a) : 0 < l.length ∧ l[argBest (fun i j => lt (l.getD i d0) (l.getD j d0)) (l.length - 1)]? = some a := by
  have pos : 0 < l.length := by cases l with | nil => cases h | cons _ _ => simp
  obtain ⟨b, h1, h2, _⟩ := bstL_arg lt l d0 (l.length - 1) (by omega)
  rw [List.take_of_length_le (by omega), h] at h1
  cases h1
  exact ⟨pos, h2⟩
theorem each_get {α β : Type} {R : α → β → Prop} : ∀ {us : List α} {bs : List β} (i : Nat) {u : α}, PySem.W.EachIs R us bs → us[i]? = some u → ∃ b, bs[i]? = some b ∧ R u b
  | _, _, i, u, .nil, h => by simp at h
  | _, _, 0, u, .cons r t, h => by simp at h; subst h; exact ⟨_, rfl, r⟩
  | _, _, i + 1, u, .cons r t, h => by
    obtain ⟨b, h1, h2⟩ := each_get i t (by simpa using h)
    exact ⟨b, by simpa using h1, h2⟩
section
variable {X : Cx} {G : Nat → Addr} {W : WX}
theorem cmp_zip {H : Hp} {h : HD} {s : Shared} {pins : List (Addr × Obj)} {σ : L2.St} {ds : List D} {ps : List PyData} {its : List Value} (I : Inv X pins σ H s) (rh : RH X.K G H h) (e : PySem.W.EachIs (RS1 X.K G H h) its (ds.zip ps)) (el : ds.length = ps.length) (al : PySem.W.AllAlike ps) (nn : ∀ p ∈ ps, p ≠ .none) (dp : PyData.depthAll ps ≤ 64) (hu : X.A.units + 70 < cLine) :
    ∀ (i j : Nat) (u v : Value) (s1 : Shared), (∀ b o, s.heap.get? b = some o → s1.heap.get? b = some o) → its[i]? = some u → its[j]? = some v → ∃ p q as bs, (ds.zip ps).getD i (.non, .none) = (((ds.zip ps).getD i (.non, .none)).1, p) ∧ (ds.zip ps).getD j (.non, .none) = (((ds.zip ps).getD j (.non, .none)).1, q) ∧
      Reads s1.heap u p as ∧ Reads s1.heap v q bs ∧ PySem.W.alike p q = true ∧ p ≠ .none ∧ q ≠ .none ∧ p.depth ≤ 64 := fun i j u v s1 k hu hv => by
  obtain ⟨a, a1, w, a2, a3, a4⟩ := each_get i e hu
  obtain ⟨b, b1, y, b2, b3, b4⟩ := each_get j e hv
  have z2 := zip_snd ds ps el
  have ma : a.2 ∈ ps := by rw [← z2]; exact List.mem_map.mpr ⟨a, List.mem_of_getElem? a1, rfl⟩
  have mb : b.2 ∈ ps := by rw [← z2]; exact List.mem_map.mpr ⟨b, List.mem_of_getElem? b1, rfl⟩
  obtain ⟨as, ra⟩ := Dp.reads I a.2 w u (a4.dp rh a3) a2
  obtain ⟨bs, rb⟩ := Dp.reads I b.2 y v (b4.dp rh b3) b2
  have ea : (ds.zip ps).getD i (.non, .none) = a := by rw [List.getD_eq_getElem?_getD, a1]; rfl
  have eb : (ds.zip ps).getD j (.non, .none) = b := by rw [List.getD_eq_getElem?_getD, b1]; rfl
  exact ⟨a.2, b.2, as, bs, by rw [ea], by rw [eb], PyProof.Rows.Reads.keeps k ra, PyProof.Rows.Reads.keeps k rb, al _ ma _ mb, nn _ ma, nn _ mb, Nat.le_trans (depth_mem ma) dp⟩
theorem c_min (hc : X.calm = true) (hu : X.A.units + 70 < cLine) : CallR X (.builtin "min") (lct X.K G (blV .min)) := by
  rintro pins s σ H xs us Q I r ⟨v, ds, g, h, q, rfl, it, rh, ⟨gl, hz⟩, k⟩
  obtain ⟨p, vs, rfl, s1, s2, s3⟩ := itL it rh gl
  rcases hz with ⟨ns, m, rfl, hm, hy, hr⟩ | ⟨ps, z, hp, al, nn, dp, hb, hr⟩
  · have := rds_ints s2
    subst this
    refine cr_min hc pins s σ H _ us Q I r ⟨p, ns, rfl, s1, List.length_pos_of_mem hm, fun m' h1 h2 => ?_⟩
    have e : m' = m := Int.le_antisymm (h2 m hm) (hy m' h1)
    subst e
    exact k _ _ _ _ Fx.refl (.int _) rh hr
  · obtain ⟨its, rv, pl, hz⟩ := I.list s1
    rw [Vals.ref1 r]
    have el := pys_len hp
    have e := each_rs s2 hp rv
    have c0 := cmp_zip I rh e el al nn dp hu
    obtain ⟨pos, last⟩ := bstL_last _ (D.non, PyData.none) hb
    have zl : its.length = (ds.zip ps).length := PySem.W.EachIs.length e
    refine call_minD (its := its.toArray) (fun i j => PySem.W.dataLt ((ds.zip ps).getD i (.non, .none)).2 ((ds.zip ps).getD j (.non, .none)).2) (I.ok.hd hc) pl.isList (by simpa [zl] using pos) (fun i j u v st Z E keep hi hj hq => ?_) fun v h' tk hv keep => ?_
    · obtain ⟨p, q, as, bs, e1, e2, ra, rb, hal, hp0, hq0, hd⟩ := c0 i j u v st keep (by simpa using hi) (by simpa using hj)
      refine PySem.W.lt_data ra rb hal hp0 ?_ ?_
      · have : min p.depth q.depth ≤ p.depth := Nat.min_le_left _ _
        simp only [PySem.Around.in1_units]; omega
      · dsimp only at hq; rw [e1, e2] at hq; exact hq
    · rw [show its.toArray.size = (ds.zip ps).length by rw [List.size_toArray, zl]] at hv
      obtain ⟨b, b1, w, b2, b3, _⟩ := each_get _ e (by rw [← Array.getElem?_toList] at hv; exact hv)
      rw [last] at b1
      cases b1
      exact ⟨w, H, I.kept keep, b2, k _ _ _ _ Fx.refl b3 rh hr⟩
theorem c_max (hc : X.calm = true) (hu : X.A.units + 70 < cLine) : CallR X (.builtin "max") (lct X.K G (blV .max)) := by
  rintro pins s σ H xs us Q I r ⟨v, ds, g, h, q, rfl, it, rh, ⟨gl, hz⟩, k⟩
  obtain ⟨p, vs, rfl, s1, s2, s3⟩ := itL it rh gl
  rcases hz with ⟨ns, m, rfl, hm, hy, hr⟩ | ⟨ps, z, hp, al, nn, dp, hb, hr⟩
  · have := rds_ints s2
    subst this
    refine cr_max hc pins s σ H _ us Q I r ⟨p, ns, rfl, s1, List.length_pos_of_mem hm, fun m' h1 h2 => ?_⟩
    have e : m' = m := Int.le_antisymm (hy m' h1) (h2 m hm)
    subst e
    exact k _ _ _ _ Fx.refl (.int _) rh hr
  · obtain ⟨its, rv, pl, hz⟩ := I.list s1
    rw [Vals.ref1 r]
    have el := pys_len hp
    have e := each_rs s2 hp rv
    have c0 := cmp_zip I rh e el al nn dp hu
    obtain ⟨pos, last⟩ := bstL_last _ (D.non, PyData.none) hb
    have zl : its.length = (ds.zip ps).length := PySem.W.EachIs.length e
    refine call_maxD (its := its.toArray) (fun i j => PySem.W.dataLt ((ds.zip ps).getD j (.non, .none)).2 ((ds.zip ps).getD i (.non, .none)).2) (I.ok.hd hc) pl.isList (by simpa [zl] using pos) (fun i j u v st Z E keep hi hj hq => ?_) fun v h' tk hv keep => ?_
    · obtain ⟨p, q, as, bs, e1, e2, ra, rb, hal, hp0, hq0, hd⟩ := c0 i j u v st keep (by simpa using hi) (by simpa using hj)
      refine PySem.W.gt_data ra rb hal hp0 ?_ ?_
      · have : min p.depth q.depth ≤ p.depth := Nat.min_le_left _ _
        simp only [PySem.Around.in1_units]; omega
      · dsimp only at hq; rw [e1, e2] at hq; exact hq
    · rw [show its.toArray.size = (ds.zip ps).length by rw [List.size_toArray, zl]] at hv
      obtain ⟨b, b1, w, b2, b3, _⟩ := each_get _ e (by rw [← Array.getElem?_toList] at hv; exact hv)
      rw [last] at b1
      cases b1
      exact ⟨w, H, I.kept keep, b2, k _ _ _ _ Fx.refl b3 rh hr⟩
theorem p_clear {o : Expr} {to : TED} {apos cpos : Pos} (ho : PE X o (lift X.K G W to)) (hb : (!isCall0 o) = true) (hl : (apos.endLine == cpos.line) = true) :
    PE X (.Call (.Attribute o "clear" apos) [] [] cpos) (lift X.K G W fun σ h q x => to σ h (fun d h1 => bmT .clear d h1 ∧ bmV .clear d [] h1 q) x) :=
  PE.imp (pe_bm0 PySem.F.plainAttrs_list PySem.F.slot_list_clear PySem.F.type_list_clear mt_clear ho (base_no hb _ _ _) hl)
    fun σ H Q ⟨a, h, q, x, rs, rh, ht, k, kx⟩ => ⟨a, h, _, x, rs, rh, ht, fun d h1 v1 H1 fx1 rd1 rh1 ⟨hq0, hq1⟩ => by
      cases rd1 with
      | ref l =>
        unfold bmV at hq1; dsimp only at hq1
        split at hq1
        · rename_i xs e2
          obtain ⟨vs, g2, g3, g4⟩ := rh1 l _ e2
          exact ⟨.inl ⟨rfl, vs, .inl (.inl g2)⟩, l, vs, rfl, rfl, g2, k _ _ _ _ (fx1.trans (Fx.wr e2 g2 (fun z => z))) .non (rh1.wrL g2 (fun z => z) (Nat.zero_le _) .nil) hq1⟩
        · exact hq1.elim
      | _ => exact False.elim hq1, kx⟩
theorem p_clearD {o : Expr} {to : TED} {apos cpos : Pos} (ho : PE X o (lift X.K G W to)) (hb : (!isCall0 o) = true) (hl : (apos.endLine == cpos.line) = true) :
    PE X (.Call (.Attribute o "clear" apos) [] [] cpos) (lift X.K G W fun σ h q x => to σ h (fun d h1 => bmT .clearD d h1 ∧ bmV .clearD d [] h1 q) x) :=
  PE.imp (pe_dclear ho (base_no hb _ _ _) hl)
    fun σ H Q ⟨a, h, q, x, rs, rh, ht, k, kx⟩ => ⟨a, h, _, x, rs, rh, ht, fun d h1 v1 H1 fx1 rd1 rh1 ⟨hq0, hq1⟩ => by
      cases rd1 with
      | ref l =>
        unfold bmV at hq1; dsimp only at hq1
        split at hq1
        · rename_i xs e2
          obtain ⟨vs, g2, g3, g4, g5⟩ := rh1 l _ e2
          exact ⟨.inr (.inr (.inl ⟨rfl, .inl ⟨vs, g2⟩⟩)), l, vs, rfl, rfl, g2, k _ _ _ _ (fx1.trans (Fx.wr e2 g2 (fun z => z))) .non (rh1.wr (m := .dic []) g2 (fun z => z) ⟨[], upd_same, Nat.zero_le _, .nil, fun _ z => by cases z⟩) hq1⟩
        · exact hq1.elim
      | _ => exact False.elim hq1, kx⟩
end
end Nd
/-! Nd13: the induction over the small syntax. -/
namespace Nd
open PySem PySem.Spec PyProof.Rows L2
section
variable {X : Cx} {G : Nat → Addr} {W : WX} {C : Ca} {c : Cf} {sc : Scope} {n : Nat}
theorem and2 {a b : Bool} (h : (a && b) = true) : a = true ∧ b = true := Bool.and_eq_true_iff.mp h
theorem opR_no {f : Value → Value → Sem Value} : OpR X f (lop X.K G fun _ _ _ _ => False) := fun _ _ _ _ _ _ _ _ _ _ _ _ ⟨_, _, _, _, _, _, _, f, _⟩ => f.elim
theorem opR_ok (o : Operator) : OpR X (binaryOp o) (lop X.K G (opV o)) := by
  cases o with
  | Add => exact s_add
  | Sub => exact s_sub
  | Mult => exact s_mul
  | FloorDiv => exact s_div
  | Mod => exact s_mod
  | Pow => exact s_pow
  | _ => exact opR_no
theorem cmR_ok (hu : X.A.units + 65 < cLine) (o : CmpOp) : OpR X (compareOp o) (lop X.K G (cmV o)) := by
  have h1 : X.A.units + 64 < cLine := by omega
  cases o with
  | Eq => exact s_eq h1
  | NotEq => exact s_ne h1
  | Lt => exact s_lt h1
  | LtE => exact s_le h1
  | Gt => exact s_gt h1
  | GtE => exact s_ge h1
  | Is => exact s_is
  | IsNot => exact s_isn
  | In => exact s_in hu
  | NotIn => exact s_nin hu
theorem Co.u65 (co : Co X G W C c sc n) : X.A.units + 65 < cLine := by
  have := co.room.un
  omega
theorem Co.u70 (co : Co X G W C c sc n) : X.A.units + 70 < cLine := by
  have := co.room.un
  omega
theorem boot_ty {m : String} (h : tyS m = true) : bootBuiltins (Str.ofString m) = some (.type m) := by
  unfold tyS at h
  simp only [Bool.or_eq_true, beq_iff_eq] at h
  rcases h with (((((h | h) | h) | h) | h) | h) | h <;> (subst h; decide +kernel)
theorem bi_no {x : Str} {l : List Expr} {p pos : Pos} {d : TED} (h : ∀ σ h q r, ¬ d σ h q r) : Snd X G W (Dn.of d) (.Call (.Name x p) l [] pos) :=
  snd_of (pe_false fun _ _ _ ⟨_, _, _, _, _, _, f, _⟩ => h _ _ _ _ f) rfl
theorem snd_bi (co : Co X G W C c sc n) {b : BI} {x : Str} {l : List Expr} {d : Dns} {p pos : Pos} (h1 : bltB c sc x (biN b) = true) (hd : SndS X G W d l) (h2 : l.length = biA b) :
    Snd X G W (Dn.of fun σ h q r => d.a σ h (fun ds h1 => biV C.exm b ds h1 q) r) (.Call (.Name x p) l [] pos) := by
  obtain ⟨e, gl, mg, o1, o2⟩ := blt_ok co h1
  cases l with
  | nil => cases b <;> cases h2
  | cons e0 es =>
    refine snd_of ?_ rfl
    cases b with
    | isi => exact p_biB (c_isi co.gf.exm) gl mg (by rw [e]; decide +kernel) hd.a o2 o1 hd.ns
    | len => exact p_biB c_len gl mg (by rw [e]; decide +kernel) hd.a o2 o1 hd.ns
    | abs => exact p_biB c_abs gl mg (by rw [e]; decide +kernel) hd.a o2 o1 hd.ns
    | int1 => exact p_biT c_int1 gl mg (by rw [e]; decide +kernel) hd.a o2 o1 hd.ns
    | max2 => exact p_biB (c_max2 co.calm) gl mg (by rw [e]; decide +kernel) hd.a o2 o1 hd.ns
    | min2 => exact p_biB (c_min2 co.calm) gl mg (by rw [e]; decide +kernel) hd.a o2 o1 hd.ns
    | max3 => exact p_biB (c_max3 co.calm) gl mg (by rw [e]; decide +kernel) hd.a o2 o1 hd.ns
    | str1 => exact p_biT c_str1 gl mg (by rw [e]; decide +kernel) hd.a o2 o1 hd.ns
    | repr1 => exact p_biB (c_repr co.gd co.u70) gl mg (by rw [e]; decide +kernel) hd.a o2 o1 hd.ns
    | bool1 => exact p_biT (r := biV C.exm .bool1) (id := "bool") (fun _ _ _ _ _ _ _ _ _ ⟨ds, _, _, _, _, hr, _⟩ => by cases ds <;> exact False.elim hr) gl mg (by rw [e]; decide +kernel) hd.a o2 o1 hd.ns
theorem lct_no {f : Value} {r : List D → Gd → HD → VQ → Prop} (h : ∀ xs g h q, ¬ r xs g h q) : CallR X f (lct X.K G r) := fun _ _ _ _ _ _ _ _ _ ⟨_, _, _, _, _, _, _, _, hr, _⟩ => absurd hr (h _ _ _ _)
theorem snd_bl (co : Co X G W C c sc n) {b : BL} {x : Str} {e0 : Expr} {d : Dn} {p pos : Pos} (h1 : bltB c sc x (blN b) = true) (hd : Snd X G W d e0) (h2 : (!isStar e0) = true) :
    Snd X G W (Dn.of fun σ h q r => d.i σ h (fun xs g h1 => blV b xs g h1 q) r) (.Call (.Name x p) [e0] [] pos) := by
  obtain ⟨e, gl, mg, o1, o2⟩ := blt_ok co h1
  refine snd_of ?_ rfl
  cases b with
  | tuple => exact p_blT c_tuple gl mg (by rw [e]; decide +kernel) hd.i o2 o1 h2
  | list => exact p_blT (c_list co.calm) gl mg (by rw [e]; decide +kernel) hd.i o2 o1 h2
  | sum => exact p_blB (c_sum co.calm) gl mg (by rw [e]; decide +kernel) hd.i o2 o1 h2
  | max => exact p_blB (c_max co.calm co.u70) gl mg (by rw [e]; decide +kernel) hd.i o2 o1 h2
  | min => exact p_blB (c_min co.calm co.u70) gl mg (by rw [e]; decide +kernel) hd.i o2 o1 h2
  | all => exact p_blB (c_all co.calm) gl mg (by rw [e]; decide +kernel) hd.i o2 o1 h2
  | any => exact p_blB (c_any co.calm) gl mg (by rw [e]; decide +kernel) hd.i o2 o1 h2
  | sorted => exact p_blB (c_sorted co.u65 co.u70) gl mg (by rw [e]; decide +kernel) hd.i o2 o1 h2
  | dict => exact p_blT (id := "dict") (c_dict co.calm) gl mg (by rw [e]; decide +kernel) hd.i o2 o1 h2
theorem snd_src (co : Co X G W C c sc n) {k : ItK} {d : Dns} {it tx : Expr} {es : Es} (h : srcOk (fun m => chkEs c sc es m) c sc k tx it = true) (hs : ∀ l, chkEs c sc es l = true → SndS X G W d l) : PI X tx it (liftP X.K G W (srcV k d)) := by
  by_cases hk : k = .seq
  · subst hk
    have s := hs [it] h
    obtain ⟨d', s', e, _⟩ := s.one it rfl
    show PI X tx it (liftP X.K G W fun σ h q r => d.i σ h (fun xs g h1 => g.all Gd.walk = true ∧ q xs g h1) r)
    rw [e]
    exact i_seq s'.i
  · cases it with
    | Call f m ks p => cases f with
      | Name y p2 => cases ks with
        | nil =>
          have h : (bltB c sc y (itN k) && chkEs c sc es m && decide (itA k = some m.length) && (!itT k || isTup tx)) = true := by
            cases k <;> first | exact absurd rfl hk | exact h
          obtain ⟨h, h4⟩ := and2 h
          obtain ⟨h, h3⟩ := and2 h
          obtain ⟨h1, h2⟩ := and2 h
          have s := hs m h2
          have ns := s.ns
          obtain ⟨e, gl, mg, o1, o2⟩ := blt_ok co h1
          have h3 := of_decide_eq_true h3
          cases k with
          | rng1 =>
            match m, h3, s, ns with
            | [a], _, s, ns => subst e; exact i_rng1 gl mg s.a (and2 ns).1
          | rng2 =>
            match m, h3, s, ns with
            | [a, b], _, s, ns => subst e; exact i_rng2 gl mg s.a (and2 ns).1 (and2 (and2 ns).2).1
          | rng3 =>
            match m, h3, s, ns with
            | [a, b, c], _, s, ns => subst e; exact i_rng3 gl mg s.a (and2 ns).1 (and2 (and2 ns).2).1 (and2 (and2 (and2 ns).2).2).1
          | zip2 =>
            cases tx with
            | Tuple el kk tp =>
              match m, h3, s, ns with
              | [a, b], _, s, ns => subst e; exact i_zip2 gl mg s.a (and2 ns).1 (and2 (and2 ns).2).1
            | _ => cases h4
          | zip3 =>
            cases tx with
            | Tuple el kk tp =>
              match m, h3, s, ns with
              | [a, b, c], _, s, ns => subst e; exact i_zip3 gl mg s.a (and2 ns).1 (and2 (and2 ns).2).1 (and2 (and2 (and2 ns).2).2).1
            | _ => cases h4
          | zipS =>
            cases tx with
            | Tuple el kk tp =>
              match m, h3, s, ns with
              | [a, b], _, s, ns => subst e; exact i_zipS gl mg s.a (and2 ns).1 (and2 (and2 ns).2).1
            | _ => cases h4
          | enumT =>
            cases tx with
            | Tuple el kk tp =>
              match m, h3, s, ns with
              | [a], _, s, ns => subst e; exact i_enumT gl mg s.a (and2 ns).1
            | _ => cases h4
          | enum =>
            cases tx with
            | Tuple el kk tp =>
              match m, h3, s, ns with
              | [a], _, s, ns => subst e; exact i_enum gl mg s.a (and2 ns).1
            | _ => cases h4
          | rev =>
            match m, h3, s, ns with
            | [a], _, s, ns =>
              subst e
              obtain ⟨d', s', _, e'⟩ := s.one a rfl
              exact i_rev (te := d'.v) gl mg s'.v e' (and2 ns).1
          | _ => cases h3
        | cons _ _ => cases k <;> first | exact absurd rfl hk | cases h
      | Attribute x y ap => cases m with
        | nil => cases ks with
          | nil => cases k with
            | items =>
              have h : (decide (y = "items") && chkEs c sc es [x] && isTup tx && (ap.endLine == p.line) && !isCall0 x) = true := h
              obtain ⟨h, h5⟩ := and2 h
              obtain ⟨h, h4⟩ := and2 h
              obtain ⟨h, h3⟩ := and2 h
              obtain ⟨h1, h2⟩ := and2 h
              have e1 := of_decide_eq_true h1
              subst e1
              cases tx with
              | Tuple el kk tp =>
                obtain ⟨d', s', _, e'⟩ := (hs [x] h2).one x rfl
                show PI X _ _ (liftP X.K G W fun σ h q r => d.a σ h (fun ds h1 => itK .items ds h1 q) r)
                rw [e']
                exact i_items s'.v h5 h4
              | _ => cases h3
            | values =>
              have h : (decide (y = "values") && chkEs c sc es [x] && (ap.endLine == p.line) && !isCall0 x) = true := h
              obtain ⟨h, h5⟩ := and2 h
              obtain ⟨h, h4⟩ := and2 h
              obtain ⟨h1, h2⟩ := and2 h
              have e1 := of_decide_eq_true h1
              subst e1
              obtain ⟨d', s', _, e'⟩ := (hs [x] h2).one x rfl
              show PI X _ _ (liftP X.K G W fun σ h q r => d.a σ h (fun ds h1 => itK .values ds h1 q) r)
              rw [e']
              exact i_values s'.v h5 h4
            | seq => exact absurd rfl hk
            | _ => cases h
          | cons _ _ => cases k <;> first | exact absurd rfl hk | cases h
        | cons _ _ => cases k <;> first | exact absurd rfl hk | cases h
      | _ => cases k <;> first | exact absurd rfl hk | cases h
    | _ => cases k <;> first | exact absurd rfl hk | cases h
end
end Nd
/-! Nd14: the induction over the small syntax. -/
namespace Nd
open PySem PySem.Spec PyProof.Rows L2
section
variable {C : Ca} {c : Cf}
theorem nno {b : Bool} (h : (!b) = true) : b = false := by cases b <;> first | rfl | cases h
mutual
theorem snd_E : ∀ (t : E) (e : Expr) {X : Cx} {G : Nat → Addr} {W : WX} {sc : Scope} {n : Nat} (co : Co X G W C c sc n), chkE c sc t e = true → Snd X G W (den C t) e
  | .var i, e, X, G, W, sc, n, co, h => by
    cases e with
    | Name x p =>
      obtain ⟨h, h3⟩ := and2 (show (decide (c.N[i]? = some x) && visB sc x && !odd x) = true from h)
      obtain ⟨h1, h2⟩ := and2 h
      exact snd_of (p_var co (of_decide_eq_true h1) h2 h3) rfl
    | _ => cases h
  | .cst d, e, X, G, W, sc, n, co, h => by
    cases e with
    | Constant v k p =>
      cases d with
      | non => cases v with
        | none => exact snd_of (p_con pe_non fun _ => .non) rfl
        | _ => cases h
      | bl b => cases v with
        | bool b' =>
          have e := beq_iff_eq.mp (show (b == b') = true from h)
          subst e
          exact snd_of (p_con pe_bl fun _ => .bl b) rfl
        | _ => cases h
      | int b => cases v with
        | int b' =>
          have e := beq_iff_eq.mp (show (b == b') = true from h)
          subst e
          exact snd_of (p_con pe_int fun _ => .int b) rfl
        | _ => cases h
      | str b => cases v with
        | str b' =>
          obtain ⟨h, h3⟩ := and2 (show (decide (b = b') && decide (b.length ≤ sizeLine) && PyData.strOk b) = true from h)
          obtain ⟨h1, h2⟩ := and2 h
          have e := of_decide_eq_true h1
          subst e
          exact snd_of (p_con pe_str fun _ => .str b ⟨of_decide_eq_true h2, h3⟩) rfl
        | _ => cases h
      | _ => cases h
    | _ => cases d <;> cases h
  | .gl y d, e, X, G, W, sc, n, co, h => by
    cases e with
    | Name x p =>
      obtain ⟨h, h4⟩ := and2 (show (decide (x = y) && gloB sc x && !odd x && (match c.consts.lookup x with
        | some e => dEq d e
        | none => false)) = true from h)
      obtain ⟨h, h3⟩ := and2 h
      obtain ⟨h1, h2⟩ := and2 h
      split at h4
      · rename_i e' he
        have e := dEq_ok h4
        subst e
        exact snd_of (p_gl co h2 h3 he) rfl
      · cases h4
    | _ => cases h
  | .ty m, e, X, G, W, sc, n, co, h => by
    cases e with
    | Name x p =>
      obtain ⟨h1, h2⟩ := and2 (show (tyS m && bltB c sc x (Str.ofString m)) = true from h)
      obtain ⟨e, gl, mg, o1, o2⟩ := blt_ok co h2
      exact snd_of (p_con (pe_bltn (v := .ty m) gl mg (by rw [e]; exact boot_ty h1) rfl o2 o1) fun _ => .ty m) rfl
    | _ => cases h
  | .tup es, e, X, G, W, sc, n, co, h => by
    cases e with
    | Tuple l k p => exact snd_of (p_tup (snd_Es es l co h).a) rfl
    | _ => cases h
  | .lst es, e, X, G, W, sc, n, co, h => by
    cases e with
    | List l p =>
      have s := (snd_Es es l co h).a
      exact ⟨p_lst s, snd_t (p_lst s) rfl, i_lst s⟩
    | _ => cases h
  | .dic ks vs, e, X, G, W, sc, n, co, h => by
    cases e with
    | Dict l m p =>
      obtain ⟨h, h6⟩ := and2 (show (chkKs ks l && chkEs c sc vs m && decide (l.length = m.length) && decide (l.length ≤ 15) && decide (ks.Nodup) && ks.all keyB) = true from h)
      obtain ⟨h, h5⟩ := and2 h
      obtain ⟨h, h4⟩ := and2 h
      obtain ⟨h, h3⟩ := and2 h
      obtain ⟨h1, h2⟩ := and2 h
      by_cases h0 : l = []
      · subst h0
        have hm : m = [] := List.eq_nil_of_length_eq_zero (of_decide_eq_true h3).symm
        subst hm
        cases ks with
        | cons k ks => cases k <;> cases h1
        | nil => cases vs with
          | nil => exact snd_of p_dic0 rfl
          | cons _ _ => cases h2
      · exact snd_of (p_dic (snd_Es vs m co h2) h1 (of_decide_eq_true h3) (of_decide_eq_true h4) (of_decide_eq_true h5) h6 h0) rfl
    | _ => cases h
  | .bin o a b, e, X, G, W, sc, n, co, h => by
    cases e with
    | BinOp x o' y p =>
      obtain ⟨h, h3⟩ := and2 (show (decide (o = o') && chkE c sc a x && chkE c sc b y) = true from h)
      obtain ⟨h1, h2⟩ := and2 h
      have e := of_decide_eq_true h1
      subst e
      exact snd_of (p_bin (snd_E a x co h2).v (snd_E b y co h3).v (opR_ok o)) rfl
    | _ => cases h
  | .neg a, e, X, G, W, sc, n, co, h => by
    cases e with
    | UnaryOp o x p => cases o with
      | USub => exact snd_of (p_neg (snd_E a x co h).v) rfl
      | _ => cases h
    | _ => cases h
  | .cmp o a b, e, X, G, W, sc, n, co, h => by
    cases e with
    | Compare x os ys p =>
      match os, ys, h with
      | [o'], [y], h =>
        obtain ⟨h, h4⟩ := and2 (show (decide (o = o') && chkE c sc a x && chkE c sc b y && !isSet y) = true from h)
        obtain ⟨h, h3⟩ := and2 h
        obtain ⟨h1, h2⟩ := and2 h
        have e := of_decide_eq_true h1
        subst e
        have s1 := (snd_E a x co h2).v
        have s2 := (snd_E b y co h3).v
        exact ⟨p_cmp s1 s2 (cmR_ok co.u65 o) h4, t_cmp s1 s2 (cmR_ok co.u65 o) h4, i_no⟩
    | _ => cases h
  | .chn o o2 a b d, e, X, G, W, sc, n, co, h => by
    cases e with
    | Compare x os ys p =>
      match os, ys, h with
      | [o', p'], [y, z], h =>
        obtain ⟨h, h7⟩ := and2 (show (decide (o = o') && decide (o2 = p') && chkE c sc a x && chkE c sc b y && chkE c sc d z && !isSet y && !isSet z) = true from h)
        obtain ⟨h, h6⟩ := and2 h
        obtain ⟨h, h5⟩ := and2 h
        obtain ⟨h, h4⟩ := and2 h
        obtain ⟨h, h3⟩ := and2 h
        obtain ⟨h1, h2⟩ := and2 h
        have e := of_decide_eq_true h1
        have e' := of_decide_eq_true h2
        subst e e'
        have s1 := (snd_E a x co h3).v
        have s2 := (snd_E b y co h4).v
        have s3 := (snd_E d z co h5).v
        exact ⟨p_chn s1 s2 s3 (cmR_ok co.u65 o) (cmR_ok co.u65 o2) h7, t_chn s1 s2 s3 (cmR_ok co.u65 o) (cmR_ok co.u65 o2) h7, i_no⟩
    | _ => cases h
  | .nt a, e, X, G, W, sc, n, co, h => by
    cases e with
    | UnaryOp o x p => cases o with
      | Not =>
        have s := snd_E a x co h
        exact ⟨p_not s.v, t_not s.t, i_no⟩
      | _ => cases h
    | _ => cases h
  | .an es, e, X, G, W, sc, n, co, h => by
    cases e with
    | BoolOp o l p => cases o with
      | And =>
        obtain ⟨h1, h2⟩ := and2 (show (chkEs c sc es l && decide (2 ≤ l.length)) = true from h)
        have s := snd_Es es l co h1
        have hl := of_decide_eq_true h2
        have ne : l ≠ [] := fun z => by subst z; cases hl
        exact ⟨s.an ne p, (s.ant ne p).pt, s.ani hl p⟩
      | Or => cases h
    | _ => cases h
  | .or es, e, X, G, W, sc, n, co, h => by
    cases e with
    | BoolOp o l p => cases o with
      | And => cases h
      | Or =>
        obtain ⟨h1, h2⟩ := and2 (show (chkEs c sc es l && decide (2 ≤ l.length)) = true from h)
        have s := snd_Es es l co h1
        have hl := of_decide_eq_true h2
        have ne : l ≠ [] := fun z => by subst z; cases hl
        exact ⟨s.or ne p, (s.ort ne p).pt, s.ori hl p⟩
    | _ => cases h
  | .ife t a b, e, X, G, W, sc, n, co, h => by
    cases e with
    | IfExp x y z p =>
      obtain ⟨h, h3⟩ := and2 (show (chkE c sc t x && chkE c sc a y && chkE c sc b z) = true from h)
      obtain ⟨h1, h2⟩ := and2 h
      have v := p_ife (pos := p) (snd_E t x co h1).t (snd_E a y co h2).v (snd_E b z co h3).v
      exact ⟨v, pt_false fun _ _ _ ⟨_, _, _, _, _, _, f, _⟩ => f, snd_i v⟩
    | _ => cases h
  | .sub a i, e, X, G, W, sc, n, co, h => by
    cases e with
    | Subscript x y p =>
      have h : (chkE c sc a x && chkE c sc i y && !isSlice y) = true := h
      obtain ⟨h, h3⟩ := and2 h
      obtain ⟨h1, h2⟩ := and2 h
      exact snd_of (p_sub (by have := co.u65; omega) (snd_E a x co h1).v (snd_E i y co h2).v h3) rfl
    | _ => cases h
  | .sl0 a, e, X, G, W, sc, n, co, h => by
    cases e with
    | Subscript x y p => cases y with
      | Slice l u s p2 => cases l with
        | none => cases u with
          | none => cases s with
            | none => exact snd_of (p_sl0 (snd_E a x co h).v) rfl
            | some _ => cases h
          | some _ => cases s <;> cases h
        | some _ => cases u <;> cases s <;> cases h
      | _ => cases h
    | _ => cases h
  | .slL a lo, e, X, G, W, sc, n, co, h => by
    cases e with
    | Subscript x y p => cases y with
      | Slice l u s p2 => cases l with
        | none => cases u <;> cases s <;> cases h
        | some l => cases u with
          | none => cases s with
            | none =>
              obtain ⟨h1, h2⟩ := and2 (show (chkE c sc a x && chkE c sc lo l) = true from h)
              exact snd_of (p_slL (snd_E a x co h1).v (snd_E lo l co h2).v) rfl
            | some _ => cases h
          | some _ => cases s <;> cases h
      | _ => cases h
    | _ => cases h
  | .slU a hi, e, X, G, W, sc, n, co, h => by
    cases e with
    | Subscript x y p => cases y with
      | Slice l u s p2 => cases l with
        | some _ => cases u <;> cases s <;> cases h
        | none => cases u with
          | some u => cases s with
            | none =>
              obtain ⟨h1, h2⟩ := and2 (show (chkE c sc a x && chkE c sc hi u) = true from h)
              exact snd_of (p_slU (snd_E a x co h1).v (snd_E hi u co h2).v) rfl
            | some _ => cases h
          | none => cases s <;> cases h
      | _ => cases h
    | _ => cases h
  | .slB a lo hi, e, X, G, W, sc, n, co, h => by
    cases e with
    | Subscript x y p => cases y with
      | Slice l u s p2 => cases l with
        | none => cases u <;> cases s <;> cases h
        | some l => cases u with
          | some u => cases s with
            | none =>
              obtain ⟨h, h3⟩ := and2 (show (chkE c sc a x && chkE c sc lo l && chkE c sc hi u) = true from h)
              obtain ⟨h1, h2⟩ := and2 h
              exact snd_of (p_slB (snd_E a x co h1).v (snd_E lo l co h2).v (snd_E hi u co h3).v) rfl
            | some _ => cases h
          | none => cases s <;> cases h
      | _ => cases h
    | _ => cases h
  | .rvs a, e, X, G, W, sc, n, co, h => by
    cases e with
    | Subscript x y p =>
      match y, h with
      | .Slice none none (some (.UnaryOp .USub (.Constant (.int k) j p1) p2)) p3, h =>
        obtain ⟨h1, h2⟩ := and2 (show (decide (k = 1) && chkE c sc a x) = true from h)
        have h1 := of_decide_eq_true h1
        subst h1
        exact snd_of (p_rvs (snd_E a x co h2).v) rfl
    | _ => cases h
  | .attr a f, e, X, G, W, sc, n, co, h => snd_bad
  | .call f es, e, X, G, W, sc, n, co, h => by
    cases e with
    | Call g l ks p => cases g with
      | Name x p2 => cases ks with
        | nil =>
          have h : (gloB sc x && !odd x && decide (c.fns.lookup x = some f) && chkEs c sc es l) = true := h
          obtain ⟨h, h4⟩ := and2 h
          obtain ⟨h, h3⟩ := and2 h
          obtain ⟨h1, h2⟩ := and2 h
          have s := snd_Es es l co h4
          cases l with
          | nil =>
            cases es with
            | nil => exact snd_of (p_call0 co h1 h2 (of_decide_eq_true h3)) rfl
            | cons _ _ => cases h4
          | cons e0 l => exact snd_of (p_call co h1 h2 (of_decide_eq_true h3) s.a s.ns) rfl
        | cons _ _ => cases h
      | _ => cases h
    | _ => cases h
  | .callv i es, e, X, G, W, sc, n, co, h => by
    cases e with
    | Call g l ks p => cases g with
      | Name x p2 => cases ks with
        | nil =>
          have h : (decide (c.N[i]? = some x) && visB sc x && !odd x && decide (1 ≤ l.length) && chkEs c sc es l) = true := h
          obtain ⟨h, h5⟩ := and2 h
          obtain ⟨h, h4⟩ := and2 h
          obtain ⟨h, h3⟩ := and2 h
          obtain ⟨h1, h2⟩ := and2 h
          have s := snd_Es es l co h5
          cases l with
          | nil => exact absurd (of_decide_eq_true h4) (by decide)
          | cons e0 l => exact snd_of (p_callv co (of_decide_eq_true h1) h2 h3 s.a s.ns) rfl
        | cons _ _ => cases h
      | _ => cases h
    | _ => cases h
  | .mk k es, e, X, G, W, sc, n, co, h => snd_bad
  | .meth o m es, e, X, G, W, sc, n, co, h => snd_bad
  | .bi b es, e, X, G, W, sc, n, co, h => by
    cases e with
    | Call g l ks p => cases g with
      | Name x p2 => cases ks with
        | nil =>
          have h : (bltB c sc x (biN b) && chkEs c sc es l && decide (l.length = biA b)) = true := h
          obtain ⟨h, h3⟩ := and2 h
          obtain ⟨h1, h2⟩ := and2 h
          exact snd_bi co h1 (snd_Es es l co h2) (of_decide_eq_true h3)
        | cons _ _ => cases h
      | _ => cases h
    | _ => cases h
  | .bl b a, e, X, G, W, sc, n, co, h => by
    cases e with
    | Call g l ks p => cases g with
      | Name x p2 =>
        match l, ks, h with
        | [z], [], h =>
          have h : (bltB c sc x (blN b) && chkE c sc a z && !isStar z) = true := h
          obtain ⟨h, h3⟩ := and2 h
          obtain ⟨h1, h2⟩ := and2 h
          exact snd_bl co h1 (snd_E a z co h2) h3
      | _ => cases h
    | _ => cases h
  | .frz a, e, X, G, W, sc, n, co, h => by
    obtain ⟨h1, h2⟩ := and2 (show (chkE c sc a e && !oddTest e) = true from h)
    exact snd_of (p_frz (snd_E a e co h1).v) (nno h2)
  | .lset false a, e, X, G, W, sc, n, co, h => by
    cases e with
    | Call g l ks p => cases g with
      | Name x p2 =>
        match l, ks, h with
        | [.Call (.Name y p3) [z] [] p4], [], h =>
          have h : (bltB c sc x "len" && bltB c sc y "set" && chkE c sc a z && !isStar z) = true := h
          obtain ⟨h, h4⟩ := and2 h
          obtain ⟨h, h3⟩ := and2 h
          obtain ⟨h1, h2⟩ := and2 h
          obtain ⟨e1, gl1, mg1, _, _⟩ := blt_ok co h1
          obtain ⟨e2, gl2, mg2, _, _⟩ := blt_ok co h2
          subst e1 e2
          refine snd_of (PE.imp (pe_lsetB gl1 mg1 gl2 mg2 (snd_E a z co h3).i co.calm h4) fun σ H Q ⟨a, h, q, r, rs, rh, ht, k, kx⟩ => ⟨a, h, _, r, rs, rh, ht, fun xs g h1 v H1 fx it rh1 ⟨gl, hz⟩ => ?_, kx⟩) rfl
          obtain ⟨p, vs, rfl, s1, s2, s3⟩ := itL it rh1 gl
          rcases hz with ⟨ns, en, hl, hq⟩ | ⟨ns, en, hl, hq⟩
          · subst en
            have := rds_ints s2
            subst this
            exact .inl ⟨p, ns, rfl, s1, hl, k _ _ _ _ fx (.int _) rh1 hq⟩
          · subst en
            have := rds_strs s2
            subst this
            exact .inr ⟨p, ns, rfl, s1, hl, k _ _ _ _ fx (.int _) rh1 hq⟩
      | _ => cases h
    | _ => cases h
  | .lset true a, e, X, G, W, sc, n, co, h => by
    cases e with
    | Call g l ks p => cases g with
      | Name x p2 =>
        match l, ks, h with
        | [.Call (.Name y p3) [z] [] p4], [], h =>
          have h : (bltB c sc x "sorted" && bltB c sc y "set" && chkE c sc a z && !isStar z) = true := h
          obtain ⟨h, h4⟩ := and2 h
          obtain ⟨h, h3⟩ := and2 h
          obtain ⟨h1, h2⟩ := and2 h
          obtain ⟨e1, gl1, mg1, _, _⟩ := blt_ok co h1
          obtain ⟨e2, gl2, mg2, _, _⟩ := blt_ok co h2
          subst e1 e2
          have u70 := co.u70
          refine snd_of (PE.imp (pe_sset gl1 mg1 gl2 mg2 (snd_E a z co h3).i co.calm (by omega) h4) fun σ H Q ⟨a, h, q, r, rs, rh, ht, k, kx⟩ => ⟨a, h, _, r, rs, rh, ht, fun xs g h1 v H1 fx it rh1 ⟨gl, ns, en, hl, hq⟩ => ?_, kx⟩) rfl
          subst en
          obtain ⟨p, vs, rfl, s1, s2, s3⟩ := itL it rh1 gl
          have := rds_strs s2
          subst this
          refine ⟨p, ns, rfl, s1, hl, fun p' np => k (.ref p') _ (.ref p') _ (fx.trans (Fx.newM np)) (.ref p') (rh1.newL np ?_ (sort_rds s2)) (hq p' (rh1.none_of np))⟩
          rw [List.length_map, sortT, List.length_mergeSort]
          have := onceL_len ns
          have sb : PySem.scanBound = 4096 := rfl
          have z : sizeLine = 16777216 := rfl
          omega
      | _ => cases h
    | _ => cases h
  | .joi s a, e, X, G, W, sc, n, co, h => by
    cases e with
    | Call g l ks p => cases g with
      | Attribute o f ap => cases o with
        | Constant v kk p0 => cases v with
          | str b =>
            match l, ks, h with
            | [z], [], h =>
              have h : (decide (f = "join") && decide (s = b) && chkE c sc a z && !isStar z && (ap.endLine == p.line)) = true := h
              obtain ⟨h, h5⟩ := and2 h
              obtain ⟨h, h4⟩ := and2 h
              obtain ⟨h, h3⟩ := and2 h
              obtain ⟨h1, h2⟩ := and2 h
              have e1 := of_decide_eq_true h1
              have e2 := of_decide_eq_true h2
              subst e1 e2
              refine snd_of (PE.imp (pe_join (pe_str (x := s) (j := kk) (pos := p0)) (snd_E a z co h3).i (star1 h4 [] X.env) rfl h5) fun σ H Q ⟨a, h, q, r, rs, rh, ht, k, kx⟩ => ⟨⟨_, rfl⟩, a, h, _, r, rs, rh, ht, fun xs g h1 v H1 fx it rh1 ⟨gl, ys, en, hl, l1, l2, hq⟩ => ?_, kx⟩) rfl
              subst en
              obtain ⟨p, vs, rfl, s1, s2, s3⟩ := itL it rh1 gl
              have := rds_strs s2
              subst this
              exact ⟨s, p, ys, rfl, rfl, .inl s1, hl, k _ _ _ _ fx (.str _ ⟨l1, l2⟩) rh1 hq⟩
          | _ => cases h
        | _ => cases h
      | _ => cases h
    | _ => cases h
  | .itm a, e, X, G, W, sc, n, co, h => by
    cases e with
    | Call g l ks p => cases g with
      | Name x p2 =>
        match l, ks, h with
        | [.Call (.Attribute z y ap) [] [] p4], [], h =>
          have h : (bltB c sc x "list" && decide (y = "items") && chkE c sc a z && (ap.endLine == p4.line) && !isCall0 z) = true := h
          obtain ⟨h, h5⟩ := and2 h
          obtain ⟨h, h4⟩ := and2 h
          obtain ⟨h, h3⟩ := and2 h
          obtain ⟨h1, h2⟩ := and2 h
          obtain ⟨e1, gl1, mg1, _, _⟩ := blt_ok co h1
          have e2 := of_decide_eq_true h2
          subst e1 e2
          exact snd_of (p_itm co.calm (snd_E a z co h3).v gl1 mg1 h5 h4) rfl
      | _ => cases h
    | _ => cases h
  | .bm m o es, e, X, G, W, sc, n, co, h => by
    cases e with
    | Call g l ks p => cases g with
      | Attribute x f ap => cases ks with
        | nil =>
          have h : (bmOk m && decide (f = bmN m) && chkE c sc o x && chkEs c sc es l && decide (l.length = bmA m) && (ap.endLine == p.line) && !isCall0 x) = true := h
          obtain ⟨h, h7⟩ := and2 h
          obtain ⟨h, h6⟩ := and2 h
          obtain ⟨h, h5⟩ := and2 h
          obtain ⟨h, h4⟩ := and2 h
          obtain ⟨h, h3⟩ := and2 h
          obtain ⟨h1, h2⟩ := and2 h
          have so := (snd_E o x co h3).v
          have ss := snd_Es es l co h4
          have h5 := of_decide_eq_true h5
          have h2 := of_decide_eq_true h2
          cases m with
          | append =>
            subst h2
            match l, h5, h4, ss with
            | [e1], _, h4, ss =>
              cases es with
              | nil => cases h4
              | cons t ts => cases ts with
                | cons _ _ => exact absurd (and2 h4).2 (fun z => by cases z)
                | nil =>
                  obtain ⟨q, _⟩ := and2 (show (chkE c sc t e1 && !isStar e1 && chkEs c sc .nil []) = true from h4)
                  obtain ⟨q1, q2⟩ := and2 q
                  exact snd_of (p_append so (snd_E t e1 co q1).v h7 q2 h6) rfl
          | count =>
            subst h2
            match l, h5, h4, ss with
            | [e1], _, h4, ss =>
              cases es with
              | nil => cases h4
              | cons t ts => cases ts with
                | cons _ _ => exact absurd (and2 h4).2 (fun z => by cases z)
                | nil =>
                  obtain ⟨q, _⟩ := and2 (show (chkE c sc t e1 && !isStar e1 && chkEs c sc .nil []) = true from h4)
                  obtain ⟨q1, q2⟩ := and2 q
                  exact snd_of (p_lm1 PySem.F.plainAttrs_list PySem.F.slot_list_count rfl PySem.F.type_list_count (m_count co.u65) (fun d h z => z) so (snd_E t e1 co q1).v h7 q2 h6) rfl
          | index =>
            subst h2
            match l, h5, h4, ss with
            | [e1], _, h4, ss =>
              cases es with
              | nil => cases h4
              | cons t ts => cases ts with
                | cons _ _ => exact absurd (and2 h4).2 (fun z => by cases z)
                | nil =>
                  obtain ⟨q, _⟩ := and2 (show (chkE c sc t e1 && !isStar e1 && chkEs c sc .nil []) = true from h4)
                  obtain ⟨q1, q2⟩ := and2 q
                  exact snd_of (p_lm1 PySem.F.plainAttrs_list PySem.F.slot_list_index rfl PySem.F.type_list_index (m_index co.u65) (fun d h z => z) so (snd_E t e1 co q1).v h7 q2 h6) rfl
          | clear =>
            subst h2
            match l, h5, h4, ss with
            | [], _, h4, ss =>
              cases es with
              | cons _ _ => cases h4
              | nil => exact snd_of (p_clear so h7 h6) rfl
          | clearD =>
            subst h2
            match l, h5, h4, ss with
            | [], _, h4, ss =>
              cases es with
              | cons _ _ => cases h4
              | nil => exact snd_of (p_clearD so h7 h6) rfl
          | pop0 =>
            subst h2
            match l, h5, h4, ss with
            | [], _, h4, ss =>
              cases es with
              | cons _ _ => cases h4
              | nil => exact snd_of (p_pop0 so h7 h6) rfl
          | _ => cases h1
        | cons _ _ => cases h
      | _ => cases h
    | _ => cases h
  | .comp k es tg own ifs a, e, X, G, W, sc, n, co, h => by
    cases e with
    | ListComp x gs scope p =>
      match gs, h with
      | [⟨t, it, l, 0⟩], h =>
        obtain ⟨h, h8⟩ := and2 (show (blkC c.N sc scope (ownOf c own) && (tgSlots tg).all (fun i => decide (i ∈ own)) && chkTg c scope tg t && chkEs c scope ifs l && decide (l.length ≤ 1) && chkE c scope a x && !isSet it && srcOk (fun m => chkEs c sc es m) c sc k t it) = true from h)
        obtain ⟨h, h7⟩ := and2 h
        obtain ⟨h, h6⟩ := and2 h
        obtain ⟨h, h5⟩ := and2 h
        obtain ⟨h, h4⟩ := and2 h
        obtain ⟨h, h3⟩ := and2 h
        obtain ⟨h1, h2⟩ := and2 h
        refine snd_comp co ⟨snd_src co h8 fun l hl => snd_Es es l co hl, blk_ok co h1, fun i hi => of_decide_eq_true (List.all_eq_true.mp h2 i hi), ?_, ?_, ?_, ?_, h7⟩
        · exact tgG_run tg
        · exact fun s H C' cl fp => (tg_okG (co_blk co scope s H C' cl fp) h3).pg
        · exact fun s H C' cl fp => (snd_Es ifs l (co_blk co scope s H C' cl fp) h4).pts (of_decide_eq_true h5)
        · exact fun s H C' cl fp => (snd_E a x (co_blk co scope s H C' cl fp) h6).v
    | _ => cases h
theorem snd_Es : ∀ (t : Es) (l : List Expr) {X : Cx} {G : Nat → Addr} {W : WX} {sc : Scope} {n : Nat} (co : Co X G W C c sc n), chkEs c sc t l = true → SndS X G W (dens C t) l
  | .nil, l, X, G, W, sc, n, co, h => by
    cases l with
    | nil => exact ⟨rfl, a_nil, fun z => absurd rfl z, fun z => absurd rfl z, fun z => absurd rfl z, fun z => absurd rfl z, fun z => absurd z (by decide), fun z => absurd z (by decide),
        fun _ => ⟨fun pins s σ H Q I ⟨a, hh, q, r, rs, rh, ht, k, kx⟩ => pts_nil.run pins s σ H Q I (k _ _ _ Fx.refl rh ht)⟩, fun pos ks keys h1 h2 => pp_nil pos ks keys h1 h2, fun e z => nomatch z⟩
    | cons _ _ => cases h
  | .cons t .nil, l, X, G, W, sc, n, co, h => by
    cases l with
    | nil => cases h
    | cons e l => cases l with
      | cons _ _ => exact absurd (and2 h).2 (fun z => by cases z)
      | nil =>
        obtain ⟨h, _⟩ := and2 (show (chkE c sc t e && !isStar e && chkEs c sc .nil []) = true from h)
        obtain ⟨h1, h2⟩ := and2 h
        have s := snd_E t e co h1
        refine ⟨by show ((!isStar e) && true) = true; rw [h2]; rfl, a_cons s.v a_nil h2, fun _ _ => pe_one s.v, fun _ _ => pw_and1 s.t, fun _ _ => pe_one s.v, fun _ _ => pw_or1 s.t, fun z => absurd z (by show ¬ (2 ≤ 1); omega), fun z => absurd z (by show ¬ (2 ≤ 1); omega),
          fun _ => pts_one s.t, fun pos ks keys h1 h2 => pp_cons s.v (fun pos ks keys h1 h2 => pp_nil pos ks keys h1 h2) pos ks keys h1 h2, fun e' z => ?_⟩
        cases z
        exact ⟨_, s, rfl, rfl⟩
  | .cons t (.cons t2 ts), l, X, G, W, sc, n, co, h => by
    cases l with
    | nil => cases h
    | cons e l =>
      obtain ⟨h, h3⟩ := and2 (show (chkE c sc t e && !isStar e && chkEs c sc (.cons t2 ts) l) = true from h)
      obtain ⟨h1, h2⟩ := and2 h
      have s := snd_E t e co h1
      have ss := snd_Es (.cons t2 ts) l co h3
      cases l with
      | nil => cases h3
      | cons e2 l =>
        have ne : (e2 :: l) ≠ [] := fun z => nomatch z
        exact ⟨by show ((!isStar e) && noStar (e2 :: l)) = true; rw [h2, ss.ns]; rfl, a_cons s.v ss.a h2, fun _ pos => p_and s.v (ss.an ne pos), fun _ pos => w_and s.t (ss.ant ne pos), fun _ pos => p_or s.v (ss.or ne pos), fun _ pos => w_or s.t (ss.ort ne pos),
          fun _ pos => i_no, fun _ pos => i_no, fun z => absurd z (by show ¬ (l.length + 1 + 1 ≤ 1); omega), fun pos ks keys h1 h2 => pp_cons s.v ss.pp pos ks keys h1 (by simpa using h2), fun e' z => nomatch z⟩
end
end
end Nd
/-! Nd15: statements, whole programs. -/
namespace Nd
open PySem PySem.Spec PyProof.Rows L2
section
variable {C : Ca} {c : Cf}
/-- a body's frame -/
structure Bo (X : Cx) : Prop where
  po : PassesOwn (model X.prog X.w) X.A X.env X.xe
  hs : X.stack = X.env :: X.outer
  hf : X.env.frame = some X.env.locals
  hex : X.ex = []
  blk : X.env.blockKind = .function
theorem Co.tr {X : Cx} {G : Nat → Addr} {W W' : WX} {sc : Scope} {n : Nat} (co : Co X G W C c sc n) {pn : List (Addr × Obj)} {xe : Value → Shared → Prop} (tk : Takes (X.tr pn xe) W') : Co (X.tr pn xe) G W' C c sc n where
  hN := co.hN
  nd := co.nd
  env := ⟨co.env.loc, co.env.cell, co.env.free, co.env.glo⟩
  calm := co.calm
  room := co.room
  gd := co.gd
  tk := tk
  gf := ⟨co.gf.blt, co.gf.consts, fun x f h => ⟨(co.gf.fns x f h).1, (co.gf.fns x f h).2.ok, (co.gf.fns x f h).2.kp⟩, fun x g h => ⟨(co.gf.cls x g h).1, (co.gf.cls x g h).2.ex, (co.gf.cls x g h).2.kp, (co.gf.cls x g h).2.sub, (co.gf.cls x g h).2.ty⟩, co.gf.exm, fun g h => ⟨(co.gf.fv g h).ok, (co.gf.fv g h).kp⟩⟩
theorem s_try {X : Cx} {G : Nat → Addr} {W : WX} {sc : Scope} {n : Nat} (co : Co X G W C c sc n) (bo : Bo X) {x m y : Str} {g i j : Nat} {body : List Stmt} {tb : TSD} {np ap yp p2 pos pos' : Pos} (h1 : gloB sc x = true) (h2 : (!odd x) = true) (h3 : c.cls.lookup x = some g)
    (h4 : c.N[i]? = some m) (h5 : onlyLoc sc m = true) (h6 : (!odd m) = true) (h7 : c.N[j]? = some y) (h8 : locB sc y = true) (h9 : i ≠ j) (hg : g ≠ 1000000)
    (hb : ∀ (W' : WX) (pn : List (Addr × Obj)) (xe : Value → Shared → Prop), Takes (X.tr pn xe) W' → PassesOwn (model X.prog X.w) X.A X.env xe → PSs (X.tr pn xe) body (liftS X.K G W' tb)) :
    PS X (.Try body [.ExceptHandler (some (.Name x np)) (some m) [.Assign [.Name y yp] (.Name m ap) p2] pos'] [] [] pos)
      (liftS X.K G W fun D σ h => tb { D with ex := fun c σ' h' => exmK (C.exm c g) (fun _ => D.nx ((σ'.set j (some (.exc c))).set i none) h') fun _ => D.ex c σ' h' } σ h) := by
  obtain ⟨l1, l2⟩ := loc_ok co.env h8
  have hm : X.env.kindOf m = some .local := by
    unfold onlyLoc at h5
    split at h5
    · rename_i q; exact co.env.loc m q
    · cases h5
  refine PS.imp (p_try (i := i) (j := j) (tb := fun W' => liftS X.K G W' tb) bo.hs bo.hf bo.hex co.nd (by rw [co.hN]; exact h4) hm (by rw [co.hN]; exact h7) l1 l2 h9 (odd_no h6).1 (odd_no h6).2.1 ⟨glo_ok co.env h1, (odd_no h2).1, .inl (co.gf.cls x g h3).1⟩ co.tk hb) ?_
  rintro D σ H ⟨a, h, Z, rs, rh, ht, k⟩
  refine ⟨a, h, _, rs, rh, ht, k.nx, k.rt, k.bk, k.ct, fun e a' h' σ' H' fx rs' rh' z => ?_⟩
  rcases exmK_cases (o := C.exm e g) (y := fun _ => Z.nx ((a'.set j (some (.exc e))).set i none) h') (n := fun _ => Z.ex e a' h') z with ⟨ee, z⟩ | ⟨ee, z⟩
  · obtain ⟨_, _, q⟩ := co.gf.exm _ _ _ ee
    exact ⟨true, (q hg).2, fun _ => ⟨rfl, fun p np => k.nx _ h' _ _ (fx.trans (Fx.new np)) (((rs'.ext (Ext.new np)).set j (.exc upd_same)).clr i) (rh'.hid np) z⟩, fun q => by cases q⟩
  · obtain ⟨_, _, q⟩ := co.gf.exm _ _ _ ee
    exact ⟨false, (q hg).2, (fun q => by cases q), fun _ => k.ex e a' h' σ' H' fx rs' rh' z⟩
theorem s_par {X : Cx} {G : Nat → Addr} {W : WX} {sc : Scope} {n : Nat} (co : Co X G W C c sc n) (bo : Bo X) {x y : Str} {px py pt pt2 pos : Pos} {kt k2 i j : Nat} {a b : Expr} {ta tb : TED} (h1 : c.N[i]? = some x) (h2 : c.N[j]? = some y) (h3 : i ≠ j) (ho : parOk sc x y px py a b = true)
    (ha : PE X a (lift X.K G W ta)) (hb : PE X b (lift X.K G W tb)) : PS X (.Assign [.Tuple [.Name x px, .Name y py] kt pt] (.Tuple [a, b] k2 pt2) pos)
      (liftS X.K G W fun D σ h => ta σ h (fun d h1 => tb σ h1 (fun e h2 => D.nx ((σ.set i (some d)).set j (some e)) h2) fun x h' => D.ex x σ h') fun x h' => D.ex x σ h') := by
  have loc : ∀ z, onlyLoc sc z = true → X.env.scope.names.lookup z = some .local := fun z hz => by
    unfold onlyLoc at hz
    split at hz
    · rename_i q; exact co.env.loc z q
    · cases hz
  have ho' := ho
  unfold parOk at ho'
  simp only [Bool.and_eq_true] at ho'
  obtain ⟨⟨⟨⟨⟨⟨⟨o1, o2⟩, _⟩, _⟩, o5⟩, o6⟩, _⟩, _⟩ := ho'
  refine PS.imp (ps_par (i := i) (j := j) co.calm co.nd (by rw [co.hN]; exact h1) (by rw [co.hN]; exact h2) h3 (loc x o1) (loc y o2) (a_cons ha (a_cons hb a_nil o6) o5) (sw_par bo.blk (loc x o1) (loc y o2) ho)) ?_
  rintro D σ H ⟨s, h, Z, rs, rh, ht, k⟩
  refine ⟨s, h, (fun ds h2 => match ds with
    | [d, e] => Z.nx ((s.set i (some d)).set j (some e)) h2
    | _ => False), _, rs, rh, ht, fun ds h1 vs H1 fx rd rh1 hq => ?_, k.cx rs⟩
  match ds, rd, hq with
  | [d, e], rd, hq =>
    obtain ⟨v, w, rfl, r1, r2⟩ := rds2 rd
    exact ⟨v, w, rfl, k.nx _ _ _ _ fx (((rs.ext fx.ext).set i r1).set j r2) rh1 hq⟩
theorem ps_false {X : Cx} {G : Nat → Addr} {W : WX} {st : Stmt} : PS X st (liftS X.K G W fun _ _ _ => False) := ⟨fun _ _ _ _ _ _ ⟨_, _, _, _, _, f, _⟩ => f.elim⟩
mutual
theorem snd_S : ∀ (t : S) (st : Stmt) {X : Cx} {G : Nat → Addr} {W : WX} {sc : Scope} {n : Nat} (co : Co X G W C c sc n) (bo : Bo X), chkS c sc t st = true → PS X st (liftS X.K G W (denS C t))
  | .pass, st, X, G, W, sc, n, co, bo, h => by cases st <;> first | exact s_pass | cases h
  | .fz _, st, X, G, W, sc, n, co, bo, h => by cases st <;> cases h
  | .doc, st, X, G, W, sc, n, co, bo, h => by
    cases st with
    | Expr e p => cases e with
      | Constant v k p2 => cases v with
        | str x => exact s_doc
        | _ => cases h
      | _ => cases h
    | _ => cases h
  | .brk, st, X, G, W, sc, n, co, bo, h => by cases st <;> first | exact s_brk | cases h
  | .cnt, st, X, G, W, sc, n, co, bo, h => by cases st <;> first | exact s_cnt | cases h
  | .ex e, st, X, G, W, sc, n, co, bo, h => by
    cases st with
    | Expr x p =>
      obtain ⟨h1, h2⟩ := and2 (show (chkE c sc e x && !isComp x) = true from h)
      exact s_ex (snd_E e x co h1).v h2
    | _ => cases h
  | .ret e, st, X, G, W, sc, n, co, bo, h => by
    cases st with
    | Return x p => cases x with
      | none => cases h
      | some x => exact s_ret (snd_E e x co h).v
    | _ => cases h
  | .retN, st, X, G, W, sc, n, co, bo, h => by
    cases st with
    | Return x p => cases x with
      | none => exact s_retN
      | some x => cases h
    | _ => cases h
  | .set i e, st, X, G, W, sc, n, co, bo, h => by
    cases st with
    | Assign ts x p =>
      match ts, h with
      | [.Name y py], h =>
        obtain ⟨h, h5⟩ := and2 (show (decide (c.N[i]? = some y) && locB sc y && chkE c sc e x && setOk sc y py x && !(isFrz e && isComp x)) = true from h)
        obtain ⟨h, h4⟩ := and2 h
        obtain ⟨h, h3⟩ := and2 h
        obtain ⟨h1, h2⟩ := and2 h
        have h1 := of_decide_eq_true h1
        by_cases hk : cellB sc y = true
        · exact s_setK co h1 h2 (snd_E e x co h3).v hk
        by_cases hc : isComp x = true
        · cases x with
          | ListComp x0 gs scope xp =>
            have h4 : (onlyLoc sc y && (py.line == xp.line) && !(scope.names.any fun (n, k) => n == y && (k == .local || k == .cell))) = true := by
              have z : (cellB sc y || onlyLoc sc y && (py.line == xp.line) && !(scope.names.any fun (n, k) => n == y && (k == .local || k == .cell))) = true := h4
              rw [Bool.not_eq_true] at hk
              rw [hk, Bool.false_or] at z
              exact z
            obtain ⟨h4, k3⟩ := and2 h4
            obtain ⟨k1, k2⟩ := and2 h4
            clear h4
            cases e with
            | comp k es tg own ifs a =>
              match gs, h3 with
              | [⟨t, it, l, 0⟩], h3 =>
                obtain ⟨h, g8⟩ := and2 (show (blkC c.N sc scope (ownOf c own) && (tgSlots tg).all (fun i => decide (i ∈ own)) && chkTg c scope tg t && chkEs c scope ifs l && decide (l.length ≤ 1) && chkE c scope a x0 && !isSet it && srcOk (fun m => chkEs c sc es m) c sc k t it) = true from h3)
                obtain ⟨h, g7⟩ := and2 h
                obtain ⟨h, g6⟩ := and2 h
                obtain ⟨h, g5⟩ := and2 h
                obtain ⟨h, g4⟩ := and2 h
                obtain ⟨h, g3⟩ := and2 h
                obtain ⟨g1, g2⟩ := and2 h
                exact s_setC co h1 k1 ⟨snd_src co g8 fun l hl => snd_Es es l co hl, blk_ok co g1, fun i hi => of_decide_eq_true (List.all_eq_true.mp g2 i hi), tgG_run tg, fun s H C' cl fp => (tg_okG (co_blk co scope s H C' cl fp) g3).pg,
                  fun s H C' cl fp => (snd_Es ifs l (co_blk co scope s H C' cl fp) g4).pts (of_decide_eq_true g5), fun s H C' cl fp => (snd_E a x0 (co_blk co scope s H C' cl fp) g6).v, g7⟩ k2 (nno k3)
            | cst d => cases d <;> cases h3
            | frz _ => cases h5
            | lset b _ => cases b <;> cases h3
            | _ => cases h3
          | SetComp a b sc' d => cases h4
          | DictComp a b c' d e' => cases h4
          | _ => cases hc
        · have hc : (!isComp x) = true := by rw [Bool.not_eq_true] at hc; rw [hc]; rfl
          exact s_set co h1 h2 (snd_E e x co h3).v hc
    | _ => cases h
  | .setT l e, st, X, G, W, sc, n, co, bo, h => by
    cases st with
    | Assign ts x p =>
      match ts, h with
      | [.Tuple es k q], h =>
        obtain ⟨h, h4⟩ := and2 (show (chkTg c sc l (.Tuple es k q) && chkE c sc e x && !isComp x && (!isTup x || cellIn sc es)) = true from h)
        obtain ⟨h, h3⟩ := and2 h
        obtain ⟨h1, h2⟩ := and2 h
        exact s_setT co h1 (snd_E e x co h2).v h3 h4
    | _ => cases h
  | .par i j a b, st, X, G, W, sc, n, co, bo, h => by
    have k0 : (match parP st with
      | some (x, px, y, py, e1, e2) => decide (c.N[i]? = some x) && decide (c.N[j]? = some y) && decide (i ≠ j) && parOk sc x y px py e1 e2 && chkE c sc a e1 && chkE c sc b e2
      | none => false) = true := h
    cases e : parP st with
    | none => rw [e] at k0; cases k0
    | some q =>
      obtain ⟨x, px, y, py, e1, e2⟩ := q
      rw [e] at k0
      obtain ⟨kt, pt, k2, pt2, pos, rfl⟩ := parP_ok e
      obtain ⟨k0, k6⟩ := and2 k0
      obtain ⟨k0, k5⟩ := and2 k0
      obtain ⟨k0, k4⟩ := and2 k0
      obtain ⟨k0, k3⟩ := and2 k0
      obtain ⟨k1, k2'⟩ := and2 k0
      exact s_par co bo (of_decide_eq_true k1) (of_decide_eq_true k2') (of_decide_eq_true k3) k4 (snd_E a e1 co k5).v (snd_E b e2 co k6).v
  | .setS o i e, st, X, G, W, sc, n, co, bo, h => by
    cases st with
    | Assign ts z p =>
      match ts, h with
      | [.Subscript x y q], h =>
        obtain ⟨h, h4⟩ := and2 (show (chkE c sc e z && chkE c sc o x && chkE c sc i y && !isSlice y) = true from h)
        obtain ⟨h, h3⟩ := and2 h
        obtain ⟨h1, h2⟩ := and2 h
        exact s_setS (by have := co.u65; omega) h4 (snd_E e z co h1).v (snd_E o x co h2).v (snd_E i y co h3).v
    | _ => cases h
  | .setA o f e, st, X, G, W, sc, n, co, bo, h => by cases st <;> cases h
  | .aug i op e, st, X, G, W, sc, n, co, bo, h => by
    cases st with
    | AugAssign t o x p => cases t with
      | Name y q =>
        obtain ⟨h, h4⟩ := and2 (show (decide (op = o) && decide (c.N[i]? = some y) && locB sc y && chkE c sc e x) = true from h)
        obtain ⟨h, h3⟩ := and2 h
        obtain ⟨h1, h2⟩ := and2 h
        have e1 := of_decide_eq_true h1
        subst e1
        exact s_aug co (of_decide_eq_true h2) h3 (snd_E e x co h4).v
      | _ => cases h
    | _ => cases h
  | .ite t a b, st, X, G, W, sc, n, co, bo, h => by
    cases st with
    | If x l m p =>
      obtain ⟨h, h3⟩ := and2 (show (chkE c sc t x && chkB c sc a l && chkB c sc b m) = true from h)
      obtain ⟨h1, h2⟩ := and2 h
      exact s_ite (snd_E t x co h1).t (snd_B a l co bo h2) (snd_B b m co bo h3)
    | _ => cases h
  | .whl t b, st, X, G, W, sc, n, co, bo, h => by
    cases st with
    | While x l m p => cases m with
      | nil =>
        obtain ⟨h1, h2⟩ := and2 (show (chkE c sc t x && chkB c sc b l) = true from h)
        exact s_whl bo.po (snd_E t x co h1).t (snd_B b l co bo h2)
      | cons _ _ => cases h
    | _ => cases h
  | .for_ k es tg b, st, X, G, W, sc, n, co, bo, h => by
    cases st with
    | For t it l m p => cases m with
      | nil =>
        obtain ⟨h, h4⟩ := and2 (show (chkTg c sc tg t && chkB c sc b l && !isSet it && srcOk (fun m => chkEs c sc es m) c sc k t it) = true from h)
        obtain ⟨h, h3⟩ := and2 h
        obtain ⟨h1, h2⟩ := and2 h
        exact s_for bo.po co.calm (tg_okG co h1) (snd_src co h4 fun l hl => snd_Es es l co hl) (snd_B b l co bo h2) h3
      | cons _ _ => cases h
    | _ => cases h
  | .try_ b g i j, st, X, G, W, sc, n, co, bo, h => by
    have k0 : (match tryP st with
      | some (body, x, n, y) => chkB c sc b body && (gloB sc x && !odd x && decide (c.cls.lookup x = some g)) && (decide (c.N[i]? = some n) && onlyLoc sc n && !odd n) && (decide (c.N[j]? = some y) && locB sc y && decide (i ≠ j) && decide (g ≠ 1000000))
      | none => false) = true := h
    cases e : tryP st with
    | none => rw [e] at k0; cases k0
    | some q =>
      obtain ⟨body, x, m, y⟩ := q
      rw [e] at k0
      obtain ⟨np, yp, ap, p2, pos', pos, rfl⟩ := tryP_ok e
      obtain ⟨k0, k3⟩ := and2 k0
      obtain ⟨k0, k2⟩ := and2 k0
      obtain ⟨hB, k1⟩ := and2 k0
      obtain ⟨k1, a3⟩ := and2 k1
      obtain ⟨a1, a2⟩ := and2 k1
      obtain ⟨k2, b3⟩ := and2 k2
      obtain ⟨b1, b2⟩ := and2 k2
      obtain ⟨k3, c4⟩ := and2 k3
      obtain ⟨k3, c3⟩ := and2 k3
      obtain ⟨c1, c2⟩ := and2 k3
      exact s_try co bo a1 a2 (of_decide_eq_true a3) (of_decide_eq_true b1) b2 b3 (of_decide_eq_true c1) c2 (of_decide_eq_true c3) (of_decide_eq_true c4) fun W' pn xe tk po' => snd_B b body (co.tr tk) ⟨po', bo.hs, bo.hf, bo.hex, bo.blk⟩ hB
  | .raise g, st, X, G, W, sc, n, co, bo, h => by
    cases st with
    | Raise e ca p =>
      match e, ca, h with
      | some (.Call (.Name x p1) [.Constant (.str m) j p2] [] p3), none, h =>
        obtain ⟨h, h3⟩ := and2 (show (gloB sc x && !odd x && decide (c.cls.lookup x = some g)) = true from h)
        obtain ⟨h1, h2⟩ := and2 h
        exact s_raise co h1 h2 (of_decide_eq_true h3)
    | _ => cases h
theorem snd_B : ∀ (t : B) (l : List Stmt) {X : Cx} {G : Nat → Addr} {W : WX} {sc : Scope} {n : Nat} (co : Co X G W C c sc n) (bo : Bo X), chkB c sc t l = true → PSs X l (liftS X.K G W (denB C t))
  | .nil, l, X, G, W, sc, n, co, bo, h => by
    cases l with
    | nil => exact b_nil
    | cons _ _ => cases h
  | .cons s b, l, X, G, W, sc, n, co, bo, h => by
    rcases chkB_cons h with ⟨i, rfl, h'⟩ | ⟨st, l', rfl, h1, h2⟩
    · have ih := snd_B b l co bo h'
      cases b with
      | nil => exact b_fz (t := denB C .nil) ih
      | cons s2 b2 => exact b_fz (t := denB C (.cons s2 b2)) ih
    · cases b with
      | nil => cases l' with
        | nil => exact b_one (snd_S s st co bo h1)
        | cons _ _ => cases h2
      | cons s2 b2 => exact b_cons (t := denS C s) (u := denB C (.cons s2 b2)) (snd_S s st co bo h1) (snd_B (.cons s2 b2) l' co bo h2)
end
end
/-! ### whole programs -/
/-- one def -/
structure Fd where
  at_ : Str × Option Str
  name : Str
  qual : Str
  params : Arguments
  stmts : List Stmt
  scope : Scope
  ps : List Str
  N : List Str
  body : B
/-- a program -/
structure Pr where
  fns : List (Nat × Fd)
  consts : List (Str × D)
  names : List (Str × Nat)
  cls : List (Str × Nat)
  blt : List Str
  gl : List (Nat × (Str × Option Str))
  exl : List ((Nat × Nat) × Bool)
def Pr.exm (P : Pr) (c g : Nat) : Option Bool := P.exl.lookup (c, g)
def Pr.ca (P : Pr) (call : Nat → List D → HD → VQ → XQ → Prop) : Ca := { call := call, exm := P.exm, fv := fun g => (P.fns.lookup g).isSome }
def Pr.cf (P : Pr) (f : Fd) : Cf := { N := f.N, consts := P.consts, fns := P.names, cls := P.cls, blt := P.blt }
/-- things that one no more looks at may be left -/
def dq (q : VQ) : VQ := fun d h => ∃ h', Sub h' h ∧ q d h'
def dx (r : XQ) : XQ := fun c h => ∃ h', Sub h' h ∧ r c h'
/-- what a def does, of n calls' depth at most -/
def Pr.call (P : Pr) : Nat → Nat → List D → HD → VQ → XQ → Prop
  | 0, _, _, _, _, _ => False
  | n + 1, i, ds, h, q, r => match P.fns.lookup i with
    | some f => ds.length = f.ps.length ∧ denB (P.ca (P.call n)) f.body { nx := fun _ h' => dq q .non h', rt := dq q, bk := fun _ _ => False, ct := fun _ _ => False, ex := fun c _ h' => dx r c h' } (ds.map some ++ List.replicate (f.N.length - ds.length) none) h
    | none => False
/-- the names of a def's parameters, where it has no others -/
def plainPs (a : Arguments) : Option (List Str) := match a with
  | ⟨[], as, none, [], [], none, []⟩ => some (as.map (·.arg))
  | _ => none
def scopeB (N P : List Str) (sc : Scope) : Bool := (match sc.kind with | .function => true | _ => false) && !sc.isCoroutine && !sc.isGenerator && decide N.Nodup && decide (N.take P.length = P) &&
  (P.all fun x => locB sc x) && sc.names.all fun y => match y.2 with | .free => false | _ => true
theorem scopeB_ok {N P : List Str} {sc : Scope} (h : scopeB N P sc = true) : FnScope N P sc := by
  obtain ⟨h, h7⟩ := and2 h
  obtain ⟨h, h6⟩ := and2 h
  obtain ⟨h, h5⟩ := and2 h
  obtain ⟨h, h4⟩ := and2 h
  obtain ⟨h, h3⟩ := and2 h
  obtain ⟨h1, h2⟩ := and2 h
  refine ⟨?_, nno h2, nno h3, of_decide_eq_true h4, of_decide_eq_true h5, fun x hx => ?_, fun y hy e => ?_⟩
  · split at h1
    · assumption
    · cases h1
  · have := List.all_eq_true.mp h6 x hx
    unfold locB at this
    split at this
    · rename_i q; exact .inl q
    · rename_i q; exact .inr q
    · cases this
  · have := List.all_eq_true.mp h7 y hy
    rw [e] at this
    cases this
def chkFd (P : Pr) (f : Fd) : Bool := decide (plainPs f.params = some f.ps) && decide (f.ps.length ≤ 7) && scopeB f.N f.ps f.scope && chkB (P.cf f) f.scope f.body f.stmts
def Pr.okB (P : Pr) : Bool := (P.names.all fun q => decide (P.gl.lookup q.2 = some (q.1, none)) && (P.fns.lookup q.2).isSome) && (P.cls.all fun q => decide (P.gl.lookup q.2 = some (q.1, none))) && P.fns.all fun q => decide (P.gl.lookup q.1 = some q.2.at_) && chkFd P q.2
theorem memN {α : Type} {x : Nat} {v : α} : ∀ {l : List (Nat × α)}, l.lookup x = some v → (x, v) ∈ l
  | [], h => nomatch h
  | (y, u) :: l, h => by
    have h : (match x == y with | true => some u | false => l.lookup x) = some v := h
    split at h
    · rename_i q
      cases h
      rw [beq_iff_eq.mp q]
      exact List.mem_cons_self
    · exact List.mem_cons_of_mem _ (memN h)
end Nd
/-! Nd16: what a def does is what Pr.call says; the module's facts as a Hook. -/
namespace Nd
open PySem PySem.Spec PyProof.Rows L2
theorem fm_congr {α β : Type} {f g : α → Option β} : ∀ {l : List α}, (∀ n ∈ l, f n = g n) → l.filterMap f = l.filterMap g
  | [], _ => rfl
  | a :: l, h => by
    rw [List.filterMap_cons, List.filterMap_cons, h a List.mem_cons_self, fm_congr (l := l) fun n hn => h n (List.mem_cons_of_mem _ hn)]
theorem filt_none {A : List Str} {us : List Value} (h : us.length = A.length) (x : Str) (hx : x ∈ A) : ((A.zip us).lookup x).isNone = false := by
  induction A generalizing us with
  | nil => cases hx
  | cons a A ih =>
    cases us with
    | nil => cases h
    | cons u us =>
      show (match x == a with | true => some u | false => (A.zip us).lookup x).isNone = false
      split
      · rfl
      · rename_i q
        rcases List.mem_cons.mp hx with e | e
        · rw [e, beq_self_eq_true] at q; cases q
        · exact ih (Nat.succ.inj h) e
theorem filt_zip {A : List Str} {us : List Value} (h : us.length = A.length) (nd : A.Nodup) : (A.filterMap fun n => ((A.zip us).lookup n).map (n, ·)) = A.zip us := by
  induction A generalizing us with
  | nil => rfl
  | cons a A ih =>
    cases us with
    | nil => cases h
    | cons u us =>
      have e : ((a :: A).zip (u :: us)).lookup a = some u := by
        show (match a == a with | true => some u | false => (A.zip us).lookup a) = some u
        rw [beq_self_eq_true]
      rw [List.filterMap_cons, e]
      show (a, u) :: _ = (a, u) :: A.zip us
      congr 1
      have : ∀ n ∈ A, ((((a :: A).zip (u :: us)).lookup n).map (n, ·)) = (((A.zip us).lookup n).map (n, ·)) := fun n hn => by
        have ne : (n == a) = false := by
          refine Bool.eq_false_iff.mpr fun q => ?_
          rw [beq_iff_eq] at q; subst q
          exact (List.nodup_cons.mp nd).1 hn
        show (match n == a with | true => some u | false => (A.zip us).lookup n).map _ = _
        rw [ne]
      rw [fm_congr this]
      exact ih (Nat.succ.inj h) (List.nodup_cons.mp nd).2
theorem bind_plain {x qual : Str} {params : Arguments} {body : List Stmt} {scope : Scope} {ps : List Str} (h : plainPs params = some ps) (nd : ps.Nodup) (kV doc pm : Value) (an : Option Addr) (cdv ct : Value) (us : List Value) (hu : us.length = ps.length) :
    bindArgs (PySem.W.fnOf x qual params body scope .none kV doc pm an cdv ct) ⟨us, []⟩ = pure (ps.zip us) := by
  obtain ⟨po, as, va, ko, kd, kw, df⟩ := params
  unfold plainPs at h
  split at h
  · rename_i as' e
    cases e
    cases h
    unfold bindArgs
    simp [PySem.W.fnOf, seqItems?, notAStandIn, hu]
    have e1 : (List.filter (fun n => (List.lookup n ((as.map (·.arg)).zip us)).isNone) (List.take ((List.map (fun x : Arg => x.arg) [] ++ List.map (fun x : Arg => x.arg) as).length - (List.drop ((#[] : Array Value).size - (List.map (fun x : Arg => x.arg) [] ++ List.map (fun x : Arg => x.arg) as).length) ([] : List Value)).length) (List.map (fun x : Arg => x.arg) [] ++ List.map (fun x : Arg => x.arg) as))) = [] := by
      rw [List.filter_eq_nil_iff]
      intro n hn
      have hn := List.mem_of_mem_take hn
      rw [filt_none hu n (by simpa using hn)]
      exact Bool.false_ne_true
    have e2 := filt_zip hu nd
    rw [List.filterMap_map] at e2
    refine (if_neg ?_).trans (congrArg pure e2)
    rw [e1]
    exact Bool.false_ne_true
  · cases h
theorem scope_nd {N ps : List Str} {sc : Scope} (S : FnScope N ps sc) : ps.Nodup := by
  rw [← S.pre]
  exact S.nd.sublist (List.take_sublist _ _)
theorem RDs.length {K : PySem.W.Frag} {G : Nat → Addr} {H : Hp} : ∀ {ds : List D} {vs : List V}, RDs K G H ds vs → ds.length = vs.length
  | _, _, .nil => rfl
  | _, _, .cons _ t => congrArg Nat.succ t.length
theorem rs_none {K : PySem.W.Frag} {G : Nat → Addr} {H : Hp} : ∀ n : Nat, RS K G H (List.replicate n none) (List.replicate n none)
  | 0 => .nil
  | n + 1 => .cons (fun _ z => nomatch z) (rs_none n)
theorem rs_start {K : PySem.W.Frag} {G : Nat → Addr} {H : Hp} (n : Nat) : ∀ {ds : List D} {vs : List V}, RDs K G H ds vs → RS K G H (ds.map some ++ List.replicate n none) (vs.map some ++ List.replicate n none)
  | _, _, .nil => rs_none n
  | _, _, .cons h t => .cons (fun x z => by cases z; exact ⟨_, rfl, h⟩) (rs_start n t)
/-- what is so of the module -/
structure PF (P : Pr) (G : Nat → Addr) (K : PySem.W.Frag) (mg : Str → Option Value) : Prop where
  blt : ∀ x ∈ P.blt, mg x = none
  consts : ∀ x d, P.consts.lookup x = some d → ∃ u v, mg x = some u ∧ RelV v u ∧ ∀ H, RD K G H d v
  names : ∀ x f, P.names.lookup x = some f → mg x = some (.ref (G f)) ∧ ∃ fd, P.fns.lookup f = some fd
  cls : ∀ x g, P.cls.lookup x = some g → mg x = some (.ref (G g)) ∧ ∀ X : Cx, X.K = K → ExcAt X (G g)
  exm : ∀ c g b, P.exm c g = some b → ExcC K (G c) ∧ (g = 1000000 → PySem.W.kitOne K (.ref (G c)) (.type "ValueError") = some b) ∧ (g ≠ 1000000 → PySem.W.kitOne K (.ref (G c)) (.ref (G g)) = some b ∧ PySem.W.exmOne K (.ref (G c)) (.ref (G g)) = some b)
  defs : ∀ i f, P.fns.lookup i = some f → chkFd P f = true ∧ ∃ fd, FunD K f.name f.qual f.params f.stmts f.scope [] [] (G i) fd
section
variable {P : Pr} {G : Nat → Addr} {K : PySem.W.Frag} {mg : Str → Option Value} {prog : Program} {w : World} {base : Heap}
theorem fn_ok (F : PF P G K mg) : ∀ (n i : Nat) (f : Fd), P.fns.lookup i = some f → ∃ fd, FunD K f.name f.qual f.params f.stmts f.scope [] [] (G i) fd ∧ FnG prog w K mg base (CX prog w) n (G i) fd f.ps (spOf K G (P.call n i)) ∧ Binds K fd f.ps []
  | 0, i, f, e => by
    obtain ⟨c, fd, D⟩ := F.defs i f e
    obtain ⟨c, _⟩ := and2 c
    obtain ⟨c, c3⟩ := and2 c
    obtain ⟨c1, c2⟩ := and2 c
    refine ⟨fd, D, ⟨?_, ?_⟩, D.bindsN (bind_plain (of_decide_eq_true c1) (scope_nd (scopeB_ok c3)))⟩
    · rintro vs H Q E ⟨_, _, _, _, _, _, z, _⟩
      exact z.elim
    · rintro A _ _ outer s H args us vs Q E _ _ _ ⟨_, _, _, _, _, _, z, _⟩
      exact z.elim
  | n + 1, i, f, e => by
    obtain ⟨c, fd, D⟩ := F.defs i f e
    obtain ⟨c, c4⟩ := and2 c
    obtain ⟨c, c3⟩ := and2 c
    obtain ⟨c1, c2⟩ := and2 c
    have S := scopeB_ok c3
    refine ⟨fd, D, fnG_of D S ?_ ?_, D.bindsN (bind_plain (of_decide_eq_true c1) (scope_nd (scopeB_ok c3)))⟩
    · rintro vs H Q E ⟨ds, h, q, r, rds, rh, z, _⟩
      have z : (match P.fns.lookup i with
        | some f => ds.length = f.ps.length ∧ denB (P.ca (P.call n)) f.body { nx := fun _ h' => dq q .non h', rt := dq q, bk := fun _ _ => False, ct := fun _ _ => False, ex := fun c _ h' => dx r c h' } (ds.map some ++ List.replicate (f.N.length - ds.length) none) h
        | none => False) := z
      rw [e] at z
      rw [← rds.length]
      exact z.1
    · rintro cdv A hgd outer s H vs Q E hr ⟨ds, h, q, r, rds, rh, z, k, kx⟩
      have z : (match P.fns.lookup i with
        | some f => ds.length = f.ps.length ∧ denB (P.ca (P.call n)) f.body { nx := fun _ h' => dq q .non h', rt := dq q, bk := fun _ _ => False, ct := fun _ _ => False, ex := fun c _ h' => dx r c h' } (ds.map some ++ List.replicate (f.N.length - ds.length) none) h
        | none => False) := z
      rw [e] at z
      let X : Cx := cxOf (CX prog w) prog w K mg base f.N f.qual f.scope (G i) cdv A outer s H E
      have tk : Takes X (fun cls d _ H => E cls d H) := takes_of (X := X) rfl rfl rfl rfl
      have co : Co X G (fun cls d _ H => E cls d H) (P.ca (P.call n)) (P.cf f) f.scope n := {
        hN := rfl
        nd := S.nd
        env := ⟨fun _ h => h, fun _ h => ⟨h, rfl⟩, fun _ h => .inl h, fun _ h => h⟩
        calm := rfl
        room := hr
        gd := hgd
        tk := tk
        gf := {
          blt := F.blt
          consts := F.consts
          fns := fun x g hx => by
            obtain ⟨m, f', e'⟩ := F.names x g hx
            obtain ⟨fd', D', ok, bd⟩ := fn_ok F n g f' e'
            exact ⟨m, ⟨⟨fd', f'.ps, ok, bd⟩, D'.kp⟩⟩
          cls := fun x g hx => ⟨(F.cls x g hx).1, (F.cls x g hx).2 X rfl⟩
          exm := F.exm
          fv := fun g hg => by
            cases e' : P.fns.lookup g with
            | none =>
              have hg : (P.fns.lookup g).isSome = true := hg
              rw [e'] at hg; cases hg
            | some f' =>
              obtain ⟨fd', D', ok, bd⟩ := fn_ok F n g f' e'
              exact ⟨⟨fd', f'.ps, ok, bd⟩, D'.kp⟩ } }
      have bo : Bo X := ⟨passes_of rfl, rfl, rfl, rfl, by show (if f.scope.kind.isAnnotationScope then ScopeKind.function else f.scope.kind) = .function; rw [S.kind]; rfl⟩
      refine ⟨_, snd_B f.body f.stmts co bo c4, _, h, _, ?_, rh, z.2, ?_⟩
      · have := rs_start (K := K) (G := G) (H := H) (f.N.length - ds.length) rds
        show RS K G H _ (L2.start f.N vs)
        unfold L2.start
        rw [← rds.length]
        exact this
      · refine ⟨?_, ?_, fun _ _ _ _ _ _ _ z => z.elim, fun _ _ _ _ _ _ _ z => z.elim, ?_⟩
        · rintro a' h' σ' H' fx _ rh' ⟨h2, sb, hq⟩
          exact k .non h2 .non H' (fx.trans (Fx.sub sb)) .non (rh'.sub sb) hq
        · rintro d h' v H' fx rd rh' ⟨h2, sb, hq⟩
          exact k d h2 v H' (fx.trans (Fx.sub sb)) rd (rh'.sub sb) hq
        · rintro c a' h' σ' H' fx _ rh' ⟨h2, sb, hq⟩
          exact kx c h2 H' (fx.trans (Fx.sub sb)) (rh'.sub sb) hq
end
end Nd
/-! Nd17: the module's facts as a Hook, the law's end. -/
namespace Nd
open PySem PySem.Spec PyProof.Rows L2
section
variable (K : PySem.W.Frag) (G : Nat → Addr)
mutual
/-- the value u of the module stands for d -/
def dB : D → Value → Bool
  | .non, .none => true
  | .bl a, .bool b => a == b
  | .int i, .int j _ => decide (i = j)
  | .str s, .str t _ => decide (s = t) && (decide (s.length ≤ sizeLine) && PyData.strOk s)
  | .tup xs, .ref a => match K.lookup a with
    | some ⟨.type c, _, .seq its _, _⟩ => decide (c = "tuple") && (decide (its.size ≤ sizeLine) && dBs xs its.toList)
    | _ => false
  | .kls xs, .ref a => match K.lookup a with
    | some ⟨.type c, none, .seq its _, _⟩ => decide (c = "list") && (decide (its.size ≤ sizeLine) && dBs xs its.toList)
    | _ => false
  | .glo g, .ref a => decide (a = G g)
  | _, _ => false
def dBs : List D → List Value → Bool
  | [], [] => true
  | d :: ds, u :: us => dB d u && dBs ds us
  | _, _ => false
end
end
section
variable {K : PySem.W.Frag} {G : Nat → Addr}
mutual
theorem dB_ok : ∀ {d : D} {u : Value}, dB K G d u = true → ∃ v, RelV v u ∧ ∀ H, RD K G H d v
  | .non, u, h => by cases u <;> first | exact ⟨.non, rfl, fun _ => .non⟩ | cases h
  | .bl a, u, h => by
    cases u <;> first | cases h | skip
    rename_i b
    have e := eq_of_beq (show (a == b) = true from h)
    exact ⟨.bl b, rfl, fun _ => e ▸ .bl _⟩
  | .int i, u, h => by
    cases u <;> first | cases h | skip
    rename_i j t
    have e := of_decide_eq_true (show decide (i = j) = true from h)
    exact ⟨.int i, ⟨t, by rw [e]⟩, fun _ => .int _⟩
  | .str s, u, h => by
    cases u <;> first | cases h | skip
    rename_i j t
    obtain ⟨e, h⟩ := and2 (show (decide (s = j) && (decide (s.length ≤ sizeLine) && PyData.strOk s)) = true from h)
    obtain ⟨h1, h2⟩ := and2 h
    have e := of_decide_eq_true e
    exact ⟨.str s, ⟨t, by rw [e]⟩, fun _ => .str _ ⟨of_decide_eq_true h1, h2⟩⟩
  | .tup xs, u, h => by
    cases u <;> first | cases h | skip
    rename_i a
    unfold dB at h
    split at h
    · rename_i c od its n sl q
      obtain ⟨h1, h⟩ := and2 h
      obtain ⟨h2, h3⟩ := and2 h
      obtain ⟨vs, r1, r2⟩ := dBs_ok h3
      have hl : its.size ≤ sizeLine := of_decide_eq_true h2
      exact ⟨.ref a, rfl, fun H => .tup (.inr ⟨_, its, n, q, congrArg Value.type (of_decide_eq_true h1), rfl, hl, r1⟩) (by rw [(r2 H).length, r1.length]; exact hl) (r2 H)⟩
    · cases h
  | .kls xs, u, h => by
    cases u <;> first | cases h | skip
    rename_i a
    unfold dB at h
    split at h
    · rename_i c its n sl q
      obtain ⟨h1, h⟩ := and2 h
      obtain ⟨h2, h3⟩ := and2 h
      obtain ⟨vs, r1, r2⟩ := dBs_ok h3
      have hl : its.size ≤ sizeLine := of_decide_eq_true h2
      exact ⟨.ref a, rfl, fun H => .kls (.inr ⟨_, its, n, q, congrArg Value.type (of_decide_eq_true h1), rfl, rfl, hl, r1⟩) (by rw [(r2 H).length, r1.length]; exact hl) (r2 H)⟩
    · cases h
  | .glo g, u, h => by
    cases u <;> first | cases h | skip
    rename_i a
    have e := of_decide_eq_true (show decide (a = G g) = true from h)
    exact ⟨.ref (G g), by rw [e]; rfl, fun _ => .glo g⟩
  | .ref _, u, h => by cases u <;> cases h
  | .ty _, u, h => by cases u <;> cases h
  | .exc _, u, h => by cases u <;> cases h
  | .kdc _ _, u, h => by cases u <;> cases h
theorem dBs_ok : ∀ {ds : List D} {us : List Value}, dBs K G ds us = true → ∃ vs, Vals vs us ∧ ∀ H, RDs K G H ds vs
  | [], us, h => by cases us <;> first | exact ⟨[], .nil, fun _ => .nil⟩ | cases h
  | d :: ds, us, h => by
    cases us with
    | nil => cases h
    | cons u us =>
      obtain ⟨h1, h2⟩ := and2 (show (dB K G d u && dBs K G ds us) = true from h)
      obtain ⟨v, r1, r2⟩ := dB_ok h1
      obtain ⟨vs, r3, r4⟩ := dBs_ok h2
      exact ⟨v :: vs, .cons r1 r3, fun H => .cons (r2 H) (r4 H)⟩
end
end
/-! ### the Hook -/
def Pr.G (P : Pr) (K : PySem.W.Frag) (g : Nat) : Addr := He.fAd K ((P.gl.lookup g).getD ("", none))
def Fd.dd (f : Fd) : He.DefD := ⟨f.at_, f.name, f.qual, f.params, f.stmts, f.scope, [], []⟩
def conB (P : Pr) (K : PySem.W.Frag) (q : Str × D) : Bool := match PySem.W.nsIn K mainGlobals q.1 with
  | some (some u) => dB K (P.G K) q.2 u
  | _ => false
def excB (K : PySem.W.Frag) (D : Addr) : Bool := He.eqO (PySem.W.findIn K (.ref D) "__getattribute__") (some (some (.builtin "BaseException.__getattribute__"))) && He.eqO (PySem.W.findIn K (.ref D) "__getattr__") (some none) &&
  decide (PySem.W.subIn K (.ref D) (.type "BaseException") = some true) && PySem.W.hasDictIn K D && He.eqO (PySem.W.findIn K (.ref D) "__class__") (some (some (.builtin "object.__class__"))) &&
  He.eqO (PySem.W.specialIn K (.builtin "object.__class__") "__get__") (some (some (.builtin "getset_descriptor.__get__"))) && decide (PySem.W.takesIn K (.builtin "object.__class__") = some true) && decide (PySem.W.mroIn K D (.type "object") = some true)
theorem excB_ok {K : PySem.W.Frag} {D : Addr} (h : excB K D = true) : ExcC K D := by
  obtain ⟨h, h8⟩ := and2 h
  obtain ⟨h, h7⟩ := and2 h
  obtain ⟨h, h6⟩ := and2 h
  obtain ⟨h, h5⟩ := and2 h
  obtain ⟨h, h4⟩ := and2 h
  obtain ⟨h, h3⟩ := and2 h
  obtain ⟨h1, h2⟩ := and2 h
  exact ⟨He.eqO_ok h1, He.eqO_ok h2, of_decide_eq_true h3, h4, He.eqO_ok h5, He.eqO_ok h6, of_decide_eq_true h7, of_decide_eq_true h8⟩
def exlB (P : Pr) (K : PySem.W.Frag) (q : (Nat × Nat) × Bool) : Bool := if q.1.2 = 1000000 then decide (PySem.W.kitOne K (.ref (P.G K q.1.1)) (.type "ValueError") = some q.2)
  else decide (PySem.W.kitOne K (.ref (P.G K q.1.1)) (.ref (P.G K q.1.2)) = some q.2) && decide (PySem.W.exmOne K (.ref (P.G K q.1.1)) (.ref (P.G K q.1.2)) = some q.2)
def factB (P : Pr) (K : PySem.W.Frag) : Bool :=
  (P.names.all fun q => (He.Fa.glo q.1).ok K) && (P.cls.all fun q => (He.Fa.glo q.1).ok K && (He.Fa.exc q.1).ok K) && (P.blt.all fun x => (He.Fa.free x).ok K) && (P.consts.all fun q => conB P K q) &&
  (P.exl.all fun q => excB K (P.G K q.1.1) && exlB P K q) && P.fns.all fun f => f.2.dd.ok K
abbrev AlN : Type := Bool × List He.FnW
def obsN (P : Pr) (K : PySem.W.Frag) : AlN := (factB P K, P.fns.map fun f => He.fnW K f.2.at_)
def valN (P : Pr) : AlN := (true, P.fns.map fun f => f.2.dd.val)
def obsNG (n : Nat) (P : Pr) (g : Addr → Option Obj) : AlN := obsN P (He.frG g (He.asD g n))
def hookN (n : Nat) (P : Pr) : PySem.W.Hook where
  α := AlN
  obs := fun s => obsNG n P s.heap.get?
  val := fun _ => valN P
  says := fun _ h => ∃ K : PySem.W.Frag, K.In h ∧ obsN P K = valN P
  of := fun _ _ e => ⟨_, He.frG_in, e⟩
  keeps := fun _ _ _ ⟨K, hK, c⟩ k => ⟨K, PySem.W.Frag.In.keeps hK k, c⟩
theorem obsNG_eq {n : Nat} {P : Pr} {g : Addr → Option Obj} {s : Shared} (h : ∀ a, g a = s.heap.get? a) : obsNG n P g = (hookN n P).obs s := by
  have e : g = s.heap.get? := funext h
  rw [e] <;> rfl
def obN (n : Nat) (P : Pr) (s : PySem.W.SharedT) : AlN := obsNG n P (HandSHeadRun.getT s)
theorem obN_eq {n : Nat} {P : Pr} (s : PySem.W.SharedT) : obN n P s = (hookN n P).obs s.abs := obsNG_eq (HandSHeadRun.getT_eq s)
theorem FunD.same {K : PySem.W.Frag} {x qual : Str} {params : Arguments} {body : List Stmt} {scope : Scope} {dvs : List V} {kws : List (Str × V)} {f : Addr} {fd fd2 : FuncData} (a : FunD K x qual params body scope dvs kws f fd) (b : FunD K x qual params body scope dvs kws f fd2) : fd = fd2 := by
  obtain ⟨_, _, _, _, _, _, _, _, _, _, _, l1, _⟩ := a.ex
  obtain ⟨_, _, _, _, _, _, _, _, _, _, _, l2, _⟩ := b.ex
  rw [l1] at l2
  cases l2
  rfl
theorem lk_mem2 {x : Nat × Nat} {v : Bool} : ∀ {l : List ((Nat × Nat) × Bool)}, l.lookup x = some v → (x, v) ∈ l
  | [], h => nomatch h
  | (y, u) :: l, h => by
    have h : (match x == y with | true => some u | false => l.lookup x) = some v := h
    split at h
    · rename_i q
      cases h
      rw [beq_iff_eq.mp q]
      exact List.mem_cons_self
    · exact List.mem_cons_of_mem _ (lk_mem2 h)
theorem lk_mem {α : Type} {x : Str} {v : α} : ∀ {l : List (Str × α)}, l.lookup x = some v → (x, v) ∈ l := fun h => PySem.mem_of_lookup h
theorem pf_of {P : Pr} {K : PySem.W.Frag} {h : Heap} {mg : Str → Option Value} (X : K.In h) (N : h.Ns mainGlobals mg) (ok : P.okB = true) (c : obsN P K = valN P) : PF P (P.G K) K mg := by
  have c1 : factB P K = true := congrArg (fun z : AlN => z.1) c
  have c2 : (P.fns.map fun f => He.fnW K f.2.at_) = P.fns.map fun f => f.2.dd.val := congrArg (fun z : AlN => z.2) c
  obtain ⟨c1, f6⟩ := and2 c1
  obtain ⟨c1, f5⟩ := and2 c1
  obtain ⟨c1, f4⟩ := and2 c1
  obtain ⟨c1, f3⟩ := and2 c1
  obtain ⟨f1, f2⟩ := and2 c1
  obtain ⟨o, o3⟩ := and2 ok
  obtain ⟨o1, o2⟩ := and2 o
  refine ⟨fun x hx => He.free_ok X N (List.all_eq_true.mp f3 x hx), fun x d hx => ?_, fun x f hx => ?_, fun x g hx => ?_, fun a b v e => ?_, fun i f e => ?_⟩
  · have q := List.all_eq_true.mp f4 _ (lk_mem hx)
    have q : (match PySem.W.nsIn K mainGlobals x with
      | some (some u) => dB K (P.G K) d u
      | _ => false) = true := q
    split at q
    · rename_i u e
      obtain ⟨v, r1, r2⟩ := dB_ok q
      exact ⟨u, v, PySem.W.mg_of X N e, r1, r2⟩
    · cases q
  · have q := He.glo_ok X N (List.all_eq_true.mp f1 _ (lk_mem hx))
    obtain ⟨z1, z2⟩ := and2 (List.all_eq_true.mp o1 _ (lk_mem hx))
    have z1 : P.gl.lookup f = some (x, none) := of_decide_eq_true z1
    refine ⟨q.trans ?_, Option.isSome_iff_exists.mp z2⟩
    show _ = some (Value.ref (He.fAd K ((P.gl.lookup f).getD ("", none))))
    rw [z1]
    rfl
  · obtain ⟨q1, q2⟩ := and2 (List.all_eq_true.mp f2 _ (lk_mem hx))
    have z1 : P.gl.lookup g = some (x, none) := of_decide_eq_true (List.all_eq_true.mp o2 _ (lk_mem hx))
    have e : P.G K g = He.ga K x := by
      show He.fAd K ((P.gl.lookup g).getD ("", none)) = _
      rw [z1]
      rfl
    have q := He.glo_ok X N q1
    rw [e]
    refine ⟨q, fun Y hY => ?_⟩
    obtain ⟨w1, w2, w3, w4⟩ := He.exc_ok q2
    subst hY
    exact ⟨w1, w2, w3, w4⟩
  · have m : ((a, b), v) ∈ P.exl := lk_mem2 e
    obtain ⟨q1, q2⟩ := and2 (List.all_eq_true.mp f5 _ m)
    refine ⟨excB_ok q1, fun e => ?_, fun ne => ?_⟩
    · unfold exlB at q2
      rw [if_pos e] at q2
      exact of_decide_eq_true q2
    · unfold exlB at q2
      rw [if_neg ne] at q2
      obtain ⟨q3, q4⟩ := and2 q2
      exact ⟨of_decide_eq_true q3, of_decide_eq_true q4⟩
  · have m := memN e
    obtain ⟨z1, z2⟩ := and2 (List.all_eq_true.mp o3 _ m)
    have z1 : P.gl.lookup i = some f.at_ := of_decide_eq_true z1
    refine ⟨z2, ?_⟩
    obtain ⟨j, hj, e1⟩ := List.mem_iff_getElem.mp m
    have e2 : (P.fns.map fun f => He.fnW K f.2.at_)[j]? = (P.fns.map fun f => f.2.dd.val)[j]? := by rw [c2]
    rw [List.getElem?_map, List.getElem?_map, List.getElem?_eq_getElem hj, e1] at e2
    obtain ⟨fd, F⟩ := He.DefD.funD (d := f.dd) (Option.some.inj e2) (List.all_eq_true.mp f6 _ m)
    refine ⟨fd, ?_⟩
    show FunD K f.name f.qual f.params f.stmts f.scope [] [] (He.fAd K ((P.gl.lookup i).getD ("", none))) fd
    rw [z1]
    exact F
/-- the law's end -/
theorem walk {l : PySem.W.OpenLaw} {n k dep i : Nat} {q : Program} {loose : List Str} {XP : (Str → Option Value) → Heap → Prop} {d : DefRec} {x nm : Str} {P : Pr} {f : Fd}
    (hn : l.most = some n) (hn2 : n ≤ sizeLine) (hdf : d.params.defaults = []) (hr : Room k callerA) (hnm : d.name = nm)
    (ok : P.okB = true) (hi : P.names.lookup nm = some i) (hf : P.fns.lookup i = some f) (hx : f.ps = [x])
    (hlaw : ∀ ns : List Int, ns.length ≤ n → P.call k i [.kls (ns.map .int)] (fun _ => none) (fun d _ => d = .bl true) fun _ _ => False) :
    PySem.W.WalkO q loose XP (hookN dep P).says l.row.toRowW d [] (fun f vs => PySem.call f vs) := by
  refine Att.attach_call hn hdf fun w s₀ s₁ mg mb fa o pm cd doc a us ns R Y ho hd hcd hmg hobj hints hlen hg => ?_
  obtain ⟨K, KX, c⟩ : ∃ K : PySem.W.Frag, K.In _ ∧ obsN P K = valN P := Y
  rw [hnm] at hmg
  have F := pf_of KX R.T.g ok c
  obtain ⟨hm2, -⟩ := F.names nm i hi
  have ea := hm2.symm.trans hmg
  cases ea
  have bd : ∃ fd, (∀ (s : Shared) (u : Value), BindsTo s fd ⟨[u], []⟩ [(x, u)]) ∧ ∀ base : Heap, K.In base → base.Ns mainGlobals mg → FnG l.prog w K mg base (CX l.prog w) k (P.G K i) fd [x] (spOf K (P.G K) (P.call k i)) := by
    obtain ⟨cf, fd, D⟩ := F.defs i f hf
    obtain ⟨cf, _⟩ := and2 cf
    obtain ⟨cf, c3⟩ := and2 cf
    obtain ⟨c1, _⟩ := and2 cf
    refine ⟨fd, fun s u => ?_, fun base _ _ => ?_⟩
    · have := D.bindsA (ps := f.ps) (bind_plain (of_decide_eq_true c1) (scope_nd (scopeB_ok c3))) s [u] (by rw [hx]; rfl)
      rw [hx] at this
      exact this
    · obtain ⟨fd2, D2, ok2, _⟩ := fn_ok (prog := l.prog) (w := w) (base := base) F k i f hf
      have : fd2 = fd := FunD.same D2 D
      subst this
      rw [← hx]
      exact ok2
  obtain ⟨fd, hb, hF⟩ := bd
  refine lawG KX R.T.g R.T.b R.T.builtins R.T.nolimit hg hobj hints (Nat.le_trans hlen hn2) hr hF hb (fun H hO hS => ?_) ?_
  · refine ⟨[.kls (ns.map .int)], fun _ => none, fun d _ => d = .bl true, fun _ _ => False, .cons (.kls (xs := ns.map V.int) ?_ ?_ ?_) .nil, ?_, hlaw ns hlen, ?_, fun _ _ _ _ _ z => z⟩
    · rcases hS with (hS | hS) | hS
      · rcases hO a with z | ⟨o, xs, z⟩
        · rw [z] at hS; cases hS
        · rw [z] at hS; cases hS
      · exact .inl hS
      · exact .inr hS
    · rw [List.length_map]
      exact Nat.le_trans hlen hn2
    · clear hlen hints hS
      induction ns with
      | nil => exact .nil
      | cons m ns ih => exact .cons (.int m) ih
    · intro a m z
      cases z
    · rintro d h' v H' _ rd _ rfl
      cases rd
      rfl
  · rintro H e s' z
    obtain ⟨_, _, _, _, _, _, _, _, _, _, _, _, z⟩ := z
    exact z
end Nd
/-! Ev0: terms of the small syntax run: lists and dicts that change no more are values, those that still change belong to one name. -/
namespace Nd
open PySem PySem.Spec PyProof.Rows L2
mutual
def toP : D → PyData
  | .non => .none
  | .int i => .int i
  | .str s => .str s
  | .bl b => .bool b
  | .tup xs => .tuple (toPs xs)
  | .kls xs => .list (toPs xs)
  | _ => .none
def toPs : List D → List PyData
  | [] => []
  | x :: xs => toP x :: toPs xs
end
mutual
/-- None, truths, numbers, texts, tuples and lists of these -/
def pyB : D → Bool
  | .non => true
  | .int _ => true
  | .str _ => true
  | .bl _ => true
  | .tup xs => pyBs xs
  | .kls xs => pyBs xs
  | _ => false
def pyBs : List D → Bool
  | [] => true
  | x :: xs => pyB x && pyBs xs
end
/-- what an expression gives: a value, a list or a dict that is new, one that a name has -/
inductive XV where
  | v (d : D) | nl (xs : List D) | nd (kvs : List (Key × D)) | br (xs : List D) | bd (kvs : List (Key × D))
/-- how a run ends -/
inductive R (α : Type) where
  | ok (a : α) (h : HD) | ex (c : Nat) (h : HD) | no
def R.bind {α β : Type} (x : R α) (f : α → HD → R β) : R β := match x with
  | .ok a h => f a h
  | .ex c h => .ex c h
  | .no => .no
def R.op {α : Type} (o : Option α) (h : HD) : R α := match o with
  | some a => .ok a h
  | none => .no
section
variable {α β : Type}
theorem R.bind_ok {a : α} {h : HD} {f : α → HD → R β} : (R.ok a h).bind f = f a h := rfl
theorem R.bind_ex {c : Nat} {h : HD} {f : α → HD → R β} : (R.ex c h).bind f = R.ex c h := rfl
theorem R.bind_no {f : α → HD → R β} : R.no.bind f = R.no := rfl
theorem R.op_some {a : α} {h : HD} : R.op (some a) h = .ok a h := rfl
theorem R.op_none {h : HD} : R.op (none : Option α) h = .no := rfl
end
/-- what a name has -/
inductive SV where
  | v (d : D) | l (xs : List D) | m (kvs : List (Key × D)) | k (xs : List D) | b (xs : List D) | c (kvs : List (Key × D))
/-- what a def is handed: a value, or another name's list or dict, to be read -/
inductive BA where
  | v (d : D) | l (xs : List D) | m (kvs : List (Key × D))
def BA.s : BA → SV
  | .v d => .v d
  | .l xs => .b xs
  | .m kvs => .c kvs
abbrev Sv := List (Option SV)
inductive Gk where
  | L | T | S | K | B
/-- as a value that is read -/
def XV.r : XV → D
  | .v d => d
  | .nl xs => .kls xs
  | .br xs => .kls xs
  | .nd kvs => .kdc (kvs.map (·.1)) (kvs.map (·.2))
  | .bd kvs => .kdc (kvs.map (·.1)) (kvs.map (·.2))
def XV.d : XV → Option D
  | .v d => some d
  | _ => none
def xds : List XV → Option (List D)
  | [] => some []
  | .v d :: xs => (xds xs).map (d :: ·)
  | _ => none
def xbs : List XV → Option (List BA)
  | [] => some []
  | .v d :: xs => (xbs xs).map (.v d :: ·)
  | .br ys :: xs => (xbs xs).map (.l ys :: ·)
  | .bd ys :: xs => (xbs xs).map (.m ys :: ·)
  | _ => none
/-! ### operators -/
def truE (d : D) : Option Bool := match d with
  | .non => some false
  | .bl b => some b
  | .int i => some (i != 0)
  | .str s => some ((s.length : Int) != 0)
  | .tup xs => some (!xs.isEmpty)
  | .kls xs => some (!xs.isEmpty)
  | _ => none
def itE (d : D) : Option (List D × Gk) := match d with
  | .tup xs => some (xs, .T)
  | .kls xs => some (xs, .L)
  | .str s => some (chars s, .S)
  | .kdc ks _ => some (ks.map kD, .K)
  | _ => none
def itX : XV → Option (List D × Gk)
  | .v d => itE d
  | .nl xs => some (xs, .L)
  | .br xs => some (xs, .B)
  | _ => none
def addE (x y : D) : Option XV := match x, y with
  | .int i, .int j => some (.v (.int (i + j)))
  | .str s, .str t => if s.length + t.length ≤ sizeLine then some (.v (.str (s ++ t))) else none
  | .tup a, .tup b => if a.length + b.length ≤ sizeLine then some (.v (.tup (a ++ b))) else none
  | .kls a, .kls b => if a.length + b.length ≤ sizeLine then some (.nl (a ++ b)) else none
  | _, _ => none
def mulE (x y : XV) : Option XV := match x, y with
  | .v (.int i), .v (.int j) => if (-(2 ^ 64) < i ∧ i < 2 ^ 64) ∨ (-(2 ^ 64) < j ∧ j < 2 ^ 64) then some (.v (.int (i * j))) else none
  | .v (.tup xs), .v (.int k) => if xs ≠ [] ∧ 1 ≤ k ∧ k ≤ 1000 ∧ xs.length ≤ 1000 then some (.v (.tup (List.replicate k.toNat xs).flatten)) else none
  | .nl xs, .v (.int k) => if -(2 ^ 63) ≤ k ∧ k < 2 ^ 63 ∧ xs.length * k.toNat ≤ sizeLine then some (.nl (List.replicate k.toNat xs).flatten) else none
  | .br xs, .v (.int k) => if -(2 ^ 63) ≤ k ∧ k < 2 ^ 63 ∧ xs.length * k.toNat ≤ sizeLine then some (.nl (List.replicate k.toNat xs).flatten) else none
  | _, _ => none
def opE (o : Operator) (x y : XV) : Option XV := match o with
  | .Add => addE x.r y.r
  | .Sub => (match x.r, y.r with
    | .int i, .int j => some (.v (.int (i - j)))
    | _, _ => none)
  | .Mult => mulE x y
  | .FloorDiv => (match x.r, y.r with
    | .int i, .int j => if 0 < j ∧ j < 2 ^ 64 then some (.v (.int (i / j))) else none
    | _, _ => none)
  | .Mod => (match x.r, y.r with
    | .int i, .int j => if 0 < j then some (.v (.int (i % j))) else none
    | _, _ => none)
  | .Pow => (match x.r, y.r with
    | .int i, .int j => if 0 ≤ j ∧ j ≤ 1000000 ∧ i.natAbs < 2 ^ 64 then some (.v (.int (i ^ j.toNat))) else none
    | _, _ => none)
  | _ => none
def deepB (d : D) : Bool := decide ((toP d).depth ≤ 64)
def eqG (x y : D) : Option Bool :=
  if (pyB x && deepB x && (pyB y && deepB y)) = true then some (PyData.eqv (toP x) (toP y)) else match x, y with
    | .kls xs, .kls ys => if xs.length ≠ ys.length then some false else none
    | _, _ => none
def eqE (x y : D) : Option Bool := match x, y with
  | .int i, .int j => some (decide (i = j))
  | .str s, .str t => some (decide (s = t))
  | .bl s, .bl t => some (decide (s = t))
  | x, y => eqG x y
def ordE (ci : Int → Int → Bool) (cs : Str → Str → Bool) (cd : PyData → PyData → Bool) (x y : D) : Option Bool := match x, y with
  | .int i, .int j => some (ci i j)
  | .str s, .str t => some (cs s t)
  | .tup xs, .tup ys => if (pyBs xs && pyBs ys && (PySem.W.alike (.tuple (toPs xs)) (.tuple (toPs ys)) && decide ((PyData.tuple (toPs xs)).depth ≤ 64))) = true then some (cd (.tuple (toPs xs)) (.tuple (toPs ys))) else none
  | _, _ => none
def isE (x y : D) : Option Bool := match y with
  | .non => some (isNon x)
  | .bl b => (match x with
    | .bl a => some (decide (a = b))
    | _ => none)
  | _ => none
def inSeq (x : D) (xs : List D) (l : Bool) : Option Bool :=
  if (flatD x && xs.all flatD) = true then some (inF x xs)
  else if (l && (pyB x && deepB x) && (pyBs xs && decide (PyData.depthAll (toPs xs) < 64))) = true then some ((toPs xs).any fun z => PyData.eqv z (toP x)) else none
def inE (x y : D) : Option Bool := match y with
  | .str t => (match x with
    | .str s => some (!(Builtin.Str.occurrences t s 0 t.length 1).isEmpty)
    | _ => none)
  | .tup xs => inSeq x xs false
  | .kls xs => inSeq x xs true
  | .kdc ks xs => (match keyD x with
    | some k => some (lookK (ks.zip xs) k).isSome
    | none => none)
  | _ => none
def cmE : CmpOp → D → D → Option Bool
  | .Eq, x, y => eqE x y
  | .NotEq, x, y => (eqE x y).map (!·)
  | .Lt, x, y => ordE (fun i j => decide (i < j)) strLt PySem.W.dataLt x y
  | .Gt, x, y => ordE (fun i j => decide (j < i)) (fun s t => strLt t s) (fun p q => PySem.W.dataLt q p) x y
  | .LtE, x, y => ordE (fun i j => decide (i ≤ j)) (fun s t => !strLt t s) (fun p q => !PySem.W.dataLt q p) x y
  | .GtE, x, y => ordE (fun i j => decide (j ≤ i)) (fun s t => !strLt s t) (fun p q => !PySem.W.dataLt p q) x y
  | .Is, x, y => isE x y
  | .IsNot, x, y => (isE x y).map (!·)
  | .In, x, y => inE x y
  | .NotIn, x, y => (inE x y).map (!·)
def negE : D → Option D
  | .int i => some (.int (-i))
  | _ => none
def subE (x y : D) (h : HD) : Option D := match x with
  | .tup xs => (match y with
    | .int i => atD xs i
    | _ => none)
  | .str s => (match y with
    | .int i => atD (chars s) i
    | _ => none)
  | .kls xs => (match y with
    | .int i => atD xs i
    | _ => none)
  | .kdc ks xs => (keyD y).bind fun k => lookK (ks.zip xs) k
  | .ref a => (match h a with
    | some (.dic kvs) => (keyD y).bind fun k => lookK kvs k
    | _ => none)
  | _ => none
def slcE (x : XV) (lo hi : Option Int) : Option XV := match x.r with
  | .tup xs => some (.v (.tup (cutD xs lo hi)))
  | .str s => some (.v (.str (cutS s lo hi)))
  | .kls xs => some (.nl (cutD xs lo hi))
  | _ => none
def rvsE (x : XV) : Option XV := match x.r with
  | .kls xs => some (.nl xs.reverse)
  | _ => none
def asE : XV → Option Int
  | .v (.int i) => some i
  | _ => none
/-! ### built-ins -/
def tyE : D → Option String
  | .non => some "NoneType"
  | .bl _ => some "bool"
  | .int _ => some "int"
  | .str _ => some "str"
  | .tup _ => some "tuple"
  | .kls _ => some "list"
  | .kdc _ _ => some "dict"
  | _ => none
def isiE (exm : Nat → Nat → Option Bool) (x y : D) : Option D := match x, y with
  | .exc c, .ty n => if n = "ValueError" then (exm c 1000000).map .bl else none
  | .exc c, .glo g => if g ≠ 1000000 then (exm c g).map .bl else none
  | d, .ty n => if isTyN n = true then (tyE d).map fun a => .bl (isiB a n) else none
  | d, .tup [.ty n, .ty m] => if (isTyN n && isTyN m) = true then (tyE d).map fun a => .bl (isiB a n || isiB a m) else none
  | _, _ => none
def lenE : D → Option D
  | .str s => some (.int s.length)
  | .tup xs => some (.int xs.length)
  | .kls xs => some (.int xs.length)
  | .kdc _ xs => some (.int xs.length)
  | _ => none
def biE (exm : Nat → Nat → Option Bool) (b : BI) (ds : List D) : Option D := match b, ds with
  | .isi, [x, y] => isiE exm x y
  | .len, [d] => lenE d
  | .abs, [.int i] => some (.int (if i < 0 then -i else i))
  | .int1, [.int i] => some (.int i)
  | .int1, [.bl k] => some (.int (if k then 1 else 0))
  | .max2, [.int i, .int j] => some (.int (if j > i then j else i))
  | .min2, [.int i, .int j] => some (.int (if j < i then j else i))
  | .max3, [.int i, .int j, .int m] => some (.int (if j > i then (if m > j then m else j) else if m > i then m else i))
  | .repr1, [d] => if (pyB d && rpP (toP d) && smP (toP d) && (decide ((toP d).weight ≤ 300000) && deepB d)) = true then some (.str (toP d).shown) else none
  | .str1, [.int i] => if i.natAbs.log2 < 1920 ∧ (toString i : Str).length ≤ sizeLine ∧ PyData.strOk (toString i : Str) = true then some (.str (toString i)) else none
  | _, _ => none
def intsE : List D → Option (List Int)
  | [] => some []
  | .int i :: xs => (intsE xs).map (i :: ·)
  | _ => none
def blsE : List D → Option (List Bool)
  | [] => some []
  | .bl i :: xs => (blsE xs).map (i :: ·)
  | _ => none
/-- the least and the greatest of some numbers -/
def loZ : List Int → Int
  | [] => 0
  | x :: xs => xs.foldl (fun a b => if b < a then b else a) x
def hiZ : List Int → Int
  | [] => 0
  | x :: xs => xs.foldl (fun a b => if a < b then b else a) x
def tupB : PyData → Bool
  | .tuple (_ :: _) => true
  | _ => false
def noTB : PyData → Bool
  | .none => false
  | .tuple _ => false
  | _ => true
/-- what sorted takes -/
def srtB (ps : List PyData) : Bool := (ps.all fun d => ps.all fun e => PySem.W.alike d e) && (ps.all tupB || ps.all noTB) && decide (PyData.depthAll ps ≤ 64)
def Gk.l : Gk → Bool
  | .L => true
  | .B => true
  | _ => false
def Gk.lt : Gk → Bool
  | .L => true
  | .B => true
  | .T => true
  | _ => false
def Gk.kd : Gk → Bool
  | .K => true
  | _ => false
def prE : D → Option (Key × D)
  | .tup [k, d] => (keyD k).map fun k => (k, d)
  | _ => none
def prsE : List D → Option (List (Key × D))
  | [] => some []
  | x :: xs => (prE x).bind fun p => (prsE xs).map (p :: ·)
def strsE : List D → Option (List Str)
  | [] => some []
  | .str i :: xs => (strsE xs).map (i :: ·)
  | _ => none
def lset2 (xs : List D) : Option D := (strsE xs).bind fun ns => if ns.length + 1 < PySem.scanBound then some (.int (onceL ns).length) else none
def lsetE (xs : List D) (g : Gk) : Option D := if g.l = true then (match intsE xs with
  | some ns => if ns.length + 1 < PySem.scanBound then some (.int (dedupZ ns).length) else none
  | none => lset2 xs) else none
def ssetE (xs : List D) (g : Gk) : Option XV := if g.l = true then (strsE xs).bind fun ns => if ns.length + 1 < PySem.scanBound then some (.nl ((sortT ns).map .str)) else none else none
def joiE (a : Str) (xs : List D) (g : Gk) : Option D := if g.l = true then (strsE xs).bind fun ys => if (ys.map (·.length)).sum + ys.length * a.length ≤ 16777216 ∧ (Txt.join a ys).length ≤ sizeLine ∧ PyData.strOk (Txt.join a ys) = true then some (.str (Txt.join a ys)) else none else none
def itmE : XV → Option XV
  | .v (.kdc ks xs) => some (.nl ((ks.zip xs).map fun p => .tup [kD p.1, p.2]))
  | .nd kvs => some (.nl (kvs.map fun p => .tup [kD p.1, p.2]))
  | .bd kvs => some (.nl (kvs.map fun p => .tup [kD p.1, p.2]))
  | _ => none
/-- what min and max of data take -/
def cmpB (ps : List PyData) : Bool := (ps.all fun d => ps.all fun e => PySem.W.alike d e) && (ps.all fun p => match p with | .none => false | _ => true) && decide (PyData.depthAll ps ≤ 64)
def minD (xs : List D) : Option XV := if (pyBs xs && cmpB (toPs xs)) = true then (bstL (fun a b => PySem.W.dataLt (toP a) (toP b)) xs).map .v else none
def maxD (xs : List D) : Option XV := if (pyBs xs && cmpB (toPs xs)) = true then (bstL (fun a b => PySem.W.dataLt (toP b) (toP a)) xs).map .v else none
def blE (b : BL) (xs : List D) (g : Gk) : Option XV := match b with
  | .tuple => if g.lt = true then some (.v (.tup xs)) else none
  | .list => if (g.lt || g.kd) = true then some (.nl xs) else none
  | .sum => if g.l = true then (intsE xs).map fun ns => .v (.int ns.sum) else none
  | .max => if g.l = true then (match intsE xs with
    | some ns => if ns = [] then none else some (.v (.int (hiZ ns)))
    | none => maxD xs) else none
  | .min => if g.l = true then (match intsE xs with
    | some ns => if ns = [] then none else some (.v (.int (loZ ns)))
    | none => minD xs) else none
  | .all => if g.l = true then (blsE xs).map fun ns => .v (.bl (ns.all id)) else none
  | .any => if g.l = true then (blsE xs).map fun ns => .v (.bl (ns.any id)) else none
  | .sorted => if (g.l && pyBs xs && srtB (toPs xs)) = true then some (.nl (sortD xs (toPs xs))) else none
  | .dict => if g.l = true then (prsE xs).map fun kvs => .nd (mergeD kvs) else none
def findE (p : PyData) : List PyData → Nat → Option Nat
  | [], _ => none
  | z :: ps, j => if PyData.eqv z p = true then some j else findE p ps (j + 1)
def bmE (m : BM) (x y : D) : Option D := match m, x with
  | .count, .kls xs => if (pyBs xs && pyB y && (PyData.plainAll (toPs xs) && (toP y).plain) && (decide (PyData.depthAll (toPs xs) ≤ 64) && deepB y)) = true then some (.int ((toPs xs).countP fun z => PyData.eqv z (toP y) : Nat)) else none
  | .index, .kls xs => if (pyBs xs && pyB y && (SeqAt.shaped (.list (toPs xs)) && SeqAt.shaped (toP y))) = true then (findE (toP y) (toPs xs) 0).map fun j => .int (j : Nat) else none
  | _, _ => none
def bmC (m : BM) (x : D) : Option Unit := match m, x with
  | .count, .kls _ => some ()
  | .index, .kls _ => some ()
  | _, _ => none
/-! ### walks -/
def srcX (k : ItK) (xs : List XV) : Option (List D) := match k, xs with
  | .rng1, [.v (.int n)] => if -(2 ^ 62) ≤ n ∧ n ≤ 16777216 then some (rngL 0 n.toNat) else none
  | .rng2, [.v (.int i), .v (.int j)] => if (-(2 ^ 62) ≤ i ∧ i < 2 ^ 62 ∧ -(2 ^ 62) ≤ j ∧ j < 2 ^ 62) ∧ j - i ≤ 16777216 then some (rngL i (j - i).toNat) else none
  | .rng3, [.v (.int i), .v (.int j), .v (.int c)] => if c ≠ 0 ∧ c.natAbs < 1073741824 ∧ Builtin.Range.small i j c = true ∧ 0 ≤ Builtin.Range.rangeSize i j c ∧ Builtin.Range.rangeSize i j c ≤ 16777216 then some (stepL i c (Builtin.Range.rangeSize i j c).toNat) else none
  | .zip2, [x, y] => (match x.r, y.r with
    | .tup xs, .tup ys => some (zipL xs ys)
    | .kls xs, .kls ys => some (zipL xs ys)
    | _, _ => none)
  | .zip3, [.v (.tup xs), .v (.tup ys), .v (.tup zs)] => some (zipL3 xs ys zs)
  | .zipS, [.v (.str s), .v (.tup ys)] => some (zipL (chars s) ys)
  | .enumT, [.v (.tup xs)] => some (enumL xs)
  | .enum, [x] => (match x.r with
    | .kls xs => some (enumL xs)
    | _ => none)
  | .rev, [x] => (match x.r with
    | .tup xs => some xs.reverse
    | .kls xs => some xs.reverse
    | _ => none)
  | .items, [.v (.kdc ks xs)] => some ((ks.zip xs).map fun p => .tup [kD p.1, p.2])
  | .values, [.v (.kdc _ xs)] => some xs
  | _, _ => none
def setsE (l : List Nat) (xs : List D) (σ : Sv) : Sv := (l.zip xs).foldl (fun z p => z.set p.1 (some (.v p.2))) σ
def tgE (tg : Tg) (d : D) (σ : Sv) : Option Sv := match tg with
  | .nm i => some (σ.set i (some (.v d)))
  | .tp l => (match d with
    | .tup xs => if xs.length = l.length then some (setsE l xs σ) else none
    | _ => none)
  | .ul l => (match d with
    | .kls xs => if xs.length = l.length then some (setsE l xs σ) else none
    | _ => none)
def wipeE (σ : Sv) (own : List Nat) : Sv := own.foldr (fun i z => z.set i none) σ
def R.d (x : R XV) : R D := x.bind fun x h => R.op x.d h
/-- no error -/
def R.nx {α : Type} : R α → R α
  | .ex _ _ => .no
  | x => x
def cmpE (tg : Tg) (own : List Nat) (t : Sv → HD → R Bool) (e : Sv → HD → R XV) (σ : Sv) : List D → HD → R (List D)
  | [], h => .ok [] h
  | x :: xs, h => (R.op (tgE tg x (wipeE σ own)) h).bind fun σ2 h => (t σ2 h).nx.bind fun b h2 => if b = true then (e σ2 h2).d.nx.bind fun y h3 => (cmpE tg own t e σ xs h3).bind fun ys h4 => .ok (y :: ys) h4 else cmpE tg own t e σ xs h2
/-! ### expressions -/
def Es.isCons : Es → Bool
  | .nil => false
  | .cons _ _ => true
structure Cv where
  call : Nat → List D → HD → R XV
  callb : Nat → List BA → HD → R XV
  exm : Nat → Nat → Option Bool
  fv : Nat → Bool
structure Vn where
  v : Sv → HD → R XV
  t : Sv → HD → R Bool
  i : Sv → HD → R (List D × Gk)
def Vn.of (v : Sv → HD → R XV) : Vn where
  v := v
  t := fun σ h => (v σ h).bind fun x h1 => R.op (truE x.r) h1
  i := fun σ h => (v σ h).bind fun x h1 => R.op (itX x) h1
def Vn.ofT (t : Sv → HD → R Bool) : Vn where
  v := fun σ h => (t σ h).bind fun b h1 => .ok (.v (.bl b)) h1
  t := t
  i := fun _ _ => .no
def Vn.bad : Vn := ⟨fun _ _ => .no, fun _ _ => .no, fun _ _ => .no⟩
structure Vs where
  a : Sv → HD → R (List XV)
  an : Vn
  or : Vn
  i : Sv → HD → R (List D × Gk)
def srcE (k : ItK) (d : Vs) : Sv → HD → R (List D) := match k with
  | .seq => fun σ h => (d.i σ h).bind fun p h1 => .ok p.1 h1
  | k => fun σ h => (d.a σ h).bind fun xs h1 => R.op (srcX k xs) h1
/-- a new thing changes no more -/
def isRef : D → Bool
  | .ref _ => true
  | _ => false
def frzE : XV → Option XV
  | .v d => if isRef d = true then none else some (.v d)
  | .nl xs => some (.v (.kls xs))
  | .nd kvs => some (.v (.kdc (kvs.map (·.1)) (kvs.map (·.2))))
  | _ => none
def slotE : Option SV → Option XV
  | some (.v d) => some (.v d)
  | some (.l xs) => some (.br xs)
  | some (.m kvs) => some (.bd kvs)
  | some (.k xs) => some (.br xs)
  | some (.b xs) => some (.br xs)
  | some (.c kvs) => some (.bd kvs)
  | none => none
/-- what may be given back -/
def slotR : Option SV → Option XV
  | some (.b _) => none
  | some (.c _) => none
  | o => slotE o
section
variable (C : Cv)
mutual
def ev : E → Vn
  | .var i => .of fun σ h => R.op (slotE (σ[i]?).join) h
  | .cst d => .of fun _ h => .ok (.v d) h
  | .gl _ d => .of fun _ h => .ok (.v d) h
  | .ty n => .of fun _ h => .ok (.v (.ty n)) h
  | .tup es => .of fun σ h => ((evs es).a σ h).bind fun xs h1 => R.op ((xds xs).bind fun ds => if ds.length ≤ sizeLine then some (.v (.tup ds)) else none) h1
  | .lst es => .of fun σ h => ((evs es).a σ h).bind fun xs h1 => R.op ((xds xs).bind fun ds => if ds.length ≤ sizeLine then some (.nl ds) else none) h1
  | .dic ks vs => .of fun σ h => ((evs vs).a σ h).bind fun xs h1 => R.op ((xds xs).bind fun ds => if ks.length = ds.length then some (.nd (ks.zip ds)) else none) h1
  | .bin o a b => .of fun σ h => ((ev a).v σ h).bind fun x h1 => ((ev b).v σ h1).bind fun y h2 => R.op (opE o x y) h2
  | .neg a => .of fun σ h => ((ev a).v σ h).bind fun x h1 => R.op ((negE x.r).map .v) h1
  | .cmp o a b => .ofT fun σ h => ((ev a).v σ h).bind fun x h1 => ((ev b).v σ h1).bind fun y h2 => R.op (cmE o x.r y.r) h2
  | .chn o o' a b c => .ofT fun σ h => ((ev a).v σ h).bind fun x h1 => ((ev b).v σ h1).bind fun y h2 => (R.op (cmE o x.r y.r) h2).bind fun k h3 => if k = true then ((ev c).v σ h3).bind fun w h4 => R.op (cmE o' y.r w.r) h4 else .ok false h3
  | .nt a => .ofT fun σ h => ((ev a).t σ h).bind fun b h1 => .ok (!b) h1
  | .an es => bif es.isCons then (evs es).an else .bad
  | .or es => (evs es).or
  | .ife c a b => { Vn.of (fun σ h => ((ev c).t σ h).bind fun k h1 => if k = true then (ev a).v σ h1 else (ev b).v σ h1) with t := fun _ _ => .no }
  | .sub a i => .of fun σ h => ((ev a).v σ h).bind fun x h1 => ((ev i).v σ h1).bind fun y h2 => R.op ((subE x.r y.r h2).map .v) h2
  | .sl0 a => .of fun σ h => ((ev a).v σ h).bind fun x h1 => R.op (slcE x none none) h1
  | .slL a lo => .of fun σ h => ((ev a).v σ h).bind fun x h1 => ((ev lo).v σ h1).bind fun y h2 => R.op ((asE y).bind fun l => slcE x (some l) none) h2
  | .slU a hi => .of fun σ h => ((ev a).v σ h).bind fun x h1 => ((ev hi).v σ h1).bind fun y h2 => R.op ((asE y).bind fun l => slcE x none (some l)) h2
  | .slB a lo hi => .of fun σ h => ((ev a).v σ h).bind fun x h1 => ((ev lo).v σ h1).bind fun y h2 => (R.op (asE y) h2).bind fun l h3 => ((ev hi).v σ h3).bind fun z h4 => R.op ((asE z).bind fun u => slcE x (some l) (some u)) h4
  | .rvs a => .of fun σ h => ((ev a).v σ h).bind fun x h1 => R.op (rvsE x) h1
  | .callv i es => .of fun σ h => match slotE (σ[i]?).join with
    | some (.v (.glo g)) => if C.fv g = true then ((evs es).a σ h).bind fun xs h1 => (R.op (xds xs) h1).bind fun ds h2 => C.call g ds h2 else .no
    | _ => .no
  | .call f es => .of fun σ h => ((evs es).a σ h).bind fun xs h1 => match xds xs with | some ds => C.call f ds h1 | none => (R.op (xbs xs) h1).bind fun bs h2 => C.callb f bs h2
  | .bi b es => .of fun σ h => ((evs es).a σ h).bind fun xs h1 => R.op ((biE C.exm b (xs.map XV.r)).map .v) h1
  | .bl b e => .of fun σ h => ((ev e).i σ h).bind fun p h1 => R.op (blE b p.1 p.2) h1
  | .bm m o es => .of fun σ h => ((ev o).v σ h).bind fun x h1 => (R.op (bmC m x.r) h1).bind fun _ h1 => ((evs es).a σ h1).bind fun ys h2 => match ys with
    | [.v y] => R.op ((bmE m x.r y).map .v) h2
    | _ => .no
  | .comp k es tg own ifs e => .of fun σ h => (srcE k (evs es) σ h).bind fun xs h1 => (cmpE tg own (evs ifs).an.t (ev e).v σ xs h1).bind fun ys h2 => .ok (.nl ys) h2
  | .frz e => .of fun σ h => ((ev e).v σ h).bind fun x h1 => R.op (frzE x) h1
  | .lset false e => .of fun σ h => ((ev e).i σ h).bind fun p h1 => R.op ((lsetE p.1 p.2).map .v) h1
  | .lset true e => .of fun σ h => ((ev e).i σ h).bind fun p h1 => R.op (ssetE p.1 p.2) h1
  | .joi a e => .of fun σ h => ((ev e).i σ h).bind fun p h1 => R.op ((joiE a p.1 p.2).map .v) h1
  | .itm e => .of fun σ h => ((ev e).v σ h).bind fun x h1 => R.op (itmE x) h1
  | _ => .bad
def evs : Es → Vs
  | .nil => { a := fun _ h => .ok [] h, an := { Vn.bad with t := fun _ h => .ok true h }, or := .bad, i := fun _ _ => .no }
  | .cons e .nil => { a := fun σ h => ((ev e).v σ h).bind fun x h1 => .ok [x] h1, an := ev e, or := ev e, i := (ev e).i }
  | .cons e es => {
      a := fun σ h => ((ev e).v σ h).bind fun x h1 => ((evs es).a σ h1).bind fun xs h2 => .ok (x :: xs) h2
      an := { v := fun σ h => ((ev e).v σ h).bind fun x h1 => (R.op (truE x.r) h1).bind fun b h2 => if b = true then (evs es).an.v σ h2 else .ok x h2
              t := fun σ h => ((ev e).t σ h).bind fun b h1 => if b = true then (evs es).an.t σ h1 else .ok false h1
              i := fun _ _ => .no }
      or := { v := fun σ h => ((ev e).v σ h).bind fun x h1 => (R.op (truE x.r) h1).bind fun b h2 => if b = true then .ok x h2 else (evs es).or.v σ h2
              t := fun σ h => ((ev e).t σ h).bind fun b h1 => if b = true then .ok true h1 else (evs es).or.t σ h1
              i := fun _ _ => .no }
      i := fun _ _ => .no }
end
end
/-! ### statements -/
inductive O where
  | nx (σ : Sv) (h : HD) | rt (x : XV) (h : HD) | bk (σ : Sv) (h : HD) | ct (σ : Sv) (h : HD) | ex (c : Nat) (σ : Sv) (h : HD) | no
def R.st {α : Type} (x : R α) (σ : Sv) (f : α → HD → O) : O := match x with
  | .ok a h => f a h
  | .ex c h => .ex c σ h
  | .no => .no
def O.bind (x : O) (f : Sv → HD → O) : O := match x with
  | .nx σ h => f σ h
  | o => o
/-- what a name takes -/
def newE : XV → Option SV
  | .v d => some (.v d)
  | .nl xs => some (.l xs)
  | .nd kvs => some (.m kvs)
  | _ => none
def forE (tg : Tg) (b : Sv → HD → O) : List D → Sv → HD → O
  | [], σ, h => .nx σ h
  | x :: xs, σ, h => match tgE tg x σ with
    | none => .no
    | some σ1 => match b σ1 h with
      | .nx σ2 h2 => forE tg b xs σ2 h2
      | .ct σ2 h2 => forE tg b xs σ2 h2
      | .bk σ2 h2 => .nx σ2 h2
      | o => o
def whlE (c : Sv → HD → R Bool) (b : Sv → HD → O) : Nat → Sv → HD → O
  | 0, _, _ => .no
  | n + 1, σ, h => (c σ h).st σ fun k h1 => if k = true then (match b σ h1 with
      | .nx σ2 h2 => whlE c b n σ2 h2
      | .ct σ2 h2 => whlE c b n σ2 h2
      | .bk σ2 h2 => .nx σ2 h2
      | o => o) else .nx σ h1
/-- xs.append(x), the name's own list -/
def appE (σ : Sv) (i : Nat) (xs : List D) (x : XV) (h : HD) : O := match x with
  | .v d => if xs.length < sizeLine then .nx (σ.set i (some (.l (xs ++ [d])))) h else .no
  | _ => .no
/-- xs.pop() -/
def popE (σ : Sv) (i : Nat) : Option (D × Sv) := match (σ[i]?).join with
  | some (.l xs) => (xs[xs.length - 1]?).map fun d => (d, σ.set i (some (.l xs.dropLast)))
  | _ => none
def setL (σ : Sv) (k : Nat) (xs : List D) (x z : XV) (h : HD) : O := match x, z with
  | .v d, .v (.int n) => (match L2.ixN xs.length n with
    | some j => .nx (σ.set k (some (.l (xs.set j d)))) h
    | none => .no)
  | _, _ => .no
def setM (σ : Sv) (k : Nat) (kvs : List (Key × D)) (x z : XV) (h : HD) : O := match x, z with
  | .v d, .v y => (match keyD y with
    | some kk => if kvs.length < sizeLine then .nx (σ.set k (some (.m (putD kvs kk d)))) h else .no
    | none => .no)
  | _, _ => .no
def setR (σ : Sv) (o : D) (x z : XV) (h : HD) : O := match o, x, z with
  | .ref a, .v d, .v y => (match h a with
    | some (.dic kvs) => (match keyD y with
      | some kk => if kvs.length < sizeLine then .nx σ (hup h a (.dic (putD kvs kk d))) else .no
      | none => .no)
    | _ => .no)
  | _, _, _ => .no
def isV1 (k : ItK) (es : Es) : Option Nat := match k, es with
  | .seq, .cons (.var i) .nil => some i
  | _, _ => none
def Gk.b : Gk → Bool
  | .B => true
  | _ => false
def noBr : List XV → Bool
  | [] => true
  | .br _ :: _ => false
  | .bd _ :: _ => false
  | _ :: xs => noBr xs
/-- where a for walks, no name's own thing -/
def srcN (k : ItK) (d : Vs) : Sv → HD → R (List D) := match k with
  | .seq => fun σ h => (d.i σ h).bind fun p h1 => if p.2.b = true then .no else .ok p.1 h1
  | k => fun σ h => (d.a σ h).bind fun xs h1 => if noBr xs = true then R.op (srcX k xs) h1 else .no
def unlkE (σ : Sv) (i : Nat) : Sv := match (σ[i]?).join with
  | some (.k xs) => σ.set i (some (.l xs))
  | some (.b _) => σ.set i none
  | some (.c _) => σ.set i none
  | _ => σ
def O.unlk (x : O) (i : Nat) : O := match x with
  | .nx σ h => .nx (unlkE σ i) h
  | .bk σ h => .bk (unlkE σ i) h
  | .ct σ h => .ct (unlkE σ i) h
  | .ex c σ h => .ex c (unlkE σ i) h
  | o => o
def retE : XV → Option XV
  | .br _ => none
  | .bd _ => none
  | x => some x
def varE : E → Option Nat
  | .var i => some i
  | _ => none
/-- e is the name's pop -/
def popV : E → Option Nat
  | .bm .pop0 (.var i) .nil => some i
  | _ => none
/-- e is the name's append of something -/
def appV : E → Option (Nat × E)
  | .bm .append (.var i) (.cons e .nil) => some (i, e)
  | _ => none
/-- e empties the name's list or dict -/
def clrV : E → Option Nat
  | .bm .clear (.var i) .nil => some i
  | .bm .clearD (.var i) .nil => some i
  | _ => none
def isD : E → Bool
  | .bm .clearD _ _ => true
  | _ => false
def augE (op : Operator) (x y : D) : Option D := match op, x with
  | .Add, .int i => (match y with
    | .int j => some (.int (i + j))
    | _ => none)
  | .Add, .str s => (match y with
    | .str t => if s.length + t.length ≤ sizeLine then some (.str (s ++ t)) else none
    | _ => none)
  | .Sub, .int i => (match y with
    | .int j => some (.int (i - j))
    | _ => none)
  | _, _ => none
def extE (σ : Sv) (i : Nat) (xs : List D) (op : Operator) (x : XV) (h : HD) : O := match op, x with
  | .Add, .nl zs => if xs.length + zs.length ≤ sizeLine then .nx (σ.set i (some (.l (xs ++ zs)))) h else .no
  | _, _ => .no
section
variable (C : Cv)
mutual
def evS : S → Sv → HD → O
  | .pass => fun σ h => .nx σ h
  | .doc => fun σ h => .nx σ h
  | .brk => fun σ h => .bk σ h
  | .cnt => fun σ h => .ct σ h
  | .ex e => fun σ h => match appV e with
    | some (i, e') => (match (σ[i]?).join with
      | some (.l xs) => ((ev C e').v σ h).st σ fun x h1 => appE σ i xs x h1
      | _ => .no)
    | none => match clrV e with
      | some i => (match (σ[i]?).join with
        | some (.l _) => if isD e = true then .no else .nx (σ.set i (some (.l []))) h
        | some (.m _) => if isD e = true then .nx (σ.set i (some (.m []))) h else .no
        | _ => .no)
      | none => ((ev C e).v σ h).st σ fun _ h1 => .nx σ h1
  | .ret e => fun σ h => match varE e with
    | some i => (match slotR (σ[i]?).join with
      | some x => .rt x h
      | none => .no)
    | none => ((ev C e).v σ h).st σ fun x h1 => match retE x with
      | some x => .rt x h1
      | none => .no
  | .retN => fun _ h => .rt (.v .non) h
  | .set i e => fun σ h => match popV e with
    | some k => (match popE σ k with
      | some (d, σ1) => .nx (σ1.set i (some (.v d))) h
      | none => .no)
    | none => ((ev C e).v σ h).st σ fun x h1 => match newE x with
      | some s => .nx (σ.set i (some s)) h1
      | none => .no
  | .setT tg e => fun σ h => match popV e with
    | some k => (match popE σ k with
      | some (d, σ1) => (match tgE tg d σ1 with
        | some σ2 => .nx σ2 h
        | none => .no)
      | none => .no)
    | none => ((ev C e).v σ h).st σ fun x h1 => match x.d.bind fun d => tgE tg d σ with
      | some σ2 => .nx σ2 h1
      | none => .no
  | .par i j a b => fun σ h => ((ev C a).v σ h).st σ fun x h1 => ((ev C b).v σ h1).st σ fun y h2 => match x, y with
    | .v d, .v e => .nx ((σ.set i (some (.v d))).set j (some (.v e))) h2
    | _, _ => .no
  | .setS o i e => fun σ h => ((ev C e).v σ h).st σ fun x h1 => match varE o with
    | some k => (match (σ[k]?).join with
      | some (.l xs) => ((ev C i).v σ h1).st σ fun z h2 => setL σ k xs x z h2
      | some (.m kvs) => ((ev C i).v σ h1).st σ fun z h2 => setM σ k kvs x z h2
      | some (.v d) => ((ev C i).v σ h1).st σ fun z h2 => setR σ d x z h2
      | _ => .no)
    | none => ((ev C o).v σ h1).st σ fun y h2 => ((ev C i).v σ h2).st σ fun z h3 => match y with
      | .v d => setR σ d x z h3
      | _ => .no
  | .aug i op e => fun σ h => match (σ[i]?).join with
    | some (.v d) => ((ev C e).v σ h).st σ fun x h1 => match augE op d x.r with
      | some y => .nx (σ.set i (some (.v y))) h1
      | none => .no
    | some (.l xs) => ((ev C e).v σ h).st σ fun x h1 => extE σ i xs op x h1
    | _ => .no
  | .ite c a b => fun σ h => ((ev C c).t σ h).st σ fun k h1 => if k = true then evB a σ h1 else evB b σ h1
  | .whl c b => fun σ h => whlE (ev C c).t (evB b) 1000000 σ h
  | .for_ k es tg b => fun σ h => match isV1 k es with
    | some i => (match (σ[i]?).join with
      | some (.l xs) => (forE tg (evB b) xs (σ.set i (some (.k xs))) h).unlk i
      | some (.k xs) => forE tg (evB b) xs σ h
      | some (.b xs) => forE tg (evB b) xs σ h
      | some (.v d) => (match itE d with
        | some p => forE tg (evB b) p.1 σ h
        | none => .no)
      | _ => .no)
    | none => (srcN k (evs C es) σ h).st σ fun xs h1 => forE tg (evB b) xs σ h1
  | .raise c => fun σ h => .ex c σ h
  | .try_ b x i j => fun σ h => match evB b σ h with
    | .ex c σ1 h1 => (match C.exm c x with
      | some true => .nx ((σ1.set j (some (.v (.exc c)))).set i none) h1
      | some false => .ex c σ1 h1
      | none => .no)
    | o => o
  | .fz i => fun σ h => match (σ[i]?).join with
    | some (.v d) => if isRef d = true then .no else .nx (σ.set i (some (.v d))) h
    | some (.l xs) => .nx (σ.set i (some (.v (.kls xs)))) h
    | some (.m kvs) => .nx (σ.set i (some (.v (.kdc (kvs.map (·.1)) (kvs.map (·.2)))))) h
    | _ => .no
  | _ => fun _ _ => .no
def evB : B → Sv → HD → O
  | .nil => fun σ h => .nx σ h
  | .cons s b => fun σ h => (evS s σ h).bind fun σ1 h1 => evB b σ1 h1
end
end
/-- what stands behind a def -/
def retX : XV → XV
  | .br xs => .nl xs
  | .bd kvs => .nd kvs
  | x => x
def O.re : O → R XV
  | .nx _ h => .ok (.v .non) h
  | .rt x h => .ok (retX x) h
  | .ex c _ h => .ex c h
  | _ => .no
def startE (n : Nat) (ds : List D) : Sv := ds.map (fun d => some (.v d)) ++ List.replicate (n - ds.length) none
def startB (n : Nat) (bs : List BA) : Sv := bs.map (fun b => some b.s) ++ List.replicate (n - bs.length) none
def Pr.runB (P : Pr) : Nat → Nat → List BA → HD → R XV
  | 0, _, _, _ => .no
  | n + 1, i, bs, h => match P.fns.lookup i with
    | some f => if bs.length = f.ps.length then (evB ⟨fun i ds h => P.runB n i (ds.map .v) h, P.runB n, P.exm, fun g => (P.fns.lookup g).isSome⟩ f.body (startB f.N.length bs) h).re else .no
    | none => .no
def Pr.run (P : Pr) (n i : Nat) (ds : List D) (h : HD) : R XV := P.runB n i (ds.map .v) h
def Pr.cvn (P : Pr) (n : Nat) : Cv := ⟨P.run n, P.runB n, P.exm, fun g => (P.fns.lookup g).isSome⟩
end Nd
/-! Ev1: what a run says holds of the denotation: relations, operators. -/
namespace Nd
open PySem PySem.Spec PyProof.Rows L2
/-- what a run may have changed: what it doesn't know stays -/
structure Fr (h h1 h' h1' : HD) : Prop where
  sub : Sub h1 h1'
  keep : ∀ a m, h a = none → h' a = some m → h1' a = some m
  dom : ∀ a, h a = none ↔ h1 a = none
section
variable {h h1 h2 h' h1' h2' : HD}
theorem Fr.refl (s : Sub h h') : Fr h h h' h' := ⟨s, fun _ _ _ e => e, fun _ => Iff.rfl⟩
theorem Fr.trans (a : Fr h h1 h' h1') (b : Fr h1 h2 h1' h2') : Fr h h2 h' h2' :=
  ⟨b.sub, fun x m n e => b.keep x m ((a.dom x).mp n) (a.keep x m n e), fun x => (a.dom x).trans (b.dom x)⟩
theorem Fr.fresh (f : Fr h h1 h' h1') {p : Addr} (e : h1' p = none) : h' p = none := by
  cases q : h' p with
  | none => rfl
  | some m =>
    by_cases n : h p = none
    · rw [f.keep p m n q] at e; cases e
    · have : h1 p ≠ none := fun z => n ((f.dom p).mpr z)
      cases w : h1 p with
      | none => exact absurd w this
      | some m1 => rw [f.sub p m1 w] at e; cases e
theorem sub_none (s : Sub h h') {p : Addr} (e : h' p = none) : h p = none := by
  cases q : h p with
  | none => rfl
  | some m => rw [s p m q] at e; cases e
/-- a new thing that the run doesn't know -/
theorem Fr.new (s : Sub h h') {p : Addr} {m : MO} (e : h' p = none) : Fr h h h' (hup h' p m) :=
  ⟨fun a o z => hup_old' e (s a o z), fun a o _ z => hup_old' e z, fun _ => Iff.rfl⟩
where
  hup_old' {h' : HD} {p a : Addr} {m o : MO} (e : h' p = none) (z : h' a = some o) : hup h' p m a = some o := by
    rw [hup_ne (fun w => by rw [w, e] at z; cases z)]; exact z
theorem hup_old2 {p a : Addr} {m o : MO} (e : h' p = none) (z : h' a = some o) : hup h' p m a = some o := by
  rw [hup_ne (fun w => by rw [w, e] at z; cases z)]; exact z
end
def XR (h' h1 h1' : HD) : XV → D → Prop
  | .v d, d' => d' = d
  | .nl xs, d' => ∃ p, d' = .ref p ∧ h1' p = some (.lst xs) ∧ h1 p = none ∧ h' p = none
  | .nd xs, d' => ∃ p, d' = .ref p ∧ h1' p = some (.dic xs) ∧ h1 p = none ∧ h' p = none
  | .br xs, d' => ∃ p, d' = .ref p ∧ h1' p = some (.lst xs) ∧ h1 p = none
  | .bd xs, d' => ∃ p, d' = .ref p ∧ h1' p = some (.dic xs) ∧ h1 p = none
def RR (h h' : HD) : XV → D → Prop
  | .v d, d' => d' = d
  | .nl xs, d' => ∃ p, d' = .ref p ∧ h' p = some (.lst xs) ∧ h p = none
  | .nd xs, d' => ∃ p, d' = .ref p ∧ h' p = some (.dic xs) ∧ h p = none
  | .br xs, d' => ∃ p, d' = .ref p ∧ h' p = some (.lst xs) ∧ h p = none
  | .bd xs, d' => ∃ p, d' = .ref p ∧ h' p = some (.dic xs) ∧ h p = none
inductive RRs (h h' : HD) : List XV → List D → Prop
  | nil : RRs h h' [] []
  | cons {x : XV} {d : D} {xs : List XV} {ds : List D} : RR h h' x d → RRs h h' xs ds → RRs h h' (x :: xs) (d :: ds)
inductive XRs (hb h h' : HD) : List XV → List D → Prop
  | nil : XRs hb h h' [] []
  | cons {x : XV} {d : D} {xs : List XV} {ds : List D} : XR hb h h' x d → XRs hb h h' xs ds → XRs hb h h' (x :: xs) (d :: ds)
def GR (h' h1 h1' : HD) (xs : List D) : Gk → Gd → Prop
  | .L, g => g = .hid ∨ g = .kl ∨ ∃ p, g = .ls p (.lst xs) ∧ h1' p = some (.lst xs) ∧ h1 p = none ∧ h' p = none
  | .B, g => ∃ p, g = .ls p (.lst xs) ∧ h1' p = some (.lst xs) ∧ h1 p = none
  | .T, g => g = .tp
  | .S, g => g = .st
  | .K, g => g = .kd
section
variable {h h1 h2 h' h1' h2' : HD} {x : XV} {d : D}
theorem XR.rr (k : XR h' h1 h1' x d) : RR h1 h1' x d := by
  cases x with
  | v _ => exact k
  | nl _ => obtain ⟨p, a, b, c, _⟩ := k; exact ⟨p, a, b, c⟩
  | nd _ => obtain ⟨p, a, b, c, _⟩ := k; exact ⟨p, a, b, c⟩
  | br _ => exact k
  | bd _ => exact k
theorem RR.step (f : Fr h h1 h' h1') (k : RR h h' x d) : RR h1 h1' x d := by
  cases x with
  | v _ => exact k
  | nl _ => obtain ⟨p, a, b, c⟩ := k; exact ⟨p, a, f.keep _ _ c b, (f.dom p).mp c⟩
  | nd _ => obtain ⟨p, a, b, c⟩ := k; exact ⟨p, a, f.keep _ _ c b, (f.dom p).mp c⟩
  | br _ => obtain ⟨p, a, b, c⟩ := k; exact ⟨p, a, f.keep _ _ c b, (f.dom p).mp c⟩
  | bd _ => obtain ⟨p, a, b, c⟩ := k; exact ⟨p, a, f.keep _ _ c b, (f.dom p).mp c⟩
theorem XR.base (f : Fr h h1 h' h1') (k : XR h1' h2 h2' x d) : XR h' h2 h2' x d := by
  cases x with
  | v _ => exact k
  | nl _ => obtain ⟨p, a, b, c, e⟩ := k; exact ⟨p, a, b, c, f.fresh e⟩
  | nd _ => obtain ⟨p, a, b, c, e⟩ := k; exact ⟨p, a, b, c, f.fresh e⟩
  | br _ => exact k
  | bd _ => exact k
theorem XR.step {hb : HD} (f : Fr h h1 h' h1') (k : XR hb h h' x d) : XR hb h1 h1' x d := by
  cases x with
  | v _ => exact k
  | nl _ => obtain ⟨p, a, b, c, e⟩ := k; exact ⟨p, a, f.keep _ _ c b, (f.dom p).mp c, e⟩
  | nd _ => obtain ⟨p, a, b, c, e⟩ := k; exact ⟨p, a, f.keep _ _ c b, (f.dom p).mp c, e⟩
  | br _ => obtain ⟨p, a, b, c⟩ := k; exact ⟨p, a, f.keep _ _ c b, (f.dom p).mp c⟩
  | bd _ => obtain ⟨p, a, b, c⟩ := k; exact ⟨p, a, f.keep _ _ c b, (f.dom p).mp c⟩
theorem XRs.base (f : Fr h h1 h' h1') {xs : List XV} {ds : List D} (k : XRs h1' h2 h2' xs ds) : XRs h' h2 h2' xs ds := by
  induction k with
  | nil => exact .nil
  | cons a _ ih => exact .cons (a.base f) ih
theorem XRs.rrs {hb : HD} {xs : List XV} {ds : List D} (k : XRs hb h h' xs ds) : RRs h h' xs ds := by
  induction k with
  | nil => exact .nil
  | cons a _ ih => exact .cons a.rr ih
theorem RRs.step (f : Fr h h1 h' h1') {xs : List XV} {ds : List D} (k : RRs h h' xs ds) : RRs h1 h1' xs ds := by
  induction k with
  | nil => exact .nil
  | cons a _ ih => exact .cons (a.step f) ih
theorem RRs.vals {xs : List XV} {ds es : List D} (k : RRs h h' xs ds) (e : xds xs = some es) : ds = es := by
  induction k generalizing es with
  | nil => cases e; rfl
  | @cons x d xs ds a _ ih =>
    cases x with
    | v d0 =>
      obtain ⟨ys, e1, e2⟩ := Option.map_eq_some_iff.mp (show (xds xs).map (d0 :: ·) = some es from e)
      rw [ih e1, ← e2, show d = d0 from a]
    | _ => cases e
end
/-- what a run gives holds -/
def PG {α : Type} (x : R α) (h h' : HD) (k : α → HD → HD → Prop) (r : XQ) : Prop := match x with
  | .ok a h1 => ∀ h1', Fr h h1 h' h1' → k a h1 h1'
  | .ex c h1 => ∀ h1', Fr h h1 h' h1' → r c h1'
  | .no => False
section
variable {α β : Type} {h h1 h2 h' h1' h2' : HD} {x : R α} {f : α → HD → R β} {k : β → HD → HD → Prop} {r : XQ}
theorem PG.bind (H : PG (x.bind f) h h' k r) : PG x h h' (fun a h1 h1' => PG (f a h1) h1 h1' k r) r := by
  cases x with
  | no => exact H
  | ex c h1 => exact H
  | ok a h1 =>
    intro h1' f1
    show PG (f a h1) h1 h1' k r
    have H : PG (f a h1) h h' k r := H
    cases e : f a h1 with
    | no => rw [e] at H; exact H
    | ex c h2 => rw [e] at H; exact fun h2' f2 => H h2' (f1.trans f2)
    | ok b h2 => rw [e] at H; exact fun h2' f2 => H h2' (f1.trans f2)
theorem PG.imp {k1 k2 : α → HD → HD → Prop} (i : ∀ a h1 h1', Fr h h1 h' h1' → k1 a h1 h1' → k2 a h1 h1') (H : PG x h h' k1 r) : PG x h h' k2 r := by
  cases x with
  | no => exact H
  | ex c h1 => exact H
  | ok a h1 => exact fun h1' f1 => i a h1 h1' f1 (H h1' f1)
theorem PG.op {o : Option α} {k : α → HD → HD → Prop} (s : Sub h h') (H : PG (R.op o h) h h' k r) : ∃ a, o = some a ∧ k a h h' := by
  cases o with
  | none => exact H.elim
  | some a => exact ⟨a, rfl, H h' (Fr.refl s)⟩
end
/-! ### a run's names and the denotation's -/
def SR (H0 B : HD) (Kb : Option Addr) (h h' : HD) (p : Addr) : Option SV → Option D → Prop
  | none, _ => True
  | some (.v d), o => o = some d
  | some (.l xs), o => o = some (.ref p) ∧ h' p = some (.lst xs) ∧ h p = none ∧ H0 p = none ∧ B p = none
  | some (.m xs), o => o = some (.ref p) ∧ h' p = some (.dic xs) ∧ h p = none ∧ H0 p = none ∧ B p = none
  | some (.k xs), o => ∃ p, Kb = some p ∧ o = some (.ref p) ∧ B p = some (.lst xs) ∧ H0 p = none
  | some (.b xs), o => ∃ p, Kb = some p ∧ o = some (.ref p) ∧ B p = some (.lst xs)
  | some (.c xs), o => ∃ p, Kb = some p ∧ o = some (.ref p) ∧ B p = some (.dic xs)
def mutS : Option SV → Bool
  | some (.l _) => true
  | some (.m _) => true
  | _ => false
def moS : SV → Option MO
  | .l xs => some (.lst xs)
  | .m xs => some (.dic xs)
  | _ => none
structure Rel (H0 B : HD) (Kb : Nat → Option Addr) (h0 : HD) (σ : Sv) (h : HD) (σ' : Sl) (h' : HD) : Prop where
  sub : Sub h h'
  dom : ∀ a, h0 a = none ↔ h a = none
  b : ∀ a m, B a = some m → h' a = some m ∧ h a = none
  fr : ∀ a, h' a = none → H0 a = none
  kb : ∀ i p, Kb i = some p → B p ≠ none
  len : σ.length = σ'.length
  ad : ∃ ad : Nat → Addr, (∀ i, SR H0 B (Kb i) h h' (ad i) (σ[i]?).join ((σ'[i]?).join)) ∧ ∀ i j, mutS (σ[i]?).join = true → mutS (σ[j]?).join = true → ad i = ad j → i = j
section
variable {H0 B : HD} {Kb : Nat → Option Addr} {h0 h h1 h' h1' : HD} {σ : Sv} {σ' : Sl}
theorem Rel.step (r : Rel H0 B Kb h0 σ h σ' h') (f : Fr h h1 h' h1') : Rel H0 B Kb h0 σ h1 σ' h1' := by
  refine ⟨f.sub, fun a => (r.dom a).trans (f.dom a), fun a m e => ?_, fun a e => r.fr a (f.fresh e), r.kb, r.len, ?_⟩
  · obtain ⟨z1, z2⟩ := r.b a m e
    exact ⟨f.keep a m z2 z1, (f.dom a).mp z2⟩
  · obtain ⟨ad, a1, a2⟩ := r.ad
    refine ⟨ad, fun i => ?_, a2⟩
    have := a1 i
    cases e : (σ[i]?).join with
    | none => trivial
    | some s =>
      rw [e] at this
      cases s with
      | v d => exact this
      | l xs => obtain ⟨z1, z2, z3, z4, z5⟩ := this; exact ⟨z1, f.keep _ _ z3 z2, (f.dom _).mp z3, z4, z5⟩
      | m xs => obtain ⟨z1, z2, z3, z4, z5⟩ := this; exact ⟨z1, f.keep _ _ z3 z2, (f.dom _).mp z3, z4, z5⟩
      | k xs => exact this
      | b xs => exact this
      | c xs => exact this
theorem Rel.slot (r : Rel H0 B Kb h0 σ h σ' h') {i : Nat} {x : XV} (e : slotE (σ[i]?).join = some x) : ∃ d, (σ'[i]?).join = some d ∧ XR h' h h' x d := by
  obtain ⟨ad, a1, _⟩ := r.ad
  have := a1 i
  cases q : (σ[i]?).join with
  | none => rw [q] at e; cases e
  | some s =>
    rw [q] at e this
    cases s with
    | v d => cases e; exact ⟨d, this, rfl⟩
    | l xs => cases e; obtain ⟨z1, z2, z3, _⟩ := this; exact ⟨_, z1, _, rfl, z2, z3⟩
    | m xs => cases e; obtain ⟨z1, z2, z3, _⟩ := this; exact ⟨_, z1, _, rfl, z2, z3⟩
    | k xs =>
      cases e
      obtain ⟨p, _, z1, z2, _⟩ := this
      obtain ⟨w1, w2⟩ := r.b p _ z2
      exact ⟨_, z1, _, rfl, w1, w2⟩
    | b xs =>
      cases e
      obtain ⟨p, _, z1, z2⟩ := this
      obtain ⟨w1, w2⟩ := r.b p _ z2
      exact ⟨_, z1, _, rfl, w1, w2⟩
    | c xs =>
      cases e
      obtain ⟨p, _, z1, z2⟩ := this
      obtain ⟨w1, w2⟩ := r.b p _ z2
      exact ⟨_, z1, _, rfl, w1, w2⟩
theorem join_set {α : Type} {σ : List (Option α)} {i j : Nat} {x : Option α} : ((σ.set i x)[j]?).join = if i = j ∧ i < σ.length then x else (σ[j]?).join := by
  rw [List.getElem?_set]
  split
  · rename_i e
    subst e
    split
    · rename_i z; rw [if_pos ⟨rfl, z⟩]; rfl
    · rename_i z
      rw [if_neg (fun w => z w.2), List.getElem?_eq_none (by omega)]
  · rename_i e
    rw [if_neg (fun w => e w.1)]
theorem Rel.setV (r : Rel H0 B Kb h0 σ h σ' h') (i : Nat) (d : D) : Rel H0 B Kb h0 (σ.set i (some (.v d))) h (σ'.set i (some d)) h' := by
  refine ⟨r.sub, r.dom, r.b, r.fr, r.kb, by rw [List.length_set, List.length_set]; exact r.len, ?_⟩
  obtain ⟨ad, a1, a2⟩ := r.ad
  have ml : ∀ j, mutS ((σ.set i (some (.v d)))[j]?).join = true → mutS (σ[j]?).join = true := fun j z => by
    rw [join_set] at z
    split at z
    · cases z
    · exact z
  refine ⟨ad, fun j => ?_, fun j k z1 z2 e => a2 j k (ml j z1) (ml k z2) e⟩
  rw [join_set, join_set, ← r.len]
  split
  · rfl
  · exact a1 j
theorem Rel.setN (r : Rel H0 B Kb h0 σ h σ' h') (i : Nat) (o : Option D) : Rel H0 B Kb h0 (σ.set i none) h (σ'.set i o) h' := by
  refine ⟨r.sub, r.dom, r.b, r.fr, r.kb, by rw [List.length_set, List.length_set]; exact r.len, ?_⟩
  obtain ⟨ad, a1, a2⟩ := r.ad
  have ml : ∀ j, mutS ((σ.set i none)[j]?).join = true → mutS (σ[j]?).join = true := fun j z => by
    rw [join_set] at z
    split at z
    · cases z
    · exact z
  refine ⟨ad, fun j => ?_, fun j k z1 z2 e => a2 j k (ml j z1) (ml k z2) e⟩
  rw [join_set, join_set, ← r.len]
  split
  · trivial
  · exact a1 j
/-- a name takes a thing that is new -/
theorem Rel.setM (r0 : Rel H0 B Kb h0 σ h1 σ' h1') (f : Fr h1 h h1' h') (i : Nat) {s : SV} {m : MO} {p : Addr} (hn : h1' p = none) (hp : h p = none) (hs : moS s = some m) (hm : h' p = some m) :
    Rel H0 B Kb h0 (σ.set i (some s)) h (σ'.set i (some (.ref p))) h' := by
  have r := r0.step f
  refine ⟨r.sub, r.dom, r.b, r.fr, r.kb, by rw [List.length_set, List.length_set]; exact r.len, ?_⟩
  obtain ⟨ad, a1, a2⟩ := r.ad
  obtain ⟨ad0, b1, _⟩ := r0.ad
  have bn : B p = none := by
    cases q : B p with
    | none => rfl
    | some m => rw [(r0.b p m q).1] at hn; cases hn
  have hh0 := r0.fr p hn
  have told : ∀ j, mutS (σ[j]?).join = true → ad j ≠ p := fun j z e => by
    -- what stands at ad j was told
    have w := a1 j
    cases q : (σ[j]?).join with
    | none => rw [q] at z; cases z
    | some s0 =>
      have c := b1 j
      rw [q] at w c z
      cases s0 with
      | v d => cases z
      | k xs => cases z
      | b xs => cases z
      | c xs => cases z
      | l xs =>
        obtain ⟨w1, _⟩ := w
        obtain ⟨c1, c2, _⟩ := c
        rw [w1] at c1
        rw [← D.ref.inj (Option.some.inj c1), e, hn] at c2; cases c2
      | m xs =>
        obtain ⟨w1, _⟩ := w
        obtain ⟨c1, c2, _⟩ := c
        rw [w1] at c1
        rw [← D.ref.inj (Option.some.inj c1), e, hn] at c2; cases c2
  refine ⟨fun j => if j = i then p else ad j, fun j => ?_, fun j k z1 z2 e => ?_⟩
  · rw [join_set, join_set, ← r.len]
    by_cases hj : i = j ∧ i < σ.length
    · rw [if_pos hj, if_pos hj]
      dsimp only
      rw [if_pos hj.1.symm]
      cases s with
      | v d => cases hs
      | k d => cases hs
      | b d => cases hs
      | c d => cases hs
      | l xs => cases hs; exact ⟨rfl, hm, hp, hh0, bn⟩
      | m xs => cases hs; exact ⟨rfl, hm, hp, hh0, bn⟩
    · rw [if_neg hj, if_neg hj]
      dsimp only
      by_cases e : j = i
      · subst e
        have : (σ[j]?).join = none := by rw [List.getElem?_eq_none (by omega)]; rfl
        rw [this]; trivial
      · rw [if_neg e]; exact a1 j
  · rw [join_set] at z1 z2
    by_cases hj : j = i
    · by_cases hk : k = i
      · rw [hj, hk]
      · rw [if_neg (fun w => hk w.1.symm)] at z2
        dsimp only at e
        rw [if_pos hj, if_neg hk] at e
        exact absurd e.symm (told k z2)
    · rw [if_neg (fun w => hj w.1.symm)] at z1
      dsimp only at e
      by_cases hk : k = i
      · rw [if_neg hj, if_pos hk] at e
        exact absurd e (told j z1)
      · rw [if_neg (fun w => hk w.1.symm)] at z2
        rw [if_neg hj, if_neg hk] at e
        exact a2 j k z1 z2 e
/-- a name's own thing is changed -/
theorem Rel.wr (r : Rel H0 B Kb h0 σ h σ' h') {i : Nat} {s s1 : SV} {m m1 : MO} (e : (σ[i]?).join = some s) (hs : moS s = some m) (hs1 : moS s1 = some m1) :
    ∃ p, (σ'[i]?).join = some (.ref p) ∧ h' p = some m ∧ h p = none ∧ Rel H0 B Kb h0 (σ.set i (some s1)) h σ' (hup h' p m1) := by
  obtain ⟨ad, a1, a2⟩ := r.ad
  have w := a1 i
  have mi : mutS (σ[i]?).join = true := by
    rw [e]
    cases s <;> first | rfl | cases hs
  have : (σ'[i]?).join = some (.ref (ad i)) ∧ h' (ad i) = some m ∧ h (ad i) = none ∧ H0 (ad i) = none ∧ B (ad i) = none := by
    rw [e] at w
    cases s with
    | v d => cases hs
    | k d => cases hs
    | b d => cases hs
    | c d => cases hs
    | l xs => cases hs; exact w
    | m xs => cases hs; exact w
  obtain ⟨w1, w2, w3, w4, w5⟩ := this
  refine ⟨ad i, w1, w2, w3, ?_⟩
  refine ⟨fun a o z => ?_, r.dom, fun a o z => ?_, fun a z => ?_, r.kb, by rw [List.length_set]; exact r.len, ad, fun j => ?_, fun j k z1 z2 q => ?_⟩
  · rw [hup_ne (fun c => by rw [c, w3] at z; cases z)]
    exact r.sub a o z
  · obtain ⟨y1, y2⟩ := r.b a o z
    rw [hup_ne (fun c => by rw [c, w5] at z; cases z)]
    exact ⟨y1, y2⟩
  · refine r.fr a ?_
    by_cases c : a = ad i
    · rw [c, hup_same] at z; cases z
    · rw [hup_ne c] at z; exact z
  · rw [join_set]
    by_cases hj : i = j ∧ i < σ.length
    · rw [if_pos hj]
      obtain ⟨rfl, _⟩ := hj
      cases s1 with
      | v d => cases hs1
      | k d => cases hs1
      | b d => cases hs1
      | c d => cases hs1
      | l xs => cases hs1; exact ⟨w1, hup_same, w3, w4, w5⟩
      | m xs => cases hs1; exact ⟨w1, hup_same, w3, w4, w5⟩
    · rw [if_neg hj]
      have c := a1 j
      have ji : j ≠ i := fun z => by
        subst z
        have : j < σ.length := by
          cases q : σ[j]? with
          | none => rw [q] at e; cases e
          | some y => exact (List.getElem?_eq_some_iff.mp q).1
        exact hj ⟨rfl, this⟩
      cases q : (σ[j]?).join with
      | none => trivial
      | some s0 =>
        rw [q] at c
        have ne : mutS (some s0) = true → ad j ≠ ad i := fun z y => ji (a2 j i (by rw [q]; exact z) mi y)
        cases s0 with
        | v d => exact c
        | k xs => exact c
        | b xs => exact c
        | c xs => exact c
        | l xs => obtain ⟨c1, c2, c3⟩ := c; exact ⟨c1, by rw [hup_ne (ne rfl)]; exact c2, c3⟩
        | m xs => obtain ⟨c1, c2, c3⟩ := c; exact ⟨c1, by rw [hup_ne (ne rfl)]; exact c2, c3⟩
  · have ml : ∀ j, mutS ((σ.set i (some s1))[j]?).join = true → mutS (σ[j]?).join = true := fun j z => by
      rw [join_set] at z
      split at z
      · rename_i c; rw [← c.1]; exact mi
      · exact z
    exact a2 j k (ml j z1) (ml k z2) q
theorem Rel.wipe (r : Rel H0 B Kb h0 σ h σ' h') : ∀ l : List Nat, Rel H0 B Kb h0 (wipeE σ l) h (wipeD σ' l) h'
  | [] => r
  | i :: l => (r.wipe l).setN i none
theorem sets_ok (l : List Nat) : ∀ {xs : List D} {σ : Sv} {σ' : Sl}, Rel H0 B Kb h0 σ h σ' h' → Rel H0 B Kb h0 (setsE l xs σ) h ((l.zip xs).foldl (fun z p => z.set p.1 (some p.2)) σ') h' := by
  induction l with
  | nil => intro xs σ σ' r; exact r
  | cons i l ih =>
    intro xs σ σ' r
    cases xs with
    | nil => exact r
    | cons x xs => exact ih (r.setV i x)
theorem tgE_ok {tg : Tg} {d : D} {σ1 : Sv} {k : Sl → Prop} (r : Rel H0 B Kb h0 σ h σ' h') (e : tgE tg d σ = some σ1) (z : ∀ σ1', Rel H0 B Kb h0 σ1 h σ1' h' → k σ1') : tgS tg d h' σ' k := by
  cases tg with
  | nm i => cases e; exact z _ (r.setV i d)
  | ul l =>
    cases d with
    | kls xs =>
      have e : (if xs.length = l.length then some (setsE l xs σ) else none) = some σ1 := e
      split at e
      · rename_i hl
        cases e
        exact ⟨hl, z _ (sets_ok l r)⟩
      · cases e
    | _ => cases e
  | tp l =>
    cases d with
    | tup xs =>
      have e : (if xs.length = l.length then some (setsE l xs σ) else none) = some σ1 := e
      split at e
      · rename_i hl
        cases e
        exact ⟨hl, z _ (sets_ok l r)⟩
      · cases e
    | _ => cases e
end
end Nd
/-! Ev2: operators and built-ins of a run are those of the denotation. -/
namespace Nd
open PySem PySem.Spec PyProof.Rows L2
/-- d' is what is read as d -/
def VR (h' : HD) (d d' : D) : Prop := d' = d ∨ (∃ p xs, d = .kls xs ∧ d' = .ref p ∧ h' p = some (.lst xs)) ∨ ∃ p kvs, d = .kdc (kvs.map (·.1)) (kvs.map (·.2)) ∧ d' = .ref p ∧ h' p = some (.dic kvs)
section
variable {h h' : HD} {x : XV} {d d' e e' : D} {Q : VQ}
theorem RR.vr (k : RR h h' x d) : VR h' x.r d := by
  cases x with
  | v _ => exact .inl k
  | nl xs => obtain ⟨p, a, b, _⟩ := k; exact .inr (.inl ⟨p, xs, rfl, a, b⟩)
  | br xs => obtain ⟨p, a, b, _⟩ := k; exact .inr (.inl ⟨p, xs, rfl, a, b⟩)
  | nd xs => obtain ⟨p, a, b, _⟩ := k; exact .inr (.inr ⟨p, xs, rfl, a, b⟩)
  | bd xs => obtain ⟨p, a, b, _⟩ := k; exact .inr (.inr ⟨p, xs, rfl, a, b⟩)
theorem VR.flat (k : VR h' d d') (n : ∀ p, d' ≠ .ref p) : d = d' := by
  rcases k with k | ⟨p, _, _, k, _⟩ | ⟨p, _, _, k, _⟩
  · exact k.symm
  · exact absurd k (n p)
  · exact absurd k (n p)
/-- what is neither list nor dict is itself -/
theorem VR.same (k : VR h' d d') (n1 : ∀ xs, d ≠ .kls xs) (n2 : ∀ ks xs, d ≠ .kdc ks xs) : d' = d := by
  rcases k with k | ⟨p, xs, k, _⟩ | ⟨p, kvs, k, _⟩
  · exact k
  · exact absurd k (n1 _)
  · exact absurd k (n2 _ _)
theorem VR.int {i : Int} (k : VR h' (.int i) d') : d' = .int i := k.same (fun _ z => nomatch z) fun _ _ z => nomatch z
theorem VR.str {i : Str} (k : VR h' (.str i) d') : d' = .str i := k.same (fun _ z => nomatch z) fun _ _ z => nomatch z
theorem VR.bl {i : Bool} (k : VR h' (.bl i) d') : d' = .bl i := k.same (fun _ z => nomatch z) fun _ _ z => nomatch z
theorem VR.tup {i : List D} (k : VR h' (.tup i) d') : d' = .tup i := k.same (fun _ z => nomatch z) fun _ _ z => nomatch z
theorem VR.non (k : VR h' .non d') : d' = .non := k.same (fun _ z => nomatch z) fun _ _ z => nomatch z
theorem VR.lst {xs : List D} (k : VR h' (.kls xs) d') : lstOf h' d' = some xs := by
  rcases k with rfl | ⟨p, ys, e1, rfl, e2⟩ | ⟨p, kvs, e1, _⟩
  · rfl
  · cases e1
    show (match h' p with | some (.lst xs) => some xs | _ => none) = _
    rw [e2]
  · cases e1
theorem VR.seq {xs : List D} (k : VR h' (.kls xs) d') : seqOf h' d' = some xs := by
  rcases k with rfl | ⟨p, ys, e1, rfl, e2⟩ | ⟨p, kvs, e1, _⟩
  · rfl
  · cases e1
    show (match h' p with | some (.lst xs) => some xs | _ => none) = _
    rw [e2]
  · cases e1
theorem VR.ty {t : String} (k : VR h' d d') (e : tyE d = some t) : tyN h' d' = some t := by
  rcases k with rfl | ⟨p, ys, rfl, rfl, e2⟩ | ⟨p, kvs, rfl, rfl, e2⟩
  · cases d' <;> first | exact e | cases e
  · cases e
    show (match h' p with | some (.lst _) => some "list" | some (.dic _) => some "dict" | _ => none) = _
    rw [e2]
  · cases e
    show (match h' p with | some (.lst _) => some "list" | some (.dic _) => some "dict" | _ => none) = _
    rw [e2]
mutual
theorem py_B {h : HD} : ∀ {d : D}, pyB d = true → Py h d (toP d)
  | .non, _ => .non
  | .bl b, _ => .bl b
  | .int i, _ => .int i
  | .str s, _ => .str s
  | .tup xs, e => .tup (py_Bs e)
  | .kls xs, e => .kls (py_Bs e)
  | .ref _, e => by cases e
  | .ty _, e => by cases e
  | .glo _, e => by cases e
  | .exc _, e => by cases e
  | .kdc _ _, e => by cases e
theorem py_Bs {h : HD} : ∀ {xs : List D}, pyBs xs = true → Pys h xs (toPs xs)
  | [], _ => .nil
  | x :: xs, e => by
    have e := Bool.and_eq_true_iff.mp (show (pyB x && pyBs xs) = true from e)
    exact .cons (py_B e.1) (py_Bs e.2)
end
theorem VR.py (k : VR h' d d') (e : pyB d = true) : Py h' d' (toP d) := by
  rcases k with rfl | ⟨p, ys, rfl, rfl, e2⟩ | ⟨p, kvs, rfl, rfl, e2⟩
  · exact py_B e
  · exact .lst e2 (py_Bs e)
  · cases e
theorem eqV_gen {x y : D} {R : VQ} (n1 : ∀ i j, x = .int i → y = .int j → False) (n2 : ∀ i j, x = .str i → y = .str j → False) (n3 : ∀ i j, x = .bl i → y = .bl j → False)
    (z : (∃ p q, Py h' x p ∧ Py h' y q ∧ p.depth ≤ 64 ∧ q.depth ≤ 64 ∧ R (.bl (PyData.eqv p q)) h') ∨ lenNe x y h' R) : eqV x y h' R := by
  unfold eqV
  split
  · exact (n1 _ _ rfl rfl).elim
  · exact (n2 _ _ rfl rfl).elim
  · exact (n3 _ _ rfl rfl).elim
  · exact z
theorem eqE_ok {b : Bool} (k1 : VR h' d d') (k2 : VR h' e e') (q : eqE d e = some b) {R : VQ} (z : R (.bl b) h') : eqV d' e' h' R := by
  unfold eqE at q
  split at q
  · rw [k1.int, k2.int]; cases q; exact z
  · rw [k1.str, k2.str]; cases q; exact z
  · rw [k1.bl, k2.bl]; cases q; exact z
  · rename_i n1 n2 n3
    refine eqV_gen (fun i j a c => n1 i j (by rw [← a]; exact k1.flat (fun p w => by rw [a] at w; cases w)) (by rw [← c]; exact k2.flat (fun p w => by rw [c] at w; cases w)))
      (fun i j a c => n2 i j (by rw [← a]; exact k1.flat (fun p w => by rw [a] at w; cases w)) (by rw [← c]; exact k2.flat (fun p w => by rw [c] at w; cases w)))
      (fun i j a c => n3 i j (by rw [← a]; exact k1.flat (fun p w => by rw [a] at w; cases w)) (by rw [← c]; exact k2.flat (fun p w => by rw [c] at w; cases w))) ?_
    unfold eqG at q
    split at q
    · rename_i c
      rw [Bool.and_eq_true, Bool.and_eq_true, Bool.and_eq_true] at c
      obtain ⟨⟨c1, c2⟩, c3, c4⟩ := c
      cases q
      exact .inl ⟨_, _, k1.py c1, k2.py c3, of_decide_eq_true c2, of_decide_eq_true c4, z⟩
    · split at q
      · split at q
        · rename_i ne
          cases q
          exact .inr ⟨_, _, k1.lst, k2.lst, ne, z⟩
        · cases q
      · cases q
theorem neE_ok {b : Bool} (k1 : VR h' d d') (k2 : VR h' e e') (q : (eqE d e).map (!·) = some b) (z : Q (.bl b) h') : neV d' e' h' Q := by
  obtain ⟨c, q1, rfl⟩ := Option.map_eq_some_iff.mp q
  exact eqE_ok k1 k2 q1 ⟨c, rfl, z⟩
theorem ordE_ok {ci : Int → Int → Bool} {cs : Str → Str → Bool} {cd : PyData → PyData → Bool} {b : Bool} (k1 : VR h' d d') (k2 : VR h' e e') (q : ordE ci cs cd d e = some b) (z : Q (.bl b) h') : ordV ci cs cd d' e' h' Q := by
  unfold ordE at q
  split at q
  · rw [k1.int, k2.int]; cases q; exact z
  · rw [k1.str, k2.str]; cases q; exact z
  · rw [k1.tup, k2.tup]
    split at q
    · rename_i c
      rw [Bool.and_eq_true, Bool.and_eq_true, Bool.and_eq_true] at c
      obtain ⟨⟨c1, c2⟩, c3, c4⟩ := c
      cases q
      exact ⟨_, _, .tup (py_Bs c1), .tup (py_Bs c2), c3, of_decide_eq_true c4, z⟩
    · cases q
  · cases q
theorem isNon_vr (k : VR h' d d') : isNon d' = isNon d := by
  rcases k with rfl | ⟨p, ys, rfl, rfl, e2⟩ | ⟨p, kvs, rfl, rfl, e2⟩ <;> rfl
theorem isE_ok {b : Bool} (k1 : VR h' d d') (k2 : VR h' e e') (q : isE d e = some b) (z : Q (.bl b) h') : isV d' e' h' Q := by
  unfold isE at q
  split at q
  · cases q; rw [k2.non]; show Q (.bl (isNon d')) h'; rw [isNon_vr k1]; exact z
  · split at q
    · cases q; rw [k2.bl, k1.bl]; exact z
    · cases q
  · cases q
theorem isnE_ok {b : Bool} (k1 : VR h' d d') (k2 : VR h' e e') (q : (isE d e).map (!·) = some b) (z : Q (.bl b) h') : isnV d' e' h' Q := by
  obtain ⟨c, q1, rfl⟩ := Option.map_eq_some_iff.mp q
  clear q
  unfold isE at q1
  split at q1
  · cases q1; rw [k2.non]; show Q (.bl (!isNon d')) h'; rw [isNon_vr k1]; exact z
  · split at q1
    · cases q1; rw [k2.bl, k1.bl]; exact z
    · cases q1
  · cases q1
theorem flat_vr (k : VR h' d d') (f : flatD d = true) : d' = d := k.same (fun _ z => by rw [z] at f; cases f) fun _ _ z => by rw [z] at f; cases f
theorem key_vr {kk : Key} (k : VR h' d d') (f : keyD d = some kk) : d' = d := k.same (fun _ z => by rw [z] at f; cases f) fun _ _ z => by rw [z] at f; cases f
theorem inSeq_ok {xs : List D} {b l : Bool} (k1 : VR h' d d') (q : inSeq d xs l = some b) {R : VQ} (z : R (.bl b) h') {y : D} (ny : ∀ t, y ≠ .str t) (es : seqOf h' y = some xs) (ey : l = true → (lstOf h' y).isSome = true) : inV d' y h' R := by
  unfold inV
  split
  · exact (ny _ rfl).elim
  · rw [es]
    unfold inSeq at q
    split at q
    · rename_i c
      rw [Bool.and_eq_true] at c
      cases q
      rw [flat_vr k1 c.1]
      exact .inl ⟨c.1, c.2, z⟩
    · split at q
      · rename_i c
        rw [Bool.and_eq_true, Bool.and_eq_true, Bool.and_eq_true, Bool.and_eq_true] at c
        obtain ⟨⟨c1, c2, c3⟩, c4, c5⟩ := c
        cases q
        exact .inr ⟨_, _, k1.py c2, py_Bs c4, of_decide_eq_true c3, of_decide_eq_true c5, ey c1, z⟩
      · cases q
theorem look_map (kvs : List (Key × D)) : (kvs.map (·.1)).zip (kvs.map (·.2)) = kvs := by
  induction kvs with
  | nil => rfl
  | cons a l ih => rw [List.map_cons, List.map_cons, List.zip_cons_cons, ih]
theorem inE_ok {b : Bool} (k1 : VR h' d d') (k2 : VR h' e e') (q : inE d e = some b) {R : VQ} (z : R (.bl b) h') : inV d' e' h' R := by
  unfold inE at q
  split at q
  · rw [k2.str]
    split at q
    · cases q; rw [k1.str]; exact z
    · cases q
  · rw [k2.tup]
    exact inSeq_ok k1 q z (fun _ w => nomatch w) rfl (fun w => by cases w)
  · rename_i xs
    exact inSeq_ok k1 q z (fun t w => by rw [w] at k2; have := k2.flat (fun _ w => nomatch w); cases this) k2.seq fun _ => by rw [k2.lst]; rfl
  · rename_i ks xs
    split at q
    · rename_i kk ek
      cases q
      rw [key_vr k1 ek]
      rcases k2 with rfl | ⟨p, ys, w, _⟩ | ⟨p, kvs, w, rfl, e2⟩
      · show (match keyD d with
            | some k => R (.bl (lookK (ks.zip xs) k).isSome) h'
            | none => False)
        rw [ek]; exact z
      · cases w
      · cases w
        rw [look_map] at z
        unfold inV
        have es : seqOf h' (.ref p) = none := by
          show (match h' p with | some (.lst xs) => some xs | _ => none) = _
          rw [e2]
        dsimp only
        rw [es]
        dsimp only
        rw [e2]
        dsimp only
        rw [ek]; exact z
    · cases q
  · cases q
theorem ninE_ok {b : Bool} (k1 : VR h' d d') (k2 : VR h' e e') (q : (inE d e).map (!·) = some b) (z : Q (.bl b) h') : ninV d' e' h' Q := by
  obtain ⟨c, q1, rfl⟩ := Option.map_eq_some_iff.mp q
  exact inE_ok k1 k2 q1 ⟨c, rfl, z⟩
theorem cmE_ok {o : CmpOp} {b : Bool} (k1 : VR h' d d') (k2 : VR h' e e') (q : cmE o d e = some b) (z : Q (.bl b) h') : cmV o d' e' h' Q := by
  cases o with
  | Eq => exact eqE_ok k1 k2 q z
  | NotEq => exact neE_ok k1 k2 q z
  | Lt => exact ordE_ok k1 k2 q z
  | LtE => exact ordE_ok k1 k2 q z
  | Gt => exact ordE_ok k1 k2 q z
  | GtE => exact ordE_ok k1 k2 q z
  | Is => exact isE_ok k1 k2 q z
  | IsNot => exact isnE_ok k1 k2 q z
  | In => exact inE_ok k1 k2 q z
  | NotIn => exact ninE_ok k1 k2 q z
theorem truE_ok {b : Bool} {k : Bool → Prop} (k1 : VR h' d d') (q : truE d = some b) (z : k b) : truV d' h' k := by
  rcases k1 with rfl | ⟨p, ys, rfl, rfl, e2⟩ | ⟨p, kvs, rfl, rfl, e2⟩
  · cases d' <;> first | (cases q; exact z) | cases q
  · cases q
    show (match h' p with | some (.lst xs) => k (!xs.isEmpty) | some (.dic xs) => k (!xs.isEmpty) | _ => False)
    rw [e2]; exact z
  · cases q
theorem negE_ok {r : D} (k1 : VR h' d d') (q : negE d = some r) (z : Q r h') : negV d' h' Q := by
  cases d with
  | int i => rw [k1.int]; cases q; exact z
  | _ => cases q
/-- what an operator gives that is new -/
def NW (h h' : HD) (Q : VQ) : XV → Prop
  | .v d => Q d h'
  | .nl xs => ∀ p, h' p = none → Q (.ref p) (hup h' p (.lst xs))
  | .nd xs => ∀ p, h' p = none → Q (.ref p) (hup h' p (.dic xs))
  | _ => True
theorem addE_ok {x : XV} (k1 : VR h' d d') (k2 : VR h' e e') (q : addE d e = some x) (z : NW h h' Q x) : addV d' e' h' Q := by
  unfold addE at q
  split at q
  · rw [k1.int, k2.int]; cases q; exact z
  · rw [k1.str, k2.str]
    split at q
    · rename_i c; cases q; exact ⟨c, z⟩
    · cases q
  · rw [k1.tup, k2.tup]
    split at q
    · rename_i c; cases q; exact ⟨c, z⟩
    · cases q
  · rename_i a b
    split at q
    · rename_i c
      cases q
      have l1 := k1.lst
      have l2 := k2.lst
      have key : (match lstOf h' d', lstOf h' e' with
        | some xs, some ys => xs.length + ys.length ≤ sizeLine ∧ ∀ p, h' p = none → Q (.ref p) (hup h' p (.lst (xs ++ ys)))
        | _, _ => False) := by
        rw [l1, l2]
        exact ⟨c, z⟩
      unfold addV
      split
      · cases l1
      · cases l1
      · cases l1
      · exact key
    · cases q
  · cases q
theorem opE_ok {o : Operator} {x y r : XV} (k1 : RR h h' x d) (k2 : RR h h' y e) (q : opE o x y = some r) (z : NW h h' Q r) : opV o d e h' Q := by
  cases o with
  | Add => exact addE_ok (h := h) k1.vr k2.vr q z
  | Sub =>
    unfold opE at q
    dsimp only at q
    split at q
    · rename_i i j e1 e2
      have v1 := k1.vr
      have v2 := k2.vr
      rw [e1] at v1
      rw [e2] at v2
      rw [v1.int, v2.int]; cases q; exact z
    · cases q
  | Mult =>
    have q : mulE x y = some r := q
    unfold mulE at q
    split at q
    · split at q
      · rename_i c
        rw [show d = .int _ from k1, show e = .int _ from k2]
        cases q; exact ⟨c, z⟩
      · cases q
    · split at q
      · rename_i c
        rw [show d = .tup _ from k1, show e = .int _ from k2]
        cases q; exact ⟨c, z⟩
      · cases q
    · split at q
      · rename_i c
        obtain ⟨p, rfl, e2, _⟩ := k1
        rw [show e = .int _ from k2]
        cases q
        show (match h' p with
          | some (.lst xs) => _
          | _ => False)
        rw [e2]
        exact ⟨c, z⟩
      · cases q
    · split at q
      · rename_i c
        obtain ⟨p, rfl, e2, _⟩ := k1
        rw [show e = .int _ from k2]
        cases q
        show (match h' p with
          | some (.lst xs) => _
          | _ => False)
        rw [e2]
        exact ⟨c, z⟩
      · cases q
    · cases q
  | FloorDiv =>
    unfold opE at q
    dsimp only at q
    split at q
    · rename_i i j e1 e2
      split at q
      · rename_i c
        have v1 := k1.vr
        have v2 := k2.vr
        rw [e1] at v1
        rw [e2] at v2
        rw [v1.int, v2.int]; cases q; exact ⟨c, z⟩
      · cases q
    · cases q
  | Mod =>
    unfold opE at q
    dsimp only at q
    split at q
    · rename_i i j e1 e2
      split at q
      · rename_i c
        have v1 := k1.vr
        have v2 := k2.vr
        rw [e1] at v1
        rw [e2] at v2
        rw [v1.int, v2.int]; cases q; exact ⟨c, z⟩
      · cases q
    · cases q
  | Pow =>
    unfold opE at q
    dsimp only at q
    split at q
    · rename_i i j e1 e2
      split at q
      · rename_i c
        have v1 := k1.vr
        have v2 := k2.vr
        rw [e1] at v1
        rw [e2] at v2
        rw [v1.int, v2.int]; cases q; exact ⟨c, z⟩
      · cases q
    · cases q
  | _ => cases q
theorem subE_ok {r : D} (s : Sub h h') (k1 : VR h' d d') (k2 : VR h' e e') (q : subE d e h = some r) (z : Q r h') : subV' d' e' h' Q := by
  unfold subE at q
  split at q
  · rw [k1.tup]
    split at q
    · rw [k2.int]
      show optV (atD _ _) h' Q
      rw [q]; exact z
    · cases q
  · rw [k1.str]
    split at q
    · rw [k2.int]
      show optV (atD _ _) h' Q
      rw [q]; exact z
    · cases q
  · split at q
    · rw [k2.int]
      rcases k1 with rfl | ⟨p, ys, w, rfl, e2⟩ | ⟨p, kvs, w, _⟩
      · show optV (atD _ _) h' Q
        rw [q]; exact z
      · cases w
        show (match h' p with | some (.lst xs) => _ | some (.dic kvs) => _ | _ => False)
        rw [e2]
        show optV (atD _ _) h' Q
        rw [q]; exact z
      · cases w
    · cases q
  · obtain ⟨kk, ek, q⟩ := Option.bind_eq_some_iff.mp q
    rw [key_vr k2 ek]
    rcases k1 with rfl | ⟨p, ys, w, _⟩ | ⟨p, kvs, w, rfl, e2⟩
    · clear k2
      cases e <;> first | (cases ek; show optV _ h' Q; rw [q]; exact z) | cases ek
    · cases w
    · cases w
      rw [look_map] at q
      show (match h' p with | some (.lst xs) => _ | some (.dic kvs) => _ | _ => False)
      rw [e2]
      show (match keyD e with | some k => optV (lookK kvs k) h' Q | none => False)
      rw [ek]
      show optV _ h' Q
      rw [q]; exact z
  · rename_i a
    split at q
    · rename_i kvs ea
      obtain ⟨kk, ek, q⟩ := Option.bind_eq_some_iff.mp q
      rw [key_vr k2 ek, k1.same (fun _ z => nomatch z) (fun _ _ z => nomatch z)]
      show (match h' a with | some (.lst xs) => _ | some (.dic kvs) => _ | _ => False)
      rw [s a _ ea]
      show (match keyD e with | some k => optV (lookK kvs k) h' Q | none => False)
      rw [ek]
      show optV _ h' Q
      rw [q]; exact z
    · cases q
  · cases q
theorem slcE_ok {x r : XV} {lo hi : Option Int} (k1 : RR h h' x d) (q : slcE x lo hi = some r) (z : NW h h' Q r) : slcV d lo hi h' Q := by
  unfold slcE at q
  have v1 := k1.vr
  split at q
  · rename_i xs e1
    rw [e1] at v1; rw [v1.tup]; cases q; exact z
  · rename_i xs e1
    rw [e1] at v1; rw [v1.str]; cases q; exact z
  · rename_i xs e1
    rw [e1] at v1
    cases q
    rcases v1 with rfl | ⟨p, ys, w, rfl, e2⟩ | ⟨p, kvs, w, _⟩
    · exact z
    · cases w
      show (match h' p with | some (.lst xs) => _ | _ => False)
      rw [e2]; exact z
    · cases w
  · cases q
theorem rvsE_ok {x r : XV} (k1 : RR h h' x d) (q : rvsE x = some r) (z : NW h h' Q r) : rvsV d h' Q := by
  unfold rvsE at q
  have v1 := k1.vr
  split at q
  · rename_i xs e1
    rw [e1] at v1
    cases q
    rcases v1 with rfl | ⟨p, ys, w, rfl, e2⟩ | ⟨p, kvs, w, _⟩
    · exact z
    · cases w
      show (match h' p with | some (.lst xs) => _ | _ => False)
      rw [e2]; exact z
    · cases w
  · cases q
theorem lenE_ok {r : D} (k1 : VR h' d d') (q : lenE d = some r) (z : Q r h') : lenV d' h' Q := by
  rcases k1 with rfl | ⟨p, ys, rfl, rfl, e2⟩ | ⟨p, kvs, rfl, rfl, e2⟩
  · cases d' <;> first | (cases q; exact z) | cases q
  · cases q
    show (match h' p with | some (.lst xs) => Q (.int xs.length) h' | some (.dic xs) => Q (.int xs.length) h' | _ => False)
    rw [e2]; exact z
  · cases q
    show (match h' p with | some (.lst xs) => Q (.int xs.length) h' | some (.dic xs) => Q (.int xs.length) h' | _ => False)
    rw [e2]
    rw [List.length_map] at z
    exact z
end
end Nd
/-! Ev3: built-ins, walks. -/
namespace Nd
open PySem PySem.Spec PyProof.Rows L2
theorem fold_lo : ∀ (xs : List Int) (x : Int), (xs.foldl (fun a b => if b < a then b else a) x = x ∨ xs.foldl (fun a b => if b < a then b else a) x ∈ xs) ∧ xs.foldl (fun a b => if b < a then b else a) x ≤ x ∧ ∀ y ∈ xs, xs.foldl (fun a b => if b < a then b else a) x ≤ y
  | [], x => ⟨.inl rfl, Int.le_refl _, fun _ h => by cases h⟩
  | b :: xs, x => by
    obtain ⟨h1, h2, h3⟩ := fold_lo xs (if b < x then b else x)
    rw [List.foldl_cons]
    generalize xs.foldl (fun a b => if b < a then b else a) (if b < x then b else x) = z at h1 h2 h3
    refine ⟨?_, ?_, fun y hy => ?_⟩
    · rcases h1 with h1 | h1
      · split at h1
        · exact .inr (by rw [h1]; exact List.mem_cons_self)
        · exact .inl h1
      · exact .inr (List.mem_cons_of_mem _ h1)
    · split at h2 <;> omega
    · rcases List.mem_cons.mp hy with e | hy
      · split at h2 <;> omega
      · exact h3 y hy
theorem fold_hi : ∀ (xs : List Int) (x : Int), (xs.foldl (fun a b => if a < b then b else a) x = x ∨ xs.foldl (fun a b => if a < b then b else a) x ∈ xs) ∧ x ≤ xs.foldl (fun a b => if a < b then b else a) x ∧ ∀ y ∈ xs, y ≤ xs.foldl (fun a b => if a < b then b else a) x
  | [], x => ⟨.inl rfl, Int.le_refl _, fun _ h => by cases h⟩
  | b :: xs, x => by
    obtain ⟨h1, h2, h3⟩ := fold_hi xs (if x < b then b else x)
    rw [List.foldl_cons]
    generalize xs.foldl (fun a b => if a < b then b else a) (if x < b then b else x) = z at h1 h2 h3
    refine ⟨?_, ?_, fun y hy => ?_⟩
    · rcases h1 with h1 | h1
      · split at h1
        · exact .inr (by rw [h1]; exact List.mem_cons_self)
        · exact .inl h1
      · exact .inr (List.mem_cons_of_mem _ h1)
    · split at h2 <;> omega
    · rcases List.mem_cons.mp hy with e | hy
      · split at h2 <;> omega
      · exact h3 y hy
theorem loZ_mem {l : List Int} (n : l ≠ []) : loZ l ∈ l := by
  cases l with
  | nil => exact absurd rfl n
  | cons x xs => exact (fold_lo xs x).1.elim (fun e => by show xs.foldl _ x ∈ _; rw [e]; exact List.mem_cons_self) fun e => List.mem_cons_of_mem _ e
theorem hiZ_mem {l : List Int} (n : l ≠ []) : hiZ l ∈ l := by
  cases l with
  | nil => exact absurd rfl n
  | cons x xs => exact (fold_hi xs x).1.elim (fun e => by show xs.foldl _ x ∈ _; rw [e]; exact List.mem_cons_self) fun e => List.mem_cons_of_mem _ e
theorem loZ_le {l : List Int} : ∀ y ∈ l, loZ l ≤ y := by
  cases l with
  | nil => exact fun _ h => by cases h
  | cons x xs => exact fun y hy => (List.mem_cons.mp hy).elim (fun e => e ▸ (fold_lo xs x).2.1) ((fold_lo xs x).2.2 y)
theorem hiZ_ge {l : List Int} : ∀ y ∈ l, y ≤ hiZ l := by
  cases l with
  | nil => exact fun _ h => by cases h
  | cons x xs => exact fun y hy => (List.mem_cons.mp hy).elim (fun e => e ▸ (fold_hi xs x).2.1) ((fold_hi xs x).2.2 y)
theorem intsE_ok : ∀ {xs : List D} {ns : List Int}, intsE xs = some ns → xs = ns.map .int
  | [], _, e => by cases e; rfl
  | x :: xs, ns, e => by
    cases x with
    | int i =>
      obtain ⟨l, e1, rfl⟩ := Option.map_eq_some_iff.mp (show (intsE xs).map (i :: ·) = some ns from e)
      rw [intsE_ok e1]; rfl
    | _ => cases e
theorem strsE_ok : ∀ {xs : List D} {ns : List Str}, strsE xs = some ns → xs = ns.map .str
  | [], _, e => by cases e; rfl
  | x :: xs, ns, e => by
    cases x with
    | str i =>
      obtain ⟨l, e1, rfl⟩ := Option.map_eq_some_iff.mp (show (strsE xs).map (i :: ·) = some ns from e)
      rw [strsE_ok e1]; rfl
    | _ => cases e
theorem blsE_ok : ∀ {xs : List D} {ns : List Bool}, blsE xs = some ns → xs = ns.map .bl
  | [], _, e => by cases e; rfl
  | x :: xs, ns, e => by
    cases x with
    | bl i =>
      obtain ⟨l, e1, rfl⟩ := Option.map_eq_some_iff.mp (show (blsE xs).map (i :: ·) = some ns from e)
      rw [blsE_ok e1]; rfl
    | _ => cases e
theorem intsE_map (ns : List Int) : intsE (ns.map .int) = some ns := by
  induction ns with
  | nil => rfl
  | cons i ns ih => show (intsE (ns.map .int)).map (i :: ·) = _; rw [ih]; rfl
theorem blsE_map (ns : List Bool) : blsE (ns.map .bl) = some ns := by
  induction ns with
  | nil => rfl
  | cons i ns ih => show (blsE (ns.map .bl)).map (i :: ·) = _; rw [ih]; rfl
section
variable {h h' hb : HD} {x : XV} {d d' e e' : D} {Q : VQ}
theorem isi_ty {exm : Nat → Nat → Option Bool} {n a : String} (ht : isTyN n = true) (k1 : VR h' d d') (e1 : tyE d = some a) (z : Q (.bl (isiB a n)) h') : isiV exm [d', .ty n] h' Q := by
  have t := k1.ty e1
  have key : isTyN n = true ∧ (match tyN h' d' with | some a => Q (.bl (isiB a n)) h' | none => False) := ⟨ht, by rw [t]; exact z⟩
  cases d' with
  | exc c => cases t
  | _ => exact key
theorem isi_ty2 {exm : Nat → Nat → Option Bool} {n m a : String} (ht : isTyN n = true) (hm : isTyN m = true) (k1 : VR h' d d') (e1 : tyE d = some a) (z : Q (.bl (isiB a n || isiB a m)) h') : isiV exm [d', .tup [.ty n, .ty m]] h' Q := by
  have t := k1.ty e1
  have key : (isTyN n = true ∧ isTyN m = true) ∧ (match tyN h' d' with | some a => Q (.bl (isiB a n || isiB a m)) h' | none => False) := ⟨⟨ht, hm⟩, by rw [t]; exact z⟩
  cases d' with
  | exc c => cases t
  | _ => exact key
theorem isiE_ok {exm : Nat → Nat → Option Bool} {r : D} (k1 : VR h' d d') (k2 : VR h' e e') (q : isiE exm d e = some r) (z : Q r h') : isiV exm [d', e'] h' Q := by
  unfold isiE at q
  split at q
  · rename_i c n
    rw [k1.same (fun _ z => nomatch z) (fun _ _ z => nomatch z), k2.same (fun _ z => nomatch z) (fun _ _ z => nomatch z)]
    split at q
    · rename_i hn
      obtain ⟨b, e1, rfl⟩ := Option.map_eq_some_iff.mp q
      refine ⟨hn, ?_⟩
      rw [e1]
      cases b <;> exact z
    · cases q
  · rename_i c g
    rw [k1.same (fun _ z => nomatch z) (fun _ _ z => nomatch z), k2.same (fun _ z => nomatch z) (fun _ _ z => nomatch z)]
    split at q
    · rename_i hn
      obtain ⟨b, e1, rfl⟩ := Option.map_eq_some_iff.mp q
      refine ⟨hn, ?_⟩
      rw [e1]
      cases b <;> exact z
    · cases q
  · rw [k2.same (fun _ z => nomatch z) (fun _ _ z => nomatch z)]
    split at q
    · rename_i ht
      obtain ⟨a, e1, rfl⟩ := Option.map_eq_some_iff.mp q
      exact isi_ty ht k1 e1 z
    · cases q
  · rw [k2.same (fun _ z => nomatch z) (fun _ _ z => nomatch z)]
    split at q
    · rename_i ht
      rw [Bool.and_eq_true] at ht
      obtain ⟨a, e1, rfl⟩ := Option.map_eq_some_iff.mp q
      exact isi_ty2 ht.1 ht.2 k1 e1 z
    · cases q
  · cases q
inductive VRs (h' : HD) : List D → List D → Prop
  | nil : VRs h' [] []
  | cons {d e : D} {ds es : List D} : VR h' d e → VRs h' ds es → VRs h' (d :: ds) (e :: es)
theorem RRs.vrs {xs : List XV} {ds : List D} (k : RRs h h' xs ds) : VRs h' (xs.map XV.r) ds := by
  induction k with
  | nil => exact .nil
  | cons a _ ih => exact .cons a.vr ih
theorem biE_ok {exm : Nat → Nat → Option Bool} {b : BI} {rs ds : List D} {r : D} (k : VRs h' rs ds) (q : biE exm b rs = some r) (z : Q r h') : biV exm b ds h' Q := by
  unfold biE at q
  split at q
  · cases k with
    | cons k1 k => cases k with
      | cons k2 k => cases k; exact isiE_ok k1 k2 q z
  · cases k with
    | cons k1 k => cases k; exact lenE_ok k1 q z
  · cases k with
    | cons k1 k => cases k; cases q; rw [k1.int]; exact z
  · cases k with
    | cons k1 k => cases k; cases q; rw [k1.int]; exact z
  · cases k with
    | cons k1 k => cases k; cases q; rw [k1.bl]; exact z
  · cases k with
    | cons k1 k => cases k with
      | cons k2 k => cases k; cases q; rw [k1.int, k2.int]; exact z
  · cases k with
    | cons k1 k => cases k with
      | cons k2 k => cases k; cases q; rw [k1.int, k2.int]; exact z
  · cases k with
    | cons k1 k => cases k with
      | cons k2 k => cases k with
        | cons k3 k => cases k; cases q; rw [k1.int, k2.int, k3.int]; exact z
  · cases k with
    | cons k1 k =>
      cases k
      split at q
      · rename_i c
        rw [Bool.and_eq_true, Bool.and_eq_true, Bool.and_eq_true, Bool.and_eq_true] at c
        obtain ⟨⟨⟨c1, c2⟩, c3⟩, c4, c5⟩ := c
        cases q
        exact ⟨_, k1.py c1, ⟨c2, c3⟩, of_decide_eq_true c4, of_decide_eq_true c5, z⟩
      · cases q
  · cases k with
    | cons k1 k =>
      cases k
      split at q
      · rename_i c
        cases q; rw [k1.int]; exact ⟨c.1, c.2, z⟩
      · cases q
  · cases q
theorem GR.isL {h1 : HD} {xs : List D} {g : Gk} {gd : Gd} (k : GR hb h h' xs g gd) (l : g.l = true) : gd.isL = true := by
  cases g with
  | L => rcases k with rfl | rfl | ⟨p, rfl, _⟩ <;> rfl
  | B => obtain ⟨p, rfl, _⟩ := k; rfl
  | _ => cases l
def Gd.isLT (g : Gd) : Bool := g.isL || (match g with | .tp => true | _ => false)
theorem GR.isT {xs : List D} {g : Gk} {gd : Gd} (k : GR hb h h' xs g gd) (l : g.lt = true) : gd.isLT = true := by
  cases g with
  | L => rcases k with rfl | rfl | ⟨p, rfl, _⟩ <;> rfl
  | B => obtain ⟨p, rfl, _⟩ := k; rfl
  | T => cases k; rfl
  | _ => cases l
def Gd.isLTK (g : Gd) : Bool := g.isL || (match g with | .tp => true | .kd => true | _ => false)
theorem GR.isTK {xs : List D} {g : Gk} {gd : Gd} (k : GR hb h h' xs g gd) (l : (g.lt || g.kd) = true) : gd.isLTK = true := by
  cases g with
  | L => rcases k with rfl | rfl | ⟨p, rfl, _⟩ <;> rfl
  | B => obtain ⟨p, rfl, _⟩ := k; rfl
  | T => cases k; rfl
  | K => cases k; rfl
  | S => cases l
theorem prE_ok {x : D} {p : Key × D} (e : prE x = some p) : x = .tup [kD p.1, p.2] := by
  unfold prE at e
  split at e
  · obtain ⟨k, e1, rfl⟩ := Option.map_eq_some_iff.mp e
    rename_i y _
    cases y <;> first | (cases e1; rfl) | cases e1
  · cases e
theorem prsE_ok : ∀ {xs : List D} {kvs : List (Key × D)}, prsE xs = some kvs → xs = kvs.map fun p => .tup [kD p.1, p.2]
  | [], _, e => by cases e; rfl
  | x :: xs, kvs, e => by
    obtain ⟨p, e1, e⟩ := Option.bind_eq_some_iff.mp e
    obtain ⟨l, e2, rfl⟩ := Option.map_eq_some_iff.mp e
    rw [prE_ok e1, prsE_ok e2]; rfl
theorem srtB_ok {ps : List PyData} (c : srtB ps = true) : PySem.W.AllAlike ps ∧ PySem.W.Sortable ps ∧ PyData.depthAll ps ≤ 64 := by
  unfold srtB at c
  rw [Bool.and_eq_true, Bool.and_eq_true] at c
  obtain ⟨⟨c1, c2⟩, c3⟩ := c
  refine ⟨fun d hd e he => List.all_eq_true.mp (List.all_eq_true.mp c1 d hd) e he, ?_, of_decide_eq_true c3⟩
  rw [Bool.or_eq_true] at c2
  rcases c2 with c2 | c2
  · refine .inl fun d hd => ?_
    have := List.all_eq_true.mp c2 d hd
    unfold tupB at this
    split at this
    · exact ⟨_, _, rfl⟩
    · cases this
  · refine .inr fun d hd => ?_
    have := List.all_eq_true.mp c2 d hd
    unfold noTB at this
    split at this
    · cases this
    · cases this
    · rename_i n1 n2
      exact ⟨n1, n2⟩
theorem cmpB_ok {ps : List PyData} (h : cmpB ps = true) : PySem.W.AllAlike ps ∧ (∀ p ∈ ps, p ≠ .none) ∧ PyData.depthAll ps ≤ 64 := by
  unfold cmpB at h
  rw [Bool.and_eq_true, Bool.and_eq_true, List.all_eq_true, List.all_eq_true, decide_eq_true_eq] at h
  obtain ⟨⟨h1, h2⟩, h3⟩ := h
  exact ⟨fun d hd e he => List.all_eq_true.mp (h1 d hd) e he, (fun p hp c => by subst c; have := h2 _ hp; cases this), h3⟩
theorem toPs_map : ∀ xs : List D, toPs xs = xs.map toP
  | [] => rfl
  | x :: xs => by show toP x :: toPs xs = _; rw [toPs_map xs]; rfl
theorem bstL_zip (lt : PyData → PyData → Bool) {xs : List D} {d : D} (h : bstL (fun a b => lt (toP a) (toP b)) xs = some d) : bstL (fun a b : D × PyData => lt a.2 b.2) (xs.zip (toPs xs)) = some (d, toP d) := by
  rw [toPs_map]
  cases xs with
  | nil => cases h
  | cons x xs =>
    have h : some (xs.foldl (fun a b => if lt (toP b) (toP a) = true then b else a) x) = some d := h
    cases h
    show some (List.foldl _ (x, toP x) (xs.zip (xs.map toP))) = _
    have go : ∀ (xs : List D) (x : D), (xs.zip (xs.map toP)).foldl (fun a b : D × PyData => if lt b.2 a.2 = true then b else a) (x, toP x) = (xs.foldl (fun a b => if lt (toP b) (toP a) = true then b else a) x, toP (xs.foldl (fun a b => if lt (toP b) (toP a) = true then b else a) x)) := by
      intro xs
      induction xs with
      | nil => intro x; rfl
      | cons y ys ih =>
        intro x
        show List.foldl _ (if lt (toP y) (toP x) = true then (y, toP y) else (x, toP x)) (ys.zip (ys.map toP)) = _
        split
        · rename_i c
          rw [ih]
          show _ = (ys.foldl _ (if lt (toP y) (toP x) = true then y else x), toP (ys.foldl _ (if lt (toP y) (toP x) = true then y else x)))
          rw [if_pos c]
        · rename_i c
          rw [ih]
          show _ = (ys.foldl _ (if lt (toP y) (toP x) = true then y else x), toP (ys.foldl _ (if lt (toP y) (toP x) = true then y else x)))
          rw [if_neg c]
    rw [go]
theorem blE_ok {b : BL} {xs : List D} {g : Gk} {gd : Gd} {r : XV} (k : GR hb h h' xs g gd) (q : blE b xs g = some r) (z : NW h h' Q r) : blV b xs gd h' Q := by
  unfold blE at q
  cases b with
  | tuple =>
    dsimp only at q
    split at q
    · rename_i c; cases q; exact ⟨k.isT c, z⟩
    · cases q
  | list =>
    dsimp only at q
    split at q
    · rename_i c; cases q; exact ⟨k.isTK c, z⟩
    · cases q
  | sum =>
    dsimp only at q
    split at q
    · rename_i c
      obtain ⟨ns, e1, rfl⟩ := Option.map_eq_some_iff.mp q
      exact ⟨k.isL (h1 := h) c, ns, intsE_ok e1, z⟩
    · cases q
  | max =>
    dsimp only at q
    split at q
    · rename_i c
      split at q
      · rename_i ns e1
        split at q
        · cases q
        · rename_i ne
          cases q
          exact ⟨k.isL (h1 := h) c, .inl ⟨ns, _, intsE_ok e1, hiZ_mem ne, hiZ_ge, z⟩⟩
      · unfold maxD at q
        split at q
        · rename_i c2
          rw [Bool.and_eq_true] at c2
          obtain ⟨d, e1, rfl⟩ := Option.map_eq_some_iff.mp q
          obtain ⟨a1, a2, a3⟩ := cmpB_ok c2.2
          exact ⟨k.isL (h1 := h) c, .inr ⟨_, (d, toP d), py_Bs c2.1, a1, a2, a3, bstL_zip (fun a b => PySem.W.dataLt b a) e1, z⟩⟩
        · cases q
    · cases q
  | min =>
    dsimp only at q
    split at q
    · rename_i c
      split at q
      · rename_i ns e1
        split at q
        · cases q
        · rename_i ne
          cases q
          exact ⟨k.isL (h1 := h) c, .inl ⟨ns, _, intsE_ok e1, loZ_mem ne, loZ_le, z⟩⟩
      · unfold minD at q
        split at q
        · rename_i c2
          rw [Bool.and_eq_true] at c2
          obtain ⟨d, e1, rfl⟩ := Option.map_eq_some_iff.mp q
          obtain ⟨a1, a2, a3⟩ := cmpB_ok c2.2
          exact ⟨k.isL (h1 := h) c, .inr ⟨_, (d, toP d), py_Bs c2.1, a1, a2, a3, bstL_zip (fun a b => PySem.W.dataLt a b) e1, z⟩⟩
        · cases q
    · cases q
  | all =>
    dsimp only at q
    split at q
    · rename_i c
      obtain ⟨ns, e1, rfl⟩ := Option.map_eq_some_iff.mp q
      exact ⟨k.isL (h1 := h) c, ns, blsE_ok e1, z⟩
    · cases q
  | any =>
    dsimp only at q
    split at q
    · rename_i c
      obtain ⟨ns, e1, rfl⟩ := Option.map_eq_some_iff.mp q
      exact ⟨k.isL (h1 := h) c, ns, blsE_ok e1, z⟩
    · cases q
  | sorted =>
    dsimp only at q
    split at q
    · rename_i c
      rw [Bool.and_eq_true, Bool.and_eq_true] at c
      obtain ⟨⟨c1, c2⟩, c3⟩ := c
      cases q
      obtain ⟨a1, a2, a3⟩ := srtB_ok c3
      exact ⟨k.isL (h1 := h) c1, _, py_Bs c2, a1, a2, a3, z⟩
    · cases q
  | dict =>
    dsimp only at q
    split at q
    · rename_i c
      obtain ⟨kvs, e1, rfl⟩ := Option.map_eq_some_iff.mp q
      exact ⟨k.isL (h1 := h) c, kvs, prsE_ok e1, z⟩
    · cases q
theorem findE_ok {p : PyData} : ∀ {ps : List PyData} {j0 j : Nat}, findE p ps j0 = some j → ∃ i z, j = j0 + i ∧ ps[i]? = some z ∧ PyData.eqv z p = true ∧ ∀ (m : Nat) (z' : PyData), m < i → ps[m]? = some z' → PyData.eqv z' p = false
  | [], _, _, e => by cases e
  | z :: ps, j0, j, e => by
    have e : (if PyData.eqv z p = true then some j0 else findE p ps (j0 + 1)) = some j := e
    split at e
    · rename_i c
      cases e
      exact ⟨0, z, rfl, rfl, c, fun m _ hm => absurd hm (Nat.not_lt_zero _)⟩
    · rename_i c
      obtain ⟨i, w, e1, e2, e3, e4⟩ := findE_ok e
      refine ⟨i + 1, w, by omega, e2, e3, fun m z' hm hz => ?_⟩
      cases m with
      | zero => cases hz; simpa using c
      | succ m => exact e4 m z' (by omega) hz
theorem bmE_ok {m : BM} {y : D} {r : D} (k : VR h' d d') (q : bmE m d y = some r) (z : Q r h') : bmT m d' h' ∧ bmV m d' [y] h' Q := by
  unfold bmE at q
  split at q
  · split at q
    · rename_i c
      rw [Bool.and_eq_true, Bool.and_eq_true, Bool.and_eq_true, Bool.and_eq_true, Bool.and_eq_true] at c
      obtain ⟨⟨⟨c1, c2⟩, c3, c4⟩, c5, c6⟩ := c
      cases q
      have l := k.lst
      refine ⟨by show (lstOf h' d').isSome = true; rw [l]; rfl, ?_⟩
      show (match lstOf h' d' with | some xs => _ | _ => False)
      rw [l]
      exact ⟨_, _, py_Bs c1, py_B c2, c3, c4, of_decide_eq_true c5, of_decide_eq_true c6, z⟩
    · cases q
  · split at q
    · rename_i c
      rw [Bool.and_eq_true, Bool.and_eq_true, Bool.and_eq_true] at c
      obtain ⟨⟨c1, c2⟩, c3, c4⟩ := c
      obtain ⟨j, e1, rfl⟩ := Option.map_eq_some_iff.mp q
      obtain ⟨i, w, e2, e3, e4, e5⟩ := findE_ok e1
      rw [Nat.zero_add] at e2
      subst e2
      have l := k.lst
      refine ⟨by show (lstOf h' d').isSome = true; rw [l]; rfl, ?_⟩
      show (match lstOf h' d' with | some xs => _ | _ => False)
      rw [l]
      exact ⟨_, _, _, w, py_Bs c1, py_B c2, c3, c4, e3, e4, e5, z⟩
    · cases q
  · cases q
/-! ### walks -/
/-- what is walked stays -/
def GS (P : Addr → Prop) (h h' : HD) (gs : List Gd) : Prop := ∀ g ∈ gs, ∀ a m, g = .ls a m → h' a = some m ∧ h a = none ∧ P a
variable {P : Addr → Prop}
theorem GS.ok {gs : List Gd} (k : GS P h h' gs) : gdsOk h' gs := fun g hg => by
  cases g with
  | ls a m => exact (k _ hg a m rfl).1
  | _ => trivial
theorem GS.step {h1 h1' : HD} (f : Fr h h1 h' h1') {gs : List Gd} (k : GS P h h' gs) : GS P h1 h1' gs := fun g hg a m e => by
  obtain ⟨z1, z2, z3⟩ := k g hg a m e
  exact ⟨f.keep a m z2 z1, (f.dom a).mp z2, z3⟩
theorem GR.gs {xs : List D} {g : Gk} {gd : Gd} (k : GR hb h h' xs g gd) (hP : ∀ a, (g.b = true ∨ hb a = none) → P a) : GS P h h' [gd] := fun g' hg a m e => by
  rw [List.mem_singleton] at hg
  subst hg
  subst e
  cases g with
  | L => rcases k with k | k | ⟨p, k, k2, k3, k4⟩ <;> cases k; exact ⟨k2, k3, hP _ (.inr k4)⟩
  | B => obtain ⟨p, k, k2, k3⟩ := k; cases k; exact ⟨k2, k3, hP _ (.inl rfl)⟩
  | _ => cases k
theorem GR.walk {xs : List D} {g : Gk} {gd : Gd} (k : GR hb h h' xs g gd) : [gd].all Gd.walk = true := by
  cases g with
  | L => rcases k with rfl | rfl | ⟨p, rfl, _⟩ <;> rfl
  | B => obtain ⟨p, rfl, _⟩ := k; rfl
  | T => cases k; rfl
  | S => cases k; rfl
  | K => cases k; rfl
theorem gs_nil : GS P h h' [] := fun _ z => by cases z
/-- what isn't a value stands where P is -/
def AtP (P : Addr → Prop) : XV → D → Prop
  | .v _, _ => True
  | _, d => ∀ p, d = .ref p → P p
inductive AtPs (P : Addr → Prop) : List XV → List D → Prop
  | nil : AtPs P [] []
  | cons {x : XV} {d : D} {xs : List XV} {ds : List D} : AtP P x d → AtPs P xs ds → AtPs P (x :: xs) (d :: ds)
/-- a list that is read, as it is walked -/
theorem RR.ls {xs : List D} (k : RR h h' x d) (ap : AtP P x d) (e : x.r = .kls xs) : ∃ g, lsOf h' d = some (xs, g) ∧ GS P h h' [g] ∧ ∀ ys, d ≠ .tup ys := by
  have one : ∀ p, P p → h' p = some (.lst xs) → h p = none → ∃ g, lsOf h' (.ref p) = some (xs, g) ∧ GS P h h' [g] ∧ ∀ ys, D.ref p ≠ .tup ys := fun p pp e1 e2 => by
    refine ⟨.ls p (.lst xs), ?_, fun g' hg a m q => ?_, fun _ z => nomatch z⟩
    · show (match h' p with | some (.lst xs) => some (xs, Gd.ls p (.lst xs)) | _ => none) = _
      rw [e1]
    · rw [List.mem_singleton] at hg
      subst hg
      cases q
      exact ⟨e1, e2, pp⟩
  cases x with
  | v d0 =>
    have : d = d0 := k
    have e : d0 = .kls xs := e
    subst this e
    exact ⟨.kl, rfl, (fun g' hg a m q => by rw [List.mem_singleton] at hg; rw [hg] at q; cases q), fun _ z => nomatch z⟩
  | nl ys => cases e; obtain ⟨p, rfl, e1, e2⟩ := k; exact one p (ap p rfl) e1 e2
  | br ys => cases e; obtain ⟨p, rfl, e1, e2⟩ := k; exact one p (ap p rfl) e1 e2
  | nd _ => cases e
  | bd _ => cases e
theorem itK_enum {q : List D → List Gd → HD → Prop} : itK .enum [d] h' q = lsK d h' fun xs g => q (enumL xs) g h' := rfl
theorem itK_rev {q : List D → List Gd → HD → Prop} : itK .rev [d] h' q = tlK d h' fun xs g => q xs.reverse g h' := rfl
theorem zip_ls {q : List D → List Gd → HD → Prop} {xs ys : List D} {g1 g2 : Gd} (w1 : lsOf h' d = some (xs, g1)) (y1 : lsOf h' e = some (ys, g2)) (w3 : ∀ ys, d ≠ .tup ys) (z : q (zipL xs ys) ([g1] ++ [g2]) h') : zipK d e h' q := by
  have key : lsK d h' fun xs g => lsK e h' fun ys g' => q (zipL xs ys) (g ++ g') h' := by
    unfold lsK
    rw [w1]
    dsimp only
    rw [y1]
    exact z
  unfold zipK
  split
  · exact absurd rfl (w3 _)
  · exact key
theorem srcX_ok {k : ItK} {xs : List XV} {ds ys : List D} {q : List D → List Gd → HD → Prop} (r : RRs h h' xs ds) (ap : AtPs P xs ds) (e : srcX k xs = some ys) (z : ∀ gs, GS P h h' gs → q ys gs h') : itK k ds h' q := by
  have tl : ∀ {x d} {zs : List D}, RR h h' x d → x.r = .tup zs → d = .tup zs := fun {x d zs} a c => by
    have v := a.vr
    rw [c] at v
    exact v.tup
  unfold srcX at e
  split at e
  · cases r with
    | cons r1 r => cases r; split at e
                   · rename_i c; cases e; rw [show _ = D.int _ from r1]; exact ⟨c, z _ gs_nil⟩
                   · cases e
  · cases r with
    | cons r1 r => cases r with
      | cons r2 r => cases r; split at e
                     · rename_i c; cases e; rw [show _ = D.int _ from r1, show _ = D.int _ from r2]; exact ⟨c, z _ gs_nil⟩
                     · cases e
  · cases r with
    | cons r1 r => cases r with
      | cons r2 r => cases r with
        | cons r3 r =>
          cases r
          split at e
          · rename_i c
            obtain ⟨c1, c2, c3, c4, c5⟩ := c
            cases e
            rw [show _ = D.int _ from r1, show _ = D.int _ from r2, show _ = D.int _ from r3]
            refine ⟨_, ⟨⟨c1, c2, c3, ?_⟩, ?_⟩, z _ gs_nil⟩
            · omega
            · have : sizeLine = 16777216 := rfl
              omega
          · cases e
  · cases r with
    | cons r1 r => cases r with
      | cons r2 r =>
        cases r
        split at e
        · rename_i a b
          cases e
          rw [tl r1 a, tl r2 b]
          exact z _ gs_nil
        · rename_i a b
          cases e
          cases ap with
          | cons p1 ap => cases ap with
          | cons p2 ap =>
          obtain ⟨g1, w1, w2, w3⟩ := r1.ls p1 a
          obtain ⟨g2, y1, y2, y3⟩ := r2.ls p2 b
          exact zip_ls w1 y1 w3 (z _ fun g hg => by
            rcases List.mem_append.mp hg with m | m
            · exact w2 g m
            · exact y2 g m)
        · cases e
  · cases r with
    | cons r1 r => cases r with
      | cons r2 r => cases r with
        | cons r3 r => cases r; cases e; rw [show _ = D.tup _ from r1, show _ = D.tup _ from r2, show _ = D.tup _ from r3]; exact z _ gs_nil
  · cases r with
    | cons r1 r => cases r with
      | cons r2 r => cases r; cases e; rw [show _ = D.str _ from r1, show _ = D.tup _ from r2]; exact z _ gs_nil
  · cases r with
    | cons r1 r => cases r; cases e; rw [show _ = D.tup _ from r1]; exact z _ gs_nil
  · cases r with
    | cons r1 r =>
      cases r
      split at e
      · rename_i a
        cases e
        cases ap with
        | cons p1 ap =>
        obtain ⟨g1, w1, w2, w3⟩ := r1.ls p1 a
        rw [itK_enum]
        unfold lsK
        rw [w1]
        exact z _ w2
      · cases e
  · cases r with
    | cons r1 r =>
      cases r
      split at e
      · rename_i a
        cases e
        rw [tl r1 a]
        exact z _ gs_nil
      · rename_i a
        cases e
        cases ap with
        | cons p1 ap =>
        obtain ⟨g1, w1, w2, w3⟩ := r1.ls p1 a
        rw [itK_rev]
        unfold tlK
        split
        · exact absurd rfl (w3 _)
        · unfold lsK
          rw [w1]
          exact z _ w2
      · cases e
  · cases r with
    | cons r1 r => cases r; cases e; rw [show _ = D.kdc _ _ from r1]; exact z _ gs_nil
  · cases r with
    | cons r1 r => cases r; cases e; rw [show _ = D.kdc _ _ from r1]; exact z _ gs_nil
  · cases e
end
end Nd
/-! Ev4: what a run of an expression says holds of its denotation. -/
namespace Nd
open PySem PySem.Spec PyProof.Rows L2
/-- what is wanted of a value that is given -/
def KX (h' : HD) (q : VQ) : XV → HD → HD → Prop := fun x h1 h1' => ∀ d', XR h' h1 h1' x d' → q d' h1'
structure SE3 (d : Dn) (e : Vn) : Prop where
  v : ∀ {H0 B : HD} {Kb : Nat → Option Addr} {h0 : HD} {σ : Sv} {h : HD} {σ' : Sl} {h' : HD} {q : VQ} {r : XQ}, Rel H0 B Kb h0 σ h σ' h' → PG (e.v σ h) h h' (KX h' q) r → d.v σ' h' q r
  t : ∀ {H0 B : HD} {Kb : Nat → Option Addr} {h0 : HD} {σ : Sv} {h : HD} {σ' : Sl} {h' : HD} {q : Bool → HD → Prop} {r : XQ}, Rel H0 B Kb h0 σ h σ' h' → PG (e.t σ h) h h' (fun b _ h1' => q b h1') r → d.t σ' h' q r
  i : ∀ {H0 B : HD} {Kb : Nat → Option Addr} {h0 : HD} {σ : Sv} {h : HD} {σ' : Sl} {h' : HD} {q : List D → Gd → HD → Prop} {r : XQ}, Rel H0 B Kb h0 σ h σ' h' → PG (e.i σ h) h h' (fun p h1 h1' => ∀ gd, GR h' h1 h1' p.1 p.2 gd → q p.1 gd h1') r → d.i σ' h' q r
/-- a value whose truth is known -/
def TV (d : Dn) (e : Vn) : Prop := ∀ {H0 B : HD} {Kb : Nat → Option Addr} {h0 : HD} {σ : Sv} {h : HD} {σ' : Sl} {h' : HD} {q : VQ} {r : XQ}, Rel H0 B Kb h0 σ h σ' h' → PG (e.t σ h) h h' (fun b _ h1' => ∀ x, (∀ k : Bool → Prop, k b → truV x h1' k) → q x h1') r → d.v σ' h' q r
structure SE (d : Dn) (e : Vn) : Prop extends SE3 d e where
  tv : TV d e
structure SEs (n : Bool) (d : Dns) (e : Vs) : Prop where
  a : ∀ {H0 B : HD} {Kb : Nat → Option Addr} {h0 : HD} {σ : Sv} {h : HD} {σ' : Sl} {h' : HD} {q : List D → HD → Prop} {r : XQ}, Rel H0 B Kb h0 σ h σ' h' → PG (e.a σ h) h h' (fun xs h1 h1' => ∀ ds, XRs h' h1 h1' xs ds → q ds h1') r → d.a σ' h' q r
  an : SE3 d.an e.an
  ant : n = true → TV d.an e.an
  or : SE d.or e.or
  i : ∀ {H0 B : HD} {Kb : Nat → Option Addr} {h0 : HD} {σ : Sv} {h : HD} {σ' : Sl} {h' : HD} {q : List D → List Gd → HD → Prop} {r : XQ}, Rel H0 B Kb h0 σ h σ' h' → PG (e.i σ h) h h' (fun p h1 h1' => ∀ gd, GR h' h1 h1' p.1 p.2 gd → q p.1 [gd] h1') r → d.i σ' h' q r
def BR (h h' : HD) : BA → D → Prop
  | .v d, d' => d' = d
  | .l xs, d' => ∃ p, d' = .ref p ∧ h' p = some (.lst xs) ∧ h p = none
  | .m xs, d' => ∃ p, d' = .ref p ∧ h' p = some (.dic xs) ∧ h p = none
inductive BRs (h h' : HD) : List BA → List D → Prop
  | nil : BRs h h' [] []
  | cons {b : BA} {d : D} {bs : List BA} {ds : List D} : BR h h' b d → BRs h h' bs ds → BRs h h' (b :: bs) (d :: ds)
theorem RRs.bas {h h' : HD} {xs : List XV} {ds : List D} (k : RRs h h' xs ds) : ∀ {bs : List BA}, xbs xs = some bs → BRs h h' bs ds := by
  induction k with
  | nil => intro bs e; cases e; exact .nil
  | @cons x d xs ds a _ ih =>
    intro bs e
    cases x with
    | v d0 =>
      obtain ⟨ys, e1, e2⟩ := Option.map_eq_some_iff.mp (show (xbs xs).map (.v d0 :: ·) = some bs from e)
      subst e2; exact .cons a (ih e1)
    | br zs =>
      obtain ⟨ys, e1, e2⟩ := Option.map_eq_some_iff.mp (show (xbs xs).map (.l zs :: ·) = some bs from e)
      subst e2; exact .cons a (ih e1)
    | bd zs =>
      obtain ⟨ys, e1, e2⟩ := Option.map_eq_some_iff.mp (show (xbs xs).map (.m zs :: ·) = some bs from e)
      subst e2; exact .cons a (ih e1)
    | nl _ => cases e
    | nd _ => cases e
structure CallOk (C : Cv) (A : Ca) : Prop where
  call : ∀ {f : Nat} {ds : List D} {h h' : HD} {q : VQ} {r : XQ}, Sub h h' → PG (C.call f ds h) h h' (KX h' q) r → A.call f ds h' q r
  callb : ∀ {f : Nat} {bs : List BA} {ds : List D} {h h' : HD} {q : VQ} {r : XQ}, Sub h h' → BRs h h' bs ds → PG (C.callb f bs h) h h' (KX h' q) r → A.call f ds h' q r
  exm : C.exm = A.exm
  fv : C.fv = A.fv
section
variable {h h1 h2 h' h1' h2' : HD} {q : VQ} {r : XQ}
theorem new_of {o : Option XV} (f : Fr h h2 h' h2') (H : PG (R.op o h2) h2 h2' (KX h' q) r) : ∃ z, o = some z ∧ NW h2 h2' q z := by
  cases o with
  | none => exact H.elim
  | some z =>
    refine ⟨z, rfl, ?_⟩
    cases z with
    | v d => exact H h2' (Fr.refl f.sub) d rfl
    | nl xs => exact fun p hp => H _ (Fr.new f.sub hp) _ ⟨p, rfl, hup_same, sub_none f.sub hp, f.fresh hp⟩
    | nd xs => exact fun p hp => H _ (Fr.new f.sub hp) _ ⟨p, rfl, hup_same, sub_none f.sub hp, f.fresh hp⟩
    | _ => trivial
theorem val_of {o : Option D} (f : Fr h h2 h' h2') (H : PG (R.op (o.map .v) h2) h2 h2' (KX h' q) r) : ∃ z, o = some z ∧ q z h2' := by
  obtain ⟨z, e, n⟩ := new_of f H
  obtain ⟨d, e1, rfl⟩ := Option.map_eq_some_iff.mp e
  exact ⟨d, e1, n⟩
theorem xv_of {x : XV} (f : Fr h h2 h' h2') (H : PG (R.ok x h2) h2 h2' (KX h' q) r) : ∀ d', XR h' h2 h2' x d' → q d' h2' := H h2' (Fr.refl f.sub)
theorem SE.of {d : TED} {e : Sv → HD → R XV} (hv : ∀ {H0 B : HD} {Kb : Nat → Option Addr} {h0 : HD} {σ : Sv} {h : HD} {σ' : Sl} {h' : HD} {q : VQ} {r : XQ}, Rel H0 B Kb h0 σ h σ' h' → PG (e σ h) h h' (KX h' q) r → d σ' h' q r) : SE (Dn.of d) (Vn.of e) where
  v := hv
  t := fun rel H => hv rel (PG.bind H |>.imp fun x h1 h1' f H1 d' xr => by
    obtain ⟨b, e, z⟩ := PG.op f.sub H1
    exact truE_ok xr.rr.vr e z)
  i := fun rel H => hv rel (PG.bind H |>.imp fun x h1 h1' f H1 d' xr => by
    obtain ⟨p, e, z⟩ := PG.op f.sub H1
    cases x with
    | v d0 =>
      cases (show d' = d0 from xr)
      have e : itE d' = some p := e
      unfold itE at e
      split at e
      · cases e; exact z _ rfl
      · cases e; exact z _ (.inr (.inl rfl))
      · cases e; exact z _ rfl
      · cases e; exact z _ rfl
      · cases e
    | nl xs =>
      cases e
      obtain ⟨a, rfl, e2, e3, e4⟩ := xr
      show (match h1' a with | some (.lst xs) => _ | some (.dic kvs) => _ | _ => False)
      rw [e2]
      exact z _ (.inr (.inr ⟨a, rfl, e2, e3, e4⟩))
    | br xs =>
      cases e
      obtain ⟨a, rfl, e2, e3⟩ := xr
      show (match h1' a with | some (.lst xs) => _ | some (.dic kvs) => _ | _ => False)
      rw [e2]
      exact z _ ⟨a, rfl, e2, e3⟩
    | _ => cases e)
  tv := fun rel H => hv rel (PG.bind H |>.imp fun x h1 h1' f H1 d' xr => by
    obtain ⟨b, e, z⟩ := PG.op f.sub H1
    exact z d' fun k hk => truE_ok xr.rr.vr e hk)
/-- a truth -/
theorem SE.ofT {d : TED} {dt : TTD} {e : Sv → HD → R Bool} (hv : ∀ {H0 B : HD} {Kb : Nat → Option Addr} {h0 : HD} {σ : Sv} {h : HD} {σ' : Sl} {h' : HD} {q : VQ} {r : XQ}, Rel H0 B Kb h0 σ h σ' h' → PG (e σ h) h h' (fun b _ h1' => q (.bl b) h1') r → d σ' h' q r)
    (ht : ∀ {H0 B : HD} {Kb : Nat → Option Addr} {h0 : HD} {σ : Sv} {h : HD} {σ' : Sl} {h' : HD} {q : Bool → HD → Prop} {r : XQ}, Rel H0 B Kb h0 σ h σ' h' → PG (e σ h) h h' (fun b _ h1' => q b h1') r → dt σ' h' q r) : SE (Dn.ofT d dt) (Vn.ofT e) where
  v := fun rel H => hv rel (PG.bind H |>.imp fun b h1 h1' f H1 => H1 h1' (Fr.refl f.sub) _ rfl)
  t := ht
  i := fun _ H => H.elim
  tv := fun rel H => hv rel (H.imp fun b h1 h1' f z => z _ fun k hk => hk)
theorem SE.bad : SE Dn.bad Vn.bad := ⟨⟨fun _ H => H.elim, fun _ H => H.elim, fun _ H => H.elim⟩, fun _ H => H.elim⟩
theorem SE.of_no {d : Dn} : SE d Vn.bad := ⟨⟨fun _ H => H.elim, fun _ H => H.elim, fun _ H => H.elim⟩, fun _ H => H.elim⟩
theorem PG.nx {α : Type} {x : R α} {k : α → HD → HD → Prop} (H : PG x.nx h h' k r) : PG x h h' k fun _ _ => False := by
  cases x with
  | ok a h1 => exact H
  | ex c h1 => exact H.elim
  | no => exact H
theorem PG.dd {x : R XV} {k : D → HD → HD → Prop} (s : ∀ {a h1}, x = .ok a h1 → True) (H : PG x.d h h' k r) : PG x h h' (fun x h1 h1' => ∀ d', XR h' h1 h1' x d' → k d' h1 h1') r := by
  refine (PG.bind H).imp fun x h1 h1' f H1 d' xr => ?_
  obtain ⟨d, e, z⟩ := PG.op f.sub H1
  cases x with
  | v d0 => cases e; cases (show d' = d from xr); exact z
  | _ => cases e
end
theorem XRs.tr {hb h h' : HD} {xs : List XV} {ds : List D} (k : XRs hb h h' xs ds) : AtPs (fun _ => True) xs ds := by
  induction k with
  | nil => exact .nil
  | @cons x d xs ds a _ ih => refine .cons ?_ ih; cases x <;> first | trivial | exact fun _ _ => trivial
section
variable {C : Cv} {K : Ca}
theorem src_ok {k : ItK} {nn : Bool} {d : Dns} {e : Vs} (hs : SEs nn d e) {H0 B : HD} {Kb : Nat → Option Addr} {h0 : HD} {σ : Sv} {h : HD} {σ' : Sl} {h' : HD} {q : List D → List Gd → HD → Prop} {r : XQ} (rel : Rel H0 B Kb h0 σ h σ' h')
    (H : PG (srcE k e σ h) h h' (fun xs h1 h1' => ∀ gs, GS (fun _ => True) h1 h1' gs → q xs gs h1') r) : srcV k d σ' h' q r := by
  by_cases hk : k = .seq
  · subst hk
    refine hs.i rel ((PG.bind H).imp fun p h1 h1' f H1 gd g => ?_)
    exact ⟨g.walk, H1 h1' (Fr.refl f.sub) _ (g.gs fun _ _ => trivial)⟩
  · have H : PG ((e.a σ h).bind fun xs h1 => R.op (srcX k xs) h1) h h' (fun xs h1 h1' => ∀ gs, GS (fun _ => True) h1 h1' gs → q xs gs h1') r := by
      cases k <;> first | exact absurd rfl hk | exact H
    have key : d.a σ' h' (fun ds h1 => itK k ds h1 q) r := hs.a rel ((PG.bind H).imp fun xs h1 h1' f H1 ds rr => by
      obtain ⟨ys, e, z⟩ := PG.op f.sub H1
      exact srcX_ok rr.rrs rr.tr e z)
    cases k <;> first | exact absurd rfl hk | exact key
theorem cmpE_ok {tg : Tg} {own : List Nat} {t : TTD} {e : TED} {tE : Sv → HD → R Bool} {eE : Sv → HD → R XV} {H0 B : HD} {Kb : Nat → Option Addr} {h0 : HD} {σ : Sv} {σ' : Sl}
    (ht : ∀ {σ : Sv} {h : HD} {σ' : Sl} {h' : HD} {q : Bool → HD → Prop} {r : XQ}, Rel H0 B Kb h0 σ h σ' h' → PG (tE σ h) h h' (fun b _ h1' => q b h1') r → t σ' h' q r)
    (he : ∀ {σ : Sv} {h : HD} {σ' : Sl} {h' : HD} {q : VQ} {r : XQ}, Rel H0 B Kb h0 σ h σ' h' → PG (eE σ h) h h' (KX h' q) r → e σ' h' q r) {gs : List Gd} {r : XQ} {q : List D → HD → Prop} :
    ∀ (xs acc : List D) {h h' : HD}, Rel H0 B Kb h0 σ h σ' h' → GS (fun _ => True) h h' gs → PG (cmpE tg own tE eE σ xs h) h h' (fun ys _ h1' => q (acc ++ ys) h1') r → cmpR tg own t e σ' gs xs acc h' q
  | [], acc, h, h', rel, g, H => by
    have : q (acc ++ []) h' := H h' (Fr.refl rel.sub)
    rw [List.append_nil] at this
    exact this
  | x :: xs, acc, h, h', rel, g, H => by
    have H : PG ((R.op (tgE tg x (wipeE σ own)) h).bind fun σ2 h => (tE σ2 h).nx.bind fun b h2 => if b = true then (eE σ2 h2).d.nx.bind fun y h3 => (cmpE tg own tE eE σ xs h3).bind fun ys h4 => .ok (y :: ys) h4 else cmpE tg own tE eE σ xs h2) h h' (fun ys _ h1' => q (acc ++ ys) h1') r := H
    obtain ⟨σ2, e2, H⟩ := PG.op rel.sub (PG.bind H)
    show tgS tg x h' (wipeD σ' own) fun σ2' => t σ2' h' (fun b h2 => if b = true then e σ2' h2 (fun y h3 => gdsOk h3 gs ∧ cmpR tg own t e σ' gs xs (acc ++ [y]) h3 q) fun _ _ => False
      else gdsOk h2 gs ∧ cmpR tg own t e σ' gs xs acc h2 q) fun _ _ => False
    refine tgE_ok (rel.wipe own) e2 fun σ2' rel2 => ?_
    refine ht rel2 ((PG.bind H).nx.imp fun b h2 h2' f2 H2 => ?_)
    cases b with
    | false =>
      rw [if_neg Bool.false_ne_true]
      have H2 : PG (cmpE tg own tE eE σ xs h2) h2 h2' (fun ys _ h1' => q (acc ++ ys) h1') r := by simpa using H2
      have g2 := g.step f2
      exact ⟨g2.ok, cmpE_ok ht he xs acc (rel.step f2) g2 H2⟩
    | true =>
      rw [if_pos rfl]
      rw [if_pos rfl] at H2
      refine he (rel2.step f2) (PG.dd (fun _ => trivial) (PG.bind H2).nx |>.imp fun y h3 h3' f3 H3 d' xr => ?_)
      have H3 := H3 d' xr
      have f := f2.trans f3
      have g3 := g.step f
      refine ⟨g3.ok, cmpE_ok ht he xs (acc ++ [d']) (rel.step f) g3 ((PG.bind H3).imp fun ys h4 h4' f4 H4 => ?_)⟩
      have := H4 h4' (Fr.refl f4.sub)
      rw [List.append_assoc]
      exact this
theorem frz_fr {h h1 h' h1' : HD} {p : Addr} (f : Fr h h1 h' h1') (e : h' p = none) (e1 : h1 p = none) : Fr h h1 h' (hdel h1' p) where
  sub := fun a m z => by
    unfold hdel
    rw [if_neg (fun c => by rw [c, e1] at z; cases z)]
    exact f.sub a m z
  keep := fun a m n z => by
    unfold hdel
    rw [if_neg (fun c => by rw [c, e] at z; cases z)]
    exact f.keep a m n z
  dom := f.dom
theorem frzV_v {d : D} {h : HD} {q : VQ} (n : ¬ isRef d = true) (z : q d h) : frzV d h q := by
  cases d with
  | ref a => exact absurd rfl n
  | _ => exact z
theorem se_frz {d : Dn} {e : Vn} (he : SE d e) : SE (Dn.of fun σ h q r => d.v σ h (fun x h1 => frzV x h1 q) r) (Vn.of fun σ h => (e.v σ h).bind fun x h1 => R.op (frzE x) h1) := SE.of fun {H0 B Kb h0 σ h σ' h' q r} rel H => by
  refine he.v rel ?_
  cases hx : e.v σ h with
  | no => rw [hx] at H; exact H
  | ex c h1 => rw [hx] at H; exact H
  | ok x h1 =>
    rw [hx] at H
    have H : PG (R.op (frzE x) h1) h h' (KX h' q) r := H
    intro h1' f d' xr
    cases x with
    | v d0 =>
      have H : PG (R.op (if isRef d0 = true then none else some (.v d0)) h1) h h' (KX h' q) r := H
      split at H
      · exact H.elim
      · rename_i n
        cases (show d' = d0 from xr)
        exact frzV_v n (H h1' f _ rfl)
    | nl xs =>
      obtain ⟨p, rfl, e1, e2, e3⟩ := xr
      show (match h1' p with | some (.lst xs) => _ | some (.dic kvs) => _ | _ => False)
      rw [e1]
      exact H _ (frz_fr f e3 e2) _ rfl
    | nd xs =>
      obtain ⟨p, rfl, e1, e2, e3⟩ := xr
      show (match h1' p with | some (.lst xs) => _ | some (.dic kvs) => _ | _ => False)
      rw [e1]
      exact H _ (frz_fr f e3 e2) _ rfl
    | br xs => exact H.elim
    | bd xs => exact H.elim
mutual
theorem snd_ev (cok : CallOk C K) : ∀ e : E, SE (den K e) (ev C e)
  | .var i => .of fun rel H => by
    cases e : slotE _ with
    | none => rw [e] at H; exact H.elim
    | some x =>
      rw [e] at H
      obtain ⟨d, e1, xr⟩ := rel.slot e
      rw [e1]
      exact H _ (Fr.refl rel.sub) d xr
  | .cst d => .of fun rel H => H _ (Fr.refl rel.sub) d rfl
  | .gl _ d => .of fun rel H => H _ (Fr.refl rel.sub) d rfl
  | .ty n => .of fun rel H => H _ (Fr.refl rel.sub) _ rfl
  | .tup es => .of fun rel H => (snd_evs cok es).a rel ((PG.bind H).imp fun xs h1 h1' f H1 ds rr => by
    obtain ⟨z, e, n⟩ := new_of f H1
    obtain ⟨vs, e1, e2⟩ := Option.bind_eq_some_iff.mp e
    have := rr.rrs.vals e1
    subst this
    split at e2
    · rename_i c; cases e2; exact ⟨c, n⟩
    · cases e2)
  | .lst es => by
    have core : ∀ {H0 B : HD} {Kb : Nat → Option Addr} {h0 : HD} {σ : Sv} {h : HD} {σ' : Sl} {h' : HD} {q : List D → HD → Prop} {r : XQ} {k : XV → HD → HD → Prop}, Rel H0 B Kb h0 σ h σ' h' → PG ((ev C (.lst es)).v σ h) h h' k r → (∀ ds h1 h1', Fr h h1 h' h1' → (∀ h2', Fr h1 h1 h1' h2' → k (.nl ds) h1 h2') → q ds h1') → (dens K es).a σ' h' (fun ds h' => ds.length ≤ sizeLine ∧ q ds h') r := fun {H0 B Kb h0 σ h σ' h' q r k} rel H z => by
      refine (snd_evs cok es).a rel ((PG.bind H).imp fun xs h1 h1' f H1 ds rr => ?_)
      cases e : xds xs with
      | none => rw [e] at H1; exact H1.elim
      | some vs =>
        rw [e] at H1
        have := rr.rrs.vals e
        subst this
        have H1 : PG (R.op (if ds.length ≤ sizeLine then some (.nl ds) else none) h1) h1 h1' k r := H1
        split at H1
        · rename_i c; exact ⟨c, z ds h1 h1' f H1⟩
        · exact H1.elim
    have s : SE (Dn.of fun σ h q r => (dens K es).a σ h (fun ds h' => ds.length ≤ sizeLine ∧ ∀ p, h' p = none → q (.ref p) (hup h' p (.lst ds))) r) (ev C (.lst es)) := .of fun rel H => core rel H fun ds h1 h1' f z p hp => z _ (Fr.new f.sub hp) _ ⟨p, rfl, hup_same, sub_none f.sub hp, f.fresh hp⟩
    exact ⟨⟨s.v, s.t, fun rel H => core rel (PG.bind H) fun ds h1 h1' f z => by
      have := z h1' (Fr.refl f.sub)
      obtain ⟨p, e, w⟩ := PG.op f.sub this
      cases e
      exact w _ (.inl rfl)⟩, s.tv⟩
  | .dic ks vs => .of fun rel H => (snd_evs cok vs).a rel ((PG.bind H).imp fun xs h1 h1' f H1 ds rr => by
    obtain ⟨z, e, n⟩ := new_of f H1
    obtain ⟨es, e1, e2⟩ := Option.bind_eq_some_iff.mp e
    have := rr.rrs.vals e1
    subst this
    split at e2
    · rename_i c; cases e2; exact ⟨c, n⟩
    · cases e2)
  | .bin o a b => .of fun rel H => (snd_ev cok a).v rel ((PG.bind H).imp fun x h1 h1' f1 H1 d xr => (snd_ev cok b).v (rel.step f1) ((PG.bind H1).imp fun y h2 h2' f2 H2 e yr => by
    obtain ⟨z, ez, n⟩ := new_of (f1.trans f2) H2
    exact opE_ok (xr.rr.step f2) yr.rr ez n))
  | .neg a => .of fun rel H => (snd_ev cok a).v rel ((PG.bind H).imp fun x h1 h1' f1 H1 d xr => by
    obtain ⟨z, ez, n⟩ := val_of f1 H1
    exact negE_ok xr.rr.vr ez n)
  | .cmp o a b => .ofT (fun rel H => (snd_ev cok a).v rel ((PG.bind H).imp fun x h1 h1' f1 H1 d xr => (snd_ev cok b).v (rel.step f1) ((PG.bind H1).imp fun y h2 h2' f2 H2 e yr => by
      obtain ⟨z, ez, n⟩ := PG.op f2.sub H2
      exact cmE_ok (xr.rr.step f2).vr yr.rr.vr ez n)))
    fun rel H => (snd_ev cok a).v rel ((PG.bind H).imp fun x h1 h1' f1 H1 d xr => (snd_ev cok b).v (rel.step f1) ((PG.bind H1).imp fun y h2 h2' f2 H2 e yr => by
      obtain ⟨z, ez, n⟩ := PG.op f2.sub H2
      exact cmE_ok (xr.rr.step f2).vr yr.rr.vr ez n))
  | .chn o o' a b c => .ofT (fun rel H => (snd_ev cok a).v rel ((PG.bind H).imp fun x h1 h1' f1 H1 d xr => (snd_ev cok b).v (rel.step f1) ((PG.bind H1).imp fun y h2 h2' f2 H2 e yr => by
      obtain ⟨z, ez, n⟩ := PG.op f2.sub (PG.bind H2)
      refine cmE_ok (xr.rr.step f2).vr yr.rr.vr ez ?_
      cases z with
      | false => exact n _ (Fr.refl f2.sub)
      | true => exact (snd_ev cok c).v (rel.step (f1.trans f2)) ((PG.bind n).imp fun w h3 h3' f3 H3 g wr => by
          obtain ⟨z, ez, n⟩ := PG.op f3.sub H3
          exact cmE_ok (yr.rr.step f3).vr wr.rr.vr ez n))))
    fun rel H => (snd_ev cok a).v rel ((PG.bind H).imp fun x h1 h1' f1 H1 d xr => (snd_ev cok b).v (rel.step f1) ((PG.bind H1).imp fun y h2 h2' f2 H2 e yr => by
      obtain ⟨z, ez, n⟩ := PG.op f2.sub (PG.bind H2)
      refine cmE_ok (xr.rr.step f2).vr yr.rr.vr ez ?_
      cases z with
      | false => exact n _ (Fr.refl f2.sub)
      | true => exact (snd_ev cok c).v (rel.step (f1.trans f2)) ((PG.bind n).imp fun w h3 h3' f3 H3 g wr => by
          obtain ⟨z, ez, n⟩ := PG.op f3.sub H3
          exact cmE_ok (yr.rr.step f3).vr wr.rr.vr ez n)))
  | .nt a => .ofT (fun rel H => (snd_ev cok a).tv rel ((PG.bind H).imp fun b h1 h1' f1 H1 x hx => hx _ (H1 h1' (Fr.refl f1.sub))))
    fun rel H => (snd_ev cok a).t rel ((PG.bind H).imp fun b h1 h1' f1 H1 => H1 h1' (Fr.refl f1.sub))
  | .an .nil => SE.of_no
  | .an (.cons e es) => ⟨(snd_evs cok (.cons e es)).an, (snd_evs cok (.cons e es)).ant rfl⟩
  | .or es => (snd_evs cok es).or
  | .ife c a b => by
    have s : SE (Dn.of fun σ h q r => (den K c).t σ h (fun k h1 => if k = true then (den K a).v σ h1 q r else (den K b).v σ h1 q r) r) (Vn.of fun σ h => ((ev C c).t σ h).bind fun k h1 => if k = true then (ev C a).v σ h1 else (ev C b).v σ h1) := .of fun rel H => (snd_ev cok c).t rel ((PG.bind H).imp fun k h1 h1' f1 H1 => by
      cases k with
      | false =>
        rw [if_neg Bool.false_ne_true]
        rw [if_neg Bool.false_ne_true] at H1
        exact (snd_ev cok b).v (rel.step f1) (H1.imp fun x h2 h2' f2 z d' xr => z d' (xr.base f1))
      | true =>
        rw [if_pos rfl]
        rw [if_pos rfl] at H1
        exact (snd_ev cok a).v (rel.step f1) (H1.imp fun x h2 h2' f2 z d' xr => z d' (xr.base f1)))
    exact ⟨⟨s.v, fun _ H => H.elim, s.i⟩, fun _ H => H.elim⟩
  | .sub a i => .of fun rel H => (snd_ev cok a).v rel ((PG.bind H).imp fun x h1 h1' f1 H1 d xr => (snd_ev cok i).v (rel.step f1) ((PG.bind H1).imp fun y h2 h2' f2 H2 e yr => by
    obtain ⟨z, ez, n⟩ := val_of (f1.trans f2) H2
    exact subE_ok f2.sub (xr.rr.step f2).vr yr.rr.vr ez n))
  | .sl0 a => .of fun rel H => (snd_ev cok a).v rel ((PG.bind H).imp fun x h1 h1' f1 H1 d xr => by
    obtain ⟨z, ez, n⟩ := new_of f1 H1
    exact slcE_ok xr.rr ez n)
  | .slL a lo => .of fun rel H => (snd_ev cok a).v rel ((PG.bind H).imp fun x h1 h1' f1 H1 d xr => (snd_ev cok lo).v (rel.step f1) ((PG.bind H1).imp fun y h2 h2' f2 H2 e yr => by
    obtain ⟨z, ez, n⟩ := new_of (f1.trans f2) H2
    obtain ⟨l, el, ez⟩ := Option.bind_eq_some_iff.mp ez
    unfold asE at el
    split at el
    · cases el
      rw [show e = .int l from yr]
      exact slcE_ok (xr.rr.step f2) ez n
    · cases el))
  | .slU a hi => .of fun rel H => (snd_ev cok a).v rel ((PG.bind H).imp fun x h1 h1' f1 H1 d xr => (snd_ev cok hi).v (rel.step f1) ((PG.bind H1).imp fun y h2 h2' f2 H2 e yr => by
    obtain ⟨z, ez, n⟩ := new_of (f1.trans f2) H2
    obtain ⟨l, el, ez⟩ := Option.bind_eq_some_iff.mp ez
    unfold asE at el
    split at el
    · cases el
      rw [show e = .int l from yr]
      exact slcE_ok (xr.rr.step f2) ez n
    · cases el))
  | .slB a lo hi => .of fun rel H => (snd_ev cok a).v rel ((PG.bind H).imp fun x h1 h1' f1 H1 d xr => (snd_ev cok lo).v (rel.step f1) ((PG.bind H1).imp fun y h2 h2' f2 H2 e yr => by
    obtain ⟨l, el, H3⟩ := PG.op f2.sub (PG.bind H2)
    unfold asE at el
    split at el
    · cases el
      rw [show e = .int l from yr]
      refine (snd_ev cok hi).v (rel.step (f1.trans f2)) ((PG.bind H3).imp fun y h3 h3' f3 H4 e yr => ?_)
      obtain ⟨z, ez, n⟩ := new_of (f1.trans (f2.trans f3)) H4
      obtain ⟨u, eu, ez⟩ := Option.bind_eq_some_iff.mp ez
      unfold asE at eu
      split at eu
      · cases eu
        rw [show e = .int u from yr]
        exact slcE_ok (xr.rr.step (f2.trans f3)) ez n
      · cases eu
    · cases el))
  | .rvs a => .of fun rel H => (snd_ev cok a).v rel ((PG.bind H).imp fun x h1 h1' f1 H1 d xr => by
    obtain ⟨z, ez, n⟩ := new_of f1 H1
    exact rvsE_ok xr.rr ez n)
  | .attr _ _ => SE.of_no
  | .mk _ _ => SE.of_no
  | .meth _ _ _ => SE.of_no
  | .lset true e => .of fun rel H => (snd_ev cok e).i rel ((PG.bind H).imp fun p h1 h1' f H1 gd g => by
    obtain ⟨z, ez, n⟩ := new_of f H1
    unfold ssetE at ez
    split at ez
    · rename_i c
      obtain ⟨ns, e1, ez⟩ := Option.bind_eq_some_iff.mp ez
      split at ez
      · rename_i l; cases ez; exact ⟨g.isL (h1 := h1) c, ns, strsE_ok e1, l, n⟩
      · cases ez
    · cases ez)
  | .lset false e => .of fun rel H => (snd_ev cok e).i rel ((PG.bind H).imp fun p h1 h1' f H1 gd g => by
    obtain ⟨z, ez, n⟩ := val_of f H1
    unfold lsetE at ez
    split at ez
    · rename_i c
      split at ez
      · rename_i ns e1
        split at ez
        · rename_i l; cases ez; exact ⟨g.isL (h1 := h1) c, .inl ⟨ns, intsE_ok e1, l, n⟩⟩
        · cases ez
      · obtain ⟨ns, e1, ez⟩ := Option.bind_eq_some_iff.mp ez
        split at ez
        · rename_i l; cases ez; exact ⟨g.isL (h1 := h1) c, .inr ⟨ns, strsE_ok e1, l, n⟩⟩
        · cases ez
    · cases ez)
  | .joi a e => .of fun rel H => (snd_ev cok e).i rel ((PG.bind H).imp fun p h1 h1' f H1 gd g => by
    obtain ⟨z, ez, n⟩ := val_of f H1
    unfold joiE at ez
    split at ez
    · rename_i c
      obtain ⟨ns, e1, ez⟩ := Option.bind_eq_some_iff.mp ez
      split at ez
      · rename_i l; cases ez; exact ⟨g.isL (h1 := h1) c, ns, strsE_ok e1, l.1, l.2.1, l.2.2, n⟩
      · cases ez
    · cases ez)
  | .itm e => .of fun rel H => (snd_ev cok e).v rel ((PG.bind H).imp fun x h1 h1' f1 H1 d xr => by
    obtain ⟨z, ez, n⟩ := new_of f1 H1
    unfold itmE at ez
    split at ez
    · cases ez; exact .inl ⟨_, _, xr, n⟩
    · cases ez; obtain ⟨p, e1, e2, _⟩ := xr; exact .inr ⟨p, _, e1, e2, n⟩
    · cases ez; obtain ⟨p, e1, e2, _⟩ := xr; exact .inr ⟨p, _, e1, e2, n⟩
    · cases ez)
  | .callv i es => .of fun {H0 B Kb h0 σ h σ' h' q r} rel H => by
    cases e : slotE (σ[i]?).join with
    | none => rw [e] at H; exact H.elim
    | some x =>
      rw [e] at H
      obtain ⟨d, e1, xr⟩ := rel.slot e
      rw [e1]
      cases x with
      | v d0 =>
        cases (show d = d0 from xr)
        cases d with
        | glo g =>
          have H : PG (if C.fv g = true then ((evs C es).a σ h).bind fun xs h1 => (R.op (xds xs) h1).bind fun ds h2 => C.call g ds h2 else .no) h h' (KX h' q) r := H
          split at H
          · rename_i fv
            refine ⟨by rw [← cok.fv]; exact fv, (snd_evs cok es).a rel ((PG.bind H).imp fun xs h1 h1' f H1 ds rr => ?_)⟩
            obtain ⟨vs, e2, n⟩ := PG.op f.sub (PG.bind H1)
            rw [rr.rrs.vals e2]
            exact cok.call f.sub (n.imp fun x h2 h2' f2 z d' xr => z d' (xr.base f))
          · exact H.elim
        | _ => exact H.elim
      | _ => exact H.elim
  | .call f es => .of fun rel H => (snd_evs cok es).a rel ((PG.bind H).imp fun xs h1 h1' f H1 ds rr => by
    split at H1
    · rename_i vs e2
      rw [rr.rrs.vals e2]
      exact cok.call f.sub (H1.imp fun x h2 h2' f2 z d' xr => z d' (xr.base f))
    · obtain ⟨vs, e2, n⟩ := PG.op f.sub (PG.bind H1)
      exact cok.callb f.sub (rr.rrs.bas e2) (n.imp fun x h2 h2' f2 z d' xr => z d' (xr.base f)))
  | .bi b es => .of fun rel H => (snd_evs cok es).a rel ((PG.bind H).imp fun xs h1 h1' f H1 ds rr => by
    obtain ⟨z, ez, n⟩ := val_of f H1
    rw [cok.exm] at ez
    exact biE_ok rr.rrs.vrs ez n)
  | .bl b e => .of fun rel H => (snd_ev cok e).i rel ((PG.bind H).imp fun p h1 h1' f H1 gd g => by
    obtain ⟨z, ez, n⟩ := new_of f H1
    exact blE_ok g ez n)
  | .bm m o es => .of fun rel H => (snd_ev cok o).v rel ((PG.bind H).imp fun x h1 h1' f1 H1 d xr => by
    obtain ⟨_, ec, H1⟩ := PG.op f1.sub (PG.bind H1)
    have bt : bmT m d h1' := by
      cases hr : x.r with
      | kls ys =>
        have v := xr.rr.vr
        rw [hr] at v ec
        cases m <;> first | (show (lstOf h1' d).isSome = true; rw [v.lst]; rfl) | cases ec
      | _ => rw [hr] at ec; cases m <;> cases ec
    refine ⟨bt, (snd_evs cok es).a (rel.step f1) ((PG.bind H1).imp fun ys h2 h2' f2 H2 ds rr => ?_)⟩
    split at H2
    · obtain ⟨z, ez, n⟩ := val_of (f1.trans f2) H2
      cases rr with
      | cons r1 r => cases r; rw [show _ = _ from r1.rr]; exact (bmE_ok (xr.rr.step f2).vr ez n).2
    · exact H2.elim)
  | .comp k es tg own ifs e => by
    have core : ∀ {H0 B : HD} {Kb : Nat → Option Addr} {h0 : HD} {σ : Sv} {h : HD} {σ' : Sl} {h' : HD} {q : List D → HD → Prop} {r : XQ} {k' : XV → HD → HD → Prop}, Rel H0 B Kb h0 σ h σ' h' → PG ((ev C (.comp k es tg own ifs e)).v σ h) h h' k' r → (∀ ds h1 h1', Fr h h1 h' h1' → (∀ h2', Fr h1 h1 h1' h2' → k' (.nl ds) h1 h2') → q ds h1') → srcV k (dens K es) σ' h' (fun xs g h1 => cmpR tg own (dens K ifs).an.t (den K e).v σ' g xs [] h1 q) r := fun {H0 B Kb h0 σ h σ' h' q r k'} rel H z => by
      refine src_ok (snd_evs cok es) rel ((PG.bind H).imp fun xs h1 h1' f H1 gs g => ?_)
      refine cmpE_ok (tE := (evs C ifs).an.t) (eE := (ev C e).v) (snd_evs cok ifs).an.t (snd_ev cok e).v xs [] (rel.step f) g (r := r) ((PG.bind H1).imp fun ys h2 h2' f2 H2 => ?_)
      exact z ys h2 h2' (f.trans f2) H2
    have s : SE (Dn.of fun σ h q r => srcV k (dens K es) σ h (fun xs g h1 => cmpR tg own (dens K ifs).an.t (den K e).v σ g xs [] h1 fun ys h' => ∀ p, h' p = none → q (.ref p) (hup h' p (.lst ys))) r) (ev C (.comp k es tg own ifs e)) := .of fun rel H => core rel H fun ds h1 h1' f z p hp => z _ (Fr.new f.sub hp) _ ⟨p, rfl, hup_same, sub_none f.sub hp, f.fresh hp⟩
    exact ⟨⟨s.v, s.t, fun rel H => core rel (PG.bind H) fun ds h1 h1' f z => by
      have := z h1' (Fr.refl f.sub)
      obtain ⟨p, e, w⟩ := PG.op f.sub this
      cases e
      exact w _ (.inl rfl)⟩, s.tv⟩
  | .frz e => se_frz (snd_ev cok e)
theorem snd_evs (cok : CallOk C K) : ∀ es : Es, SEs (es.isCons) (dens K es) (evs C es)
  | .nil => ⟨fun rel H => H _ (Fr.refl rel.sub) [] .nil, ⟨fun _ H => H.elim, fun rel H => H _ (Fr.refl rel.sub), fun _ H => H.elim⟩, (fun z => by cases z), SE.bad, fun _ H => H.elim⟩
  | .cons e .nil => ⟨fun rel H => (snd_ev cok e).v rel ((PG.bind H).imp fun x h1 h1' f H1 d xr => H1 h1' (Fr.refl f.sub) [d] (.cons xr .nil)), (snd_ev cok e).toSE3, (fun _ => (snd_ev cok e).tv), snd_ev cok e, fun rel H => (snd_ev cok e).i rel H⟩
  | .cons e (.cons e2 es) => by
    have ih := snd_evs cok (.cons e2 es)
    have he := snd_ev cok e
    refine ⟨fun rel H => he.v rel ((PG.bind H).imp fun x h1 h1' f H1 d xr => ih.a (rel.step f) ((PG.bind H1).imp fun xs h2 h2' f2 H2 ds rr => H2 h2' (Fr.refl f2.sub) (d :: ds) (.cons (xr.step f2) (rr.base f)))), ?_, ?_, ?_, fun _ H => H.elim⟩
    · refine ⟨fun rel H => he.v rel ((PG.bind H).imp fun x h1 h1' f H1 d xr => ?_), fun rel H => he.t rel ((PG.bind H).imp fun b h1 h1' f H1 => ?_), fun _ H => H.elim⟩
      · obtain ⟨b, e, n⟩ := PG.op f.sub (PG.bind H1)
        refine truE_ok xr.rr.vr e ?_
        cases b with
        | false => exact n h1' (Fr.refl f.sub) d xr
        | true => exact ih.an.v (rel.step f) (n.imp fun x h2 h2' f2 z d' xr => z d' (xr.base f))
      · cases b with
        | false => exact H1 h1' (Fr.refl f.sub)
        | true => exact ih.an.t (rel.step f) H1
    · intro _ H0 B Kb h0 σ h σ' h' q r rel H
      refine he.tv rel ((PG.bind H).imp fun b h1 h1' f H1 x hx => ?_)
      refine hx _ ?_
      cases b with
      | false => exact H1 h1' (Fr.refl f.sub) x hx
      | true => exact ih.ant rfl (rel.step f) H1
    · refine ⟨⟨fun rel H => he.v rel ((PG.bind H).imp fun x h1 h1' f H1 d xr => ?_), fun rel H => he.t rel ((PG.bind H).imp fun b h1 h1' f H1 => ?_), fun _ H => H.elim⟩, fun rel H => he.tv rel ((PG.bind H).imp fun b h1 h1' f H1 x hx => ?_)⟩
      · obtain ⟨b, e, n⟩ := PG.op f.sub (PG.bind H1)
        refine truE_ok xr.rr.vr e ?_
        cases b with
        | true => exact n h1' (Fr.refl f.sub) d xr
        | false => exact ih.or.v (rel.step f) (n.imp fun x h2 h2' f2 z d' xr => z d' (xr.base f))
      · cases b with
        | true => exact H1 h1' (Fr.refl f.sub)
        | false => exact ih.or.t (rel.step f) H1
      · refine hx _ ?_
        cases b with
        | true => exact H1 h1' (Fr.refl f.sub) x hx
        | false => exact ih.or.tv (rel.step f) H1
end
end
end Nd
/-! Ev5: what stays while a for walks. -/
namespace Nd
open PySem PySem.Spec PyProof.Rows L2
section
variable {H0 B : HD} {Kb : Nat → Option Addr} {h0 h h1 h' h1' : HD} {σ : Sv} {σ' : Sl}
/-- a name's own thing was told -/
theorem Rel.told (r0 : Rel H0 B Kb h0 σ h1 σ' h1') {p : Addr} (hn : h1' p = none) {j : Nat} {q : Addr} (z : mutS (σ[j]?).join = true) (w : (σ'[j]?).join = some (.ref q)) : q ≠ p := fun e => by
  obtain ⟨ad0, b1, _⟩ := r0.ad
  have c := b1 j
  cases y : (σ[j]?).join with
  | none => rw [y] at z; cases z
  | some s0 =>
    rw [y] at c z
    cases s0 with
    | v d => cases z
    | k xs => cases z
    | b xs => cases z
    | c xs => cases z
    | l xs =>
      obtain ⟨c1, c2, _⟩ := c
      rw [w] at c1
      rw [← D.ref.inj (Option.some.inj c1), e, hn] at c2; cases c2
    | m xs =>
      obtain ⟨c1, c2, _⟩ := c
      rw [w] at c1
      rw [← D.ref.inj (Option.some.inj c1), e, hn] at c2; cases c2
theorem Rel.guard {B0 : HD} {hs hs' : HD} (r0 : Rel H0 B0 Kb h0 σ hs σ' hs') (r : Rel H0 B Kb h0 σ h σ' h') {p : Addr} {m : MO} (e : h' p = some m) (n : h p = none) (hn : hs' p = none) (bn : B p = none) :
    Rel H0 (hup B p m) Kb h0 σ h σ' h' ∧ ∀ {σ1 : Sv} {h1 : HD} {σ1' : Sl} {h1' : HD}, Rel H0 (hup B p m) Kb h0 σ1 h1 σ1' h1' → Rel H0 B Kb h0 σ1 h1 σ1' h1' := by
  have up : ∀ a o, B a = some o → hup B p m a = some o := fun a o z => by rw [hup_ne (fun c => by rw [c, bn] at z; cases z)]; exact z
  refine ⟨⟨r.sub, r.dom, fun a o z => ?_, r.fr, fun i q z => ?_, r.len, ?_⟩, fun {σ1 h1 σ1' h1'} R => ⟨R.sub, R.dom, fun a o z => R.b a o (up a o z), R.fr, r.kb, R.len, ?_⟩⟩
  · by_cases c : a = p
    · subst c; rw [hup_same] at z; cases z; exact ⟨e, n⟩
    · rw [hup_ne c] at z; exact r.b a o z
  · obtain ⟨o, w⟩ := Option.ne_none_iff_exists'.mp (r.kb i q z)
    rw [up q o w]
    exact fun y => nomatch y
  · obtain ⟨ad, a1, a2⟩ := r.ad
    refine ⟨ad, fun i => ?_, a2⟩
    have c := a1 i
    cases y : (σ[i]?).join with
    | none => trivial
    | some s =>
      rw [y] at c
      cases s with
      | v d => exact c
      | l xs =>
        obtain ⟨c1, c2, c3, c4, c5⟩ := c
        exact ⟨c1, c2, c3, c4, by rw [hup_ne (r0.told hn (by rw [y]; rfl) c1)]; exact c5⟩
      | m xs =>
        obtain ⟨c1, c2, c3, c4, c5⟩ := c
        exact ⟨c1, c2, c3, c4, by rw [hup_ne (r0.told hn (by rw [y]; rfl) c1)]; exact c5⟩
      | k xs =>
        obtain ⟨q, c1, c2, c3, c4⟩ := c
        exact ⟨q, c1, c2, up _ _ c3, c4⟩
      | b xs =>
        obtain ⟨q, c1, c2, c3⟩ := c
        exact ⟨q, c1, c2, up _ _ c3⟩
      | c xs =>
        obtain ⟨q, c1, c2, c3⟩ := c
        exact ⟨q, c1, c2, up _ _ c3⟩
  · obtain ⟨ad, a1, a2⟩ := R.ad
    refine ⟨ad, fun i => ?_, a2⟩
    have c := a1 i
    have dn : ∀ q, hup B p m q = none → B q = none := fun q z => by
      by_cases c : q = p
      · subst c; exact bn
      · rw [hup_ne c] at z; exact z
    cases y : (σ1[i]?).join with
    | none => trivial
    | some s =>
      rw [y] at c
      cases s with
      | v d => exact c
      | l xs => obtain ⟨c1, c2, c3, c4, c5⟩ := c; exact ⟨c1, c2, c3, c4, dn _ c5⟩
      | m xs => obtain ⟨c1, c2, c3, c4, c5⟩ := c; exact ⟨c1, c2, c3, c4, dn _ c5⟩
      | k xs =>
        obtain ⟨q, c1, c2, c3, c4⟩ := c
        refine ⟨q, c1, c2, ?_, c4⟩
        rw [hup_ne (fun z => r.kb i q c1 (by rw [z]; exact bn))] at c3
        exact c3
      | b xs =>
        obtain ⟨q, c1, c2, c3⟩ := c
        refine ⟨q, c1, c2, ?_⟩
        rw [hup_ne (fun z => r.kb i q c1 (by rw [z]; exact bn))] at c3
        exact c3
      | c xs =>
        obtain ⟨q, c1, c2, c3⟩ := c
        refine ⟨q, c1, c2, ?_⟩
        rw [hup_ne (fun z => r.kb i q c1 (by rw [z]; exact bn))] at c3
        exact c3
/-- what is walked stays, where no name has it -/
theorem Rel.guards {hs hs' : HD} (r0 : Rel H0 B Kb h0 σ hs σ' hs') (f : Fr hs h hs' h') : ∀ gs : List Gd, GS (fun a => hs' a = none) h h' gs →
    ∃ B2, Rel H0 B2 Kb h0 σ h σ' h' ∧ (∀ g ∈ gs, ∀ a m, g = .ls a m → B2 a = some m) ∧ (∀ a m, B a = some m → B2 a = some m) ∧ ∀ {σ1 : Sv} {h1 : HD} {σ1' : Sl} {h1' : HD}, Rel H0 B2 Kb h0 σ1 h1 σ1' h1' → Rel H0 B Kb h0 σ1 h1 σ1' h1'
  | [], _ => ⟨B, r0.step f, (fun _ z => by cases z), (fun _ _ e => e), fun R => R⟩
  | g :: gs, k => by
    obtain ⟨B2, R2, k2, inc, back⟩ := Rel.guards r0 f gs fun g' hg => k g' (List.mem_cons_of_mem _ hg)
    have same : (∀ a m, g = .ls a m → B2 a = some m) → ∃ B2, Rel H0 B2 Kb h0 σ h σ' h' ∧ (∀ g' ∈ g :: gs, ∀ a m, g' = .ls a m → B2 a = some m) ∧ (∀ a m, B a = some m → B2 a = some m) ∧ ∀ {σ1 : Sv} {h1 : HD} {σ1' : Sl} {h1' : HD}, Rel H0 B2 Kb h0 σ1 h1 σ1' h1' → Rel H0 B Kb h0 σ1 h1 σ1' h1' := fun z => by
      refine ⟨B2, R2, fun g' hg a m e => ?_, inc, back⟩
      rcases List.mem_cons.mp hg with c | c
      · exact z a m (c.symm.trans e)
      · exact k2 g' c a m e
    cases g with
    | ls p m =>
      obtain ⟨k1, k3, k4⟩ := k (.ls p m) List.mem_cons_self p m rfl
      cases b : B2 p with
      | some m' =>
        have := (R2.b p m' b).1
        rw [k1] at this
        cases this
        exact same fun a o e => by cases e; exact b
      | none =>
        obtain ⟨R3, back3⟩ := Rel.guard r0 R2 k1 k3 k4 b
        refine ⟨_, R3, fun g' hg a o e => ?_, fun a o e => by rw [hup_ne (fun z => by have := inc a o e; rw [z, b] at this; cases this)]; exact inc a o e, fun R => back (back3 R)⟩
        rcases List.mem_cons.mp hg with c | c
        · subst c; cases e; exact hup_same
        · have := k2 g' c a o e
          rw [hup_ne (fun z => by rw [z, b] at this; cases this)]
          exact this
    | _ => exact same fun a o e => by cases e
/-- a name's list stays while it is walked -/
theorem Rel.lock (r : Rel H0 B Kb h0 σ h σ' h') {i : Nat} {xs : List D} (e : (σ[i]?).join = some (.l xs)) : ∃ p, (σ'[i]?).join = some (.ref p) ∧ h' p = some (.lst xs) ∧ B p = none ∧
    Rel H0 (hup B p (.lst xs)) (fun j => if j = i then some p else Kb j) h0 (σ.set i (some (.k xs))) h σ' h' ∧
    ∀ {σ1 : Sv} {h1 : HD} {σ1' : Sl} {h1' : HD}, Rel H0 (hup B p (.lst xs)) (fun j => if j = i then some p else Kb j) h0 σ1 h1 σ1' h1' → Rel H0 B Kb h0 (unlkE σ1 i) h1 σ1' h1' := by
  obtain ⟨ad, a1, a2⟩ := r.ad
  have w := a1 i
  rw [e] at w
  obtain ⟨w1, w2, w3, w4, bn⟩ := w
  have mi : mutS (σ[i]?).join = true := by rw [e]; rfl
  have up : ∀ a o, B a = some o → hup B (ad i) (.lst xs) a = some o := fun a o z => by rw [hup_ne (fun c => by rw [c, bn] at z; cases z)]; exact z
  have dn : ∀ q, hup B (ad i) (.lst xs) q = none → B q = none := fun q z => by
    by_cases c : q = ad i
    · rw [c]; exact bn
    · rw [hup_ne c] at z; exact z
  refine ⟨ad i, w1, w2, bn, ⟨r.sub, r.dom, fun a o z => ?_, r.fr, fun j q z => ?_, by rw [List.length_set]; exact r.len, ad, fun j => ?_, fun j k z1 z2 c => ?_⟩, fun {σ1 h1 σ1' h1'} R => ?_⟩
  · by_cases c : a = ad i
    · rw [c, hup_same] at z; cases z; rw [c]; exact ⟨w2, w3⟩
    · rw [hup_ne c] at z; exact r.b a o z
  · split at z
    · cases z; rw [hup_same]; exact fun y => nomatch y
    · obtain ⟨o, w⟩ := Option.ne_none_iff_exists'.mp (r.kb j q z)
      rw [up q o w]
      exact fun y => nomatch y
  · rw [join_set]
    by_cases hj : i = j ∧ i < σ.length
    · rw [if_pos hj]
      obtain ⟨rfl, _⟩ := hj
      exact ⟨ad i, if_pos rfl, w1, hup_same, w4⟩
    · rw [if_neg hj]
      have ji : j ≠ i := fun z => by
        subst z
        have : j < σ.length := by
          cases q : σ[j]? with
          | none => rw [q] at e; cases e
          | some y => exact (List.getElem?_eq_some_iff.mp q).1
        exact hj ⟨rfl, this⟩
      have c := a1 j
      cases q : (σ[j]?).join with
      | none => trivial
      | some s0 =>
        rw [q] at c
        have ne : mutS (some s0) = true → ad j ≠ ad i := fun z y => ji (a2 j i (by rw [q]; exact z) mi y)
        cases s0 with
        | v d => exact c
        | l xs => obtain ⟨c1, c2, c3, c4, c5⟩ := c; exact ⟨c1, c2, c3, c4, by rw [hup_ne (ne rfl)]; exact c5⟩
        | m xs => obtain ⟨c1, c2, c3, c4, c5⟩ := c; exact ⟨c1, c2, c3, c4, by rw [hup_ne (ne rfl)]; exact c5⟩
        | k xs => obtain ⟨q, c1, c2, c3, c4⟩ := c; exact ⟨q, (if_neg ji).trans c1, c2, up _ _ c3, c4⟩
        | b xs => obtain ⟨q, c1, c2, c3⟩ := c; exact ⟨q, (if_neg ji).trans c1, c2, up _ _ c3⟩
        | c xs => obtain ⟨q, c1, c2, c3⟩ := c; exact ⟨q, (if_neg ji).trans c1, c2, up _ _ c3⟩
  · have ml : ∀ j, mutS ((σ.set i (some (.k xs)))[j]?).join = true → mutS (σ[j]?).join = true := fun j z => by
      rw [join_set] at z
      split at z
      · cases z
      · exact z
    exact a2 j k (ml j z1) (ml k z2) c
  · obtain ⟨ad1, b1, b2⟩ := R.ad
    have sr : ∀ j, j ≠ i → SR H0 B (Kb j) h1 h1' (ad1 j) (σ1[j]?).join ((σ1'[j]?).join) := fun j hj => by
      have c := b1 j
      cases q : (σ1[j]?).join with
      | none => trivial
      | some s0 =>
        rw [q] at c
        cases s0 with
        | v d => exact c
        | l xs => obtain ⟨c1, c2, c3, c4, c5⟩ := c; exact ⟨c1, c2, c3, c4, dn _ c5⟩
        | m xs => obtain ⟨c1, c2, c3, c4, c5⟩ := c; exact ⟨c1, c2, c3, c4, dn _ c5⟩
        | k xs =>
          obtain ⟨q, c1, c2, c3, c4⟩ := c
          rw [if_neg hj] at c1
          refine ⟨q, c1, c2, ?_, c4⟩
          rw [hup_ne (fun z => r.kb j q c1 (by rw [z]; exact bn))] at c3
          exact c3
        | b xs =>
          obtain ⟨q, c1, c2, c3⟩ := c
          rw [if_neg hj] at c1
          refine ⟨q, c1, c2, ?_⟩
          rw [hup_ne (fun z => r.kb j q c1 (by rw [z]; exact bn))] at c3
          exact c3
        | c xs =>
          obtain ⟨q, c1, c2, c3⟩ := c
          rw [if_neg hj] at c1
          refine ⟨q, c1, c2, ?_⟩
          rw [hup_ne (fun z => r.kb j q c1 (by rw [z]; exact bn))] at c3
          exact c3
    have ci := b1 i
    unfold unlkE
    split
    · rename_i ys ei
      rw [ei] at ci
      obtain ⟨q, c1, c2, c3, c4⟩ := ci
      rw [if_pos rfl] at c1
      cases c1
      rw [hup_same] at c3
      cases c3
      obtain ⟨y1, y2⟩ := R.b (ad i) _ hup_same
      have notp : ∀ j, mutS (σ1[j]?).join = true → ad1 j ≠ ad i := fun j z y => by
        have c := b1 j
        cases q : (σ1[j]?).join with
        | none => rw [q] at z; cases z
        | some s0 =>
          rw [q] at c z
          cases s0 with
          | v d => cases z
          | k d => cases z
          | b d => cases z
          | c d => cases z
          | l xs => obtain ⟨_, _, _, _, c5⟩ := c; rw [y, hup_same] at c5; cases c5
          | m xs => obtain ⟨_, _, _, _, c5⟩ := c; rw [y, hup_same] at c5; cases c5
      refine ⟨R.sub, R.dom, fun a o z => R.b a o (up a o z), R.fr, r.kb, by rw [List.length_set]; exact R.len, fun j => if j = i then ad i else ad1 j, fun j => ?_, fun j k z1 z2 c => ?_⟩
      · rw [join_set]
        by_cases hj : i = j ∧ i < σ1.length
        · rw [if_pos hj]
          obtain ⟨rfl, _⟩ := hj
          dsimp only
          rw [if_pos rfl]
          exact ⟨c2, y1, y2, c4, bn⟩
        · rw [if_neg hj]
          have ji : j ≠ i := fun z => by
            subst z
            have : j < σ1.length := by
              cases q : σ1[j]? with
              | none => rw [q] at ei; cases ei
              | some y => exact (List.getElem?_eq_some_iff.mp q).1
            exact hj ⟨rfl, this⟩
          dsimp only
          rw [if_neg ji]
          exact sr j ji
      · dsimp only at c
        rw [join_set] at z1 z2
        by_cases hj : j = i
        · by_cases hk : k = i
          · rw [hj, hk]
          · rw [if_neg (fun w => hk w.1.symm)] at z2
            rw [if_pos hj, if_neg hk] at c
            exact absurd c.symm (notp k z2)
        · rw [if_neg (fun w => hj w.1.symm)] at z1
          by_cases hk : k = i
          · rw [if_neg hj, if_pos hk] at c
            exact absurd c (notp j z1)
          · rw [if_neg (fun w => hk w.1.symm)] at z2
            rw [if_neg hj, if_neg hk] at c
            exact b2 j k z1 z2 c
    · rename_i ys ei
      refine ⟨R.sub, R.dom, fun a o z => R.b a o (up a o z), R.fr, r.kb, by rw [List.length_set]; exact R.len, ad1, fun j => ?_, fun j k z1 z2 c => ?_⟩
      · rw [join_set]
        split
        · trivial
        · rename_i hj
          by_cases ji : j = i
          · subst ji
            have : ¬ j < σ1.length := fun z => hj ⟨rfl, z⟩
            rw [List.getElem?_eq_none (by omega)] at ei
            cases ei
          · exact sr j ji
      · rw [join_set] at z1 z2
        split at z1
        · cases z1
        · split at z2
          · cases z2
          · exact b2 j k z1 z2 c
    · rename_i ys ei
      refine ⟨R.sub, R.dom, fun a o z => R.b a o (up a o z), R.fr, r.kb, by rw [List.length_set]; exact R.len, ad1, fun j => ?_, fun j k z1 z2 c => ?_⟩
      · rw [join_set]
        split
        · trivial
        · rename_i hj
          by_cases ji : j = i
          · subst ji
            have : ¬ j < σ1.length := fun z => hj ⟨rfl, z⟩
            rw [List.getElem?_eq_none (by omega)] at ei
            cases ei
          · exact sr j ji
      · rw [join_set] at z1 z2
        split at z1
        · cases z1
        · split at z2
          · cases z2
          · exact b2 j k z1 z2 c
    · rename_i ei nb nc
      refine ⟨R.sub, R.dom, fun a o z => R.b a o (up a o z), R.fr, r.kb, R.len, ad1, fun j => ?_, b2⟩
      by_cases hj : j = i
      · subst hj
        cases q : (σ1[j]?).join with
        | none => trivial
        | some s0 =>
          rw [q] at ci
          cases s0 with
          | v d => exact ci
          | l xs => obtain ⟨c1, c2, c3, c4, c5⟩ := ci; exact ⟨c1, c2, c3, c4, dn _ c5⟩
          | m xs => obtain ⟨c1, c2, c3, c4, c5⟩ := ci; exact ⟨c1, c2, c3, c4, dn _ c5⟩
          | k xs => exact absurd q (ei xs)
          | b xs => exact absurd q (nb xs)
          | c xs => exact absurd q (nc xs)
      · exact sr j hj
end
end Nd
/-! Ev6: what a run of statements, of a def says holds of the denotation. -/
namespace Nd
open PySem PySem.Spec PyProof.Rows L2
/-- what is given back -/
structure RT (H0 B h0 : HD) (x : XV) (h1 h1' : HD) (d' : D) : Prop where
  sub : Sub h1 h1'
  dom : ∀ a, h0 a = none ↔ h1 a = none
  b : ∀ a m, B a = some m → h1' a = some m ∧ h1 a = none
  x : XR H0 h1 h1' (retX x) d'
def PO (H0 B : HD) (Kb : Nat → Option Addr) (h0 : HD) (Z : En) (o : O) : Prop := match o with
  | .nx σ1 h1 => ∀ σ1' h1', Rel H0 B Kb h0 σ1 h1 σ1' h1' → Z.nx σ1' h1'
  | .bk σ1 h1 => ∀ σ1' h1', Rel H0 B Kb h0 σ1 h1 σ1' h1' → Z.bk σ1' h1'
  | .ct σ1 h1 => ∀ σ1' h1', Rel H0 B Kb h0 σ1 h1 σ1' h1' → Z.ct σ1' h1'
  | .ex c σ1 h1 => ∀ σ1' h1', Rel H0 B Kb h0 σ1 h1 σ1' h1' → Z.ex c σ1' h1'
  | .rt x h1 => ∀ h1' d', RT H0 B h0 x h1 h1' d' → Z.rt d' h1'
  | .no => False
section
variable {H0 B : HD} {Kb : Nat → Option Addr} {h0 h h1 h' h1' : HD} {σ : Sv} {σ' : Sl} {Z : En}
theorem st_of {α : Type} {x : R α} {f : α → HD → O} (rel : Rel H0 B Kb h0 σ h σ' h') (H : PO H0 B Kb h0 Z (x.st σ f)) : PG x h h' (fun a h1 _ => PO H0 B Kb h0 Z (f a h1)) fun c h1' => Z.ex c σ' h1' := by
  cases x with
  | no => exact H
  | ok a h1 => exact fun _ _ => H
  | ex c h1 => exact fun h1' f1 => H σ' h1' (rel.step f1)
structure SS (t : TSD) (s : Sv → HD → O) : Prop where
  run : ∀ {H0 B : HD} {Kb : Nat → Option Addr} {h0 : HD} {σ : Sv} {h : HD} {σ' : Sl} {h' : HD} {Z : En}, Rel H0 B Kb h0 σ h σ' h' → PO H0 B Kb h0 Z (s σ h) → t Z σ' h'
theorem forE_ok {tg : Tg} {tb : TSD} {b : Sv → HD → O} (hb : SS tb b) {gs : List Gd} (hg : ∀ g ∈ gs, ∀ a m, g = .ls a m → B a = some m) : ∀ (xs : List D) {σ : Sv} {h : HD} {σ' : Sl} {h' : HD}, Rel H0 B Kb h0 σ h σ' h' → PO H0 B Kb h0 Z (forE tg b xs σ h) → forR tg tb gs Z xs σ' h'
  | [], σ, h, σ', h', rel, H => H σ' h' rel
  | x :: xs, σ, h, σ', h', rel, H => by
    have gok : ∀ {σ : Sv} {h : HD} {σ' : Sl} {h' : HD}, Rel H0 B Kb h0 σ h σ' h' → gdsOk h' gs := fun R g hg' => by
      cases g with
      | ls a m => exact (R.b a m (hg _ hg' a m rfl)).1
      | _ => trivial
    unfold forE at H
    split at H
    · exact H.elim
    · rename_i σ1 e1
      show tgS tg x h' σ' _
      refine tgE_ok rel e1 fun σ1' rel1 => hb.run rel1 ?_
      split at H
      · rename_i σ2 h2 e2; rw [e2]; exact fun σ2' h2' R => ⟨gok R, forE_ok hb hg xs R H⟩
      · rename_i σ2 h2 e2; rw [e2]; exact fun σ2' h2' R => ⟨gok R, forE_ok hb hg xs R H⟩
      · rename_i σ2 h2 e2; rw [e2]; exact fun σ2' h2' R => H σ2' h2' R
      · rename_i n1 n2 n3
        cases e : b σ1 h with
        | nx _ _ => exact absurd e (n1 _ _)
        | ct _ _ => exact absurd e (n2 _ _)
        | bk _ _ => exact absurd e (n3 _ _)
        | rt _ _ => rw [e] at H; exact H
        | ex _ _ _ => rw [e] at H; exact H
        | no => rw [e] at H; exact H
theorem whlE_ok {tc : TTD} {tb : TSD} {c : Sv → HD → R Bool} {b : Sv → HD → O} (hc : ∀ {σ : Sv} {h : HD} {σ' : Sl} {h' : HD} {q : Bool → HD → Prop} {r : XQ}, Rel H0 B Kb h0 σ h σ' h' → PG (c σ h) h h' (fun b _ h1' => q b h1') r → tc σ' h' q r) (hb : SS tb b) :
    ∀ (n : Nat) {σ : Sv} {h : HD} {σ' : Sl} {h' : HD}, Rel H0 B Kb h0 σ h σ' h' → PO H0 B Kb h0 Z (whlE c b n σ h) → whlR tc tb Z n σ' h'
  | 0, _, _, _, _, _, H => H
  | n + 1, σ, h, σ', h', rel, H => by
    unfold whlE at H
    show tc σ' h' _ _
    refine hc rel ((st_of rel H).imp fun k h1 h1' f H1 => ?_)
    cases k with
    | false => exact H1 σ' h1' (rel.step f)
    | true =>
      rw [if_pos rfl]
      rw [if_pos rfl] at H1
      refine hb.run (rel.step f) ?_
      split at H1
      · rename_i σ2 h2 e2; rw [e2]; exact fun σ2' h2' R => whlE_ok hc hb n R H1
      · rename_i σ2 h2 e2; rw [e2]; exact fun σ2' h2' R => whlE_ok hc hb n R H1
      · rename_i σ2 h2 e2; rw [e2]; exact fun σ2' h2' R => H1 σ2' h2' R
      · rename_i n1 n2 n3
        cases e : b σ h1 with
        | nx _ _ => exact absurd e (n1 _ _)
        | ct _ _ => exact absurd e (n2 _ _)
        | bk _ _ => exact absurd e (n3 _ _)
        | rt _ _ => rw [e] at H1; exact H1
        | ex _ _ _ => rw [e] at H1; exact H1
        | no => rw [e] at H1; exact H1
/-- a thing that is known is changed -/
theorem Rel.put (r : Rel H0 B Kb h0 σ h σ' h') {a : Addr} {m m1 : MO} (e : h a = some m) : Rel H0 B Kb h0 σ (hup h a m1) σ' (hup h' a m1) := by
  refine ⟨fun x o z => ?_, fun x => ?_, fun x o z => ?_, fun x z => ?_, r.kb, r.len, ?_⟩
  · by_cases c : x = a
    · subst c; rw [hup_same] at z ⊢; exact z
    · rw [hup_ne c] at z ⊢; exact r.sub x o z
  · by_cases c : x = a
    · subst c; rw [hup_same]
      exact ⟨(fun z => by rw [(r.dom x).mp z] at e; cases e), fun z => nomatch z⟩
    · rw [hup_ne c]; exact r.dom x
  · obtain ⟨z1, z2⟩ := r.b x o z
    have c : x ≠ a := fun c => by rw [c, e] at z2; cases z2
    rw [hup_ne c, hup_ne c]; exact ⟨z1, z2⟩
  · by_cases c : x = a
    · subst c; rw [hup_same] at z; cases z
    · rw [hup_ne c] at z; exact r.fr x z
  · obtain ⟨ad, a1, a2⟩ := r.ad
    refine ⟨ad, fun i => ?_, a2⟩
    have w := a1 i
    cases q : (σ[i]?).join with
    | none => trivial
    | some s =>
      rw [q] at w
      cases s with
      | v d => exact w
      | k d => exact w
      | b d => exact w
      | c d => exact w
      | l xs =>
        obtain ⟨w1, w2, w3, w4⟩ := w
        have c : ad i ≠ a := fun c => by rw [c, e] at w3; cases w3
        exact ⟨w1, by rw [hup_ne c]; exact w2, by rw [hup_ne c]; exact w3, w4⟩
      | m xs =>
        obtain ⟨w1, w2, w3, w4⟩ := w
        have c : ad i ≠ a := fun c => by rw [c, e] at w3; cases w3
        exact ⟨w1, by rw [hup_ne c]; exact w2, by rw [hup_ne c]; exact w3, w4⟩
/-- a name's own thing changes no more -/
theorem Rel.fz (r : Rel H0 B Kb h0 σ h σ' h') {i : Nat} {s : SV} {m : MO} {d : D} (e : (σ[i]?).join = some s) (hs : moS s = some m) : ∃ p, (σ'[i]?).join = some (.ref p) ∧ h' p = some m ∧ Rel H0 B Kb h0 (σ.set i (some (.v d))) h (σ'.set i (some d)) (hdel h' p) := by
  obtain ⟨p, w1, w2, w3, _⟩ := r.wr (s1 := s) (m1 := m) e hs hs
  refine ⟨p, w1, w2, ?_⟩
  obtain ⟨ad, a1, a2⟩ := r.ad
  have mi : mutS (σ[i]?).join = true := by
    rw [e]
    cases s <;> first | rfl | cases hs
  have ai : ad i = p ∧ B p = none ∧ H0 p = none := by
    have w := a1 i
    rw [e, w1] at w
    cases s with
    | v d => cases hs
    | k d => cases hs
    | b d => cases hs
    | c d => cases hs
    | l xs => obtain ⟨c, _, _, c2, c3⟩ := w; have := D.ref.inj (Option.some.inj c); subst this; exact ⟨rfl, c3, c2⟩
    | m xs => obtain ⟨c, _, _, c2, c3⟩ := w; have := D.ref.inj (Option.some.inj c); subst this; exact ⟨rfl, c3, c2⟩
  obtain ⟨ai, bn, hn⟩ := ai
  have del : ∀ x, x ≠ p → hdel h' p x = h' x := fun x c => by unfold hdel; rw [if_neg c]
  have ml : ∀ j, mutS ((σ.set i (some (.v d)))[j]?).join = true → mutS (σ[j]?).join = true ∧ ¬ (i = j ∧ i < σ.length) := fun j z => by
    rw [join_set] at z
    split at z
    · cases z
    · rename_i c; exact ⟨z, c⟩
  refine ⟨fun x o z => ?_, r.dom, fun x o z => ?_, fun x z => ?_, r.kb, by rw [List.length_set, List.length_set]; exact r.len, ad, fun j => ?_, fun j k z1 z2 c => a2 j k (ml j z1).1 (ml k z2).1 c⟩
  · rw [del x (fun c => by rw [c, w3] at z; cases z)]; exact r.sub x o z
  · rw [del x (fun c => by rw [c, bn] at z; cases z)]; exact r.b x o z
  · by_cases c : x = p
    · rw [c]; exact hn
    · rw [del x c] at z; exact r.fr x z
  · rw [join_set, join_set, ← r.len]
    by_cases hj : i = j ∧ i < σ.length
    · rw [if_pos hj, if_pos hj]; rfl
    · rw [if_neg hj, if_neg hj]
      have w := a1 j
      have ji : mutS (σ[j]?).join = true → ad j ≠ p := fun z c => by
        have : j = i := a2 j i z mi (by rw [c, ai])
        subst this
        have : j < σ.length := by
          cases q : σ[j]? with
          | none => rw [q] at e; cases e
          | some y => exact (List.getElem?_eq_some_iff.mp q).1
        exact hj ⟨rfl, this⟩
      cases q : (σ[j]?).join with
      | none => trivial
      | some s0 =>
        rw [q] at w ji
        cases s0 with
        | v d => exact w
        | k d => exact w
        | b d => exact w
        | c d => exact w
        | l xs => obtain ⟨w1, w2, w3⟩ := w; exact ⟨w1, by rw [del _ (ji rfl)]; exact w2, w3⟩
        | m xs => obtain ⟨w1, w2, w3⟩ := w; exact ⟨w1, by rw [del _ (ji rfl)]; exact w2, w3⟩
theorem RT.of {x : XV} {d' : D} (rel : Rel H0 B Kb h0 σ h σ' h') (k : XR H0 h h' (retX x) d') : RT H0 B h0 x h h' d' := ⟨rel.sub, rel.dom, rel.b, k⟩
theorem xr_h0 {hb : HD} (fr : ∀ a, hb a = none → H0 a = none) {x : XV} {d' : D} {z : XV} (e : retE x = some z) (k : XR hb h h' x d') : z = x ∧ XR H0 h h' (retX x) d' := by
  cases x with
  | v d => cases e; exact ⟨rfl, k⟩
  | nl xs => cases e; obtain ⟨p, a, b, c, f⟩ := k; exact ⟨rfl, p, a, b, c, fr p f⟩
  | nd xs => cases e; obtain ⟨p, a, b, c, f⟩ := k; exact ⟨rfl, p, a, b, c, fr p f⟩
  | br _ => cases e
  | bd _ => cases e
theorem Rel.slot0 (r : Rel H0 B Kb h0 σ h σ' h') {i : Nat} {x : XV} (e : slotR (σ[i]?).join = some x) : ∃ d, (σ'[i]?).join = some d ∧ XR H0 h h' (retX x) d := by
  obtain ⟨ad, a1, _⟩ := r.ad
  have := a1 i
  cases q : (σ[i]?).join with
  | none => rw [q] at e; cases e
  | some s =>
    rw [q] at e this
    cases s with
    | v d => cases e; exact ⟨d, this, rfl⟩
    | l xs => cases e; obtain ⟨z1, z2, z3, z4, _⟩ := this; exact ⟨_, z1, _, rfl, z2, z3, z4⟩
    | m xs => cases e; obtain ⟨z1, z2, z3, z4, _⟩ := this; exact ⟨_, z1, _, rfl, z2, z3, z4⟩
    | k xs =>
      cases e
      obtain ⟨p, _, z1, z2, z3⟩ := this
      obtain ⟨w1, w2⟩ := r.b p _ z2
      exact ⟨_, z1, _, rfl, w1, w2, z3⟩
    | b xs => cases e
    | c xs => cases e
theorem srcN_ok {nn : Bool} {k : ItK} {d : Dns} {e : Vs} (hs : SEs nn d e) {q : List D → List Gd → HD → Prop} {r : XQ} (rel : Rel H0 B Kb h0 σ h σ' h')
    (H : PG (srcN k e σ h) h h' (fun xs h1 h1' => ∀ gs, GS (fun a => h' a = none) h1 h1' gs → q xs gs h1') r) : srcV k d σ' h' q r := by
  by_cases hk : k = .seq
  · subst hk
    refine hs.i rel ((PG.bind H).imp fun p h1 h1' f H1 gd g => ?_)
    split at H1
    · exact H1.elim
    · rename_i nb
      exact ⟨g.walk, H1 h1' (Fr.refl f.sub) _ (g.gs fun a z => z.elim (fun c => absurd c nb) id)⟩
  · have H : PG ((e.a σ h).bind fun xs h1 => if noBr xs = true then R.op (srcX k xs) h1 else .no) h h' (fun xs h1 h1' => ∀ gs, GS (fun a => h' a = none) h1 h1' gs → q xs gs h1') r := by
      cases k <;> first | exact absurd rfl hk | exact H
    have key : d.a σ' h' (fun ds h1 => itK k ds h1 q) r := hs.a rel ((PG.bind H).imp fun xs h1 h1' f H1 ds rr => by
      split at H1
      · rename_i nb
        obtain ⟨ys, e, z⟩ := PG.op f.sub H1
        have ap : AtPs (fun a => h' a = none) xs ds := by
          clear e z H1
          induction rr with
          | nil => exact .nil
          | @cons x d xs ds a _ ih =>
            cases x with
            | v _ => exact .cons trivial (ih nb)
            | nl _ => obtain ⟨p, e1, _, _, e2⟩ := a; exact .cons (fun p' e => by rw [e1] at e; cases e; exact e2) (ih nb)
            | nd _ => obtain ⟨p, e1, _, _, e2⟩ := a; exact .cons (fun p' e => by rw [e1] at e; cases e; exact e2) (ih nb)
            | br _ => cases nb
            | bd _ => cases nb
        exact srcX_ok rr.rrs ap e z
      · exact H1.elim)
    cases k <;> first | exact absurd rfl hk | exact key
theorem PO.back {B2 : HD} {Kb2 : Nat → Option Addr} {o : O} (inc : ∀ a m, B a = some m → B2 a = some m) (back : ∀ {σ1 : Sv} {h1 : HD} {σ1' : Sl} {h1' : HD}, Rel H0 B2 Kb2 h0 σ1 h1 σ1' h1' → Rel H0 B Kb h0 σ1 h1 σ1' h1') (H : PO H0 B Kb h0 Z o) : PO H0 B2 Kb2 h0 Z o := by
  cases o with
  | nx σ1 h1 => exact fun σ1' h1' R => H _ _ (back R)
  | bk σ1 h1 => exact fun σ1' h1' R => H _ _ (back R)
  | ct σ1 h1 => exact fun σ1' h1' R => H _ _ (back R)
  | ex c σ1 h1 => exact fun σ1' h1' R => H _ _ (back R)
  | rt x h1 => exact fun h1' d' R => H _ _ ⟨R.sub, R.dom, fun a m z => R.b a m (inc a m z), R.x⟩
  | no => exact H
theorem PO.unlk {B2 : HD} {Kb2 : Nat → Option Addr} {o : O} {i : Nat} (inc : ∀ a m, B a = some m → B2 a = some m) (back : ∀ {σ1 : Sv} {h1 : HD} {σ1' : Sl} {h1' : HD}, Rel H0 B2 Kb2 h0 σ1 h1 σ1' h1' → Rel H0 B Kb h0 (unlkE σ1 i) h1 σ1' h1') (H : PO H0 B Kb h0 Z (o.unlk i)) : PO H0 B2 Kb2 h0 Z o := by
  cases o with
  | nx σ1 h1 => exact fun σ1' h1' R => H _ _ (back R)
  | bk σ1 h1 => exact fun σ1' h1' R => H _ _ (back R)
  | ct σ1 h1 => exact fun σ1' h1' R => H _ _ (back R)
  | ex c σ1 h1 => exact fun σ1' h1' R => H _ _ (back R)
  | rt x h1 => exact fun h1' d' R => H _ _ ⟨R.sub, R.dom, fun a m z => R.b a m (inc a m z), R.x⟩
  | no => exact H
theorem isV1_ok {k : ItK} {es : Es} {i : Nat} (e : isV1 k es = some i) : k = .seq ∧ es = .cons (.var i) .nil := by
  unfold isV1 at e
  split at e
  · cases e; exact ⟨rfl, rfl⟩
  · cases e
theorem varE_ok {e : E} {i : Nat} (h : varE e = some i) : e = .var i := by
  cases e <;> first | (cases h; rfl) | cases h
theorem popV_ok {e : E} {i : Nat} (h : popV e = some i) : e = .bm .pop0 (.var i) .nil := by
  unfold popV at h
  split at h
  · cases h; rfl
  · cases h
theorem appV_ok {e e' : E} {i : Nat} (h : appV e = some (i, e')) : e = .bm .append (.var i) (.cons e' .nil) := by
  unfold appV at h
  split at h
  · cases h; rfl
  · cases h
theorem clrV_ok {e : E} {i : Nat} (h : clrV e = some i) : (e = .bm .clear (.var i) .nil ∧ isD e = false) ∨ (e = .bm .clearD (.var i) .nil ∧ isD e = true) := by
  unfold clrV at h
  split at h
  · cases h; exact .inl ⟨rfl, rfl⟩
  · cases h; exact .inr ⟨rfl, rfl⟩
  · cases h
theorem aug_ok {op : Operator} {d x r : D} {y : D} {q : VQ} (k : VR h' x y) (e : augE op d x = some r) (z : q r h') : augV op d y h' q := by
  unfold augE at e
  split at e
  · split at e
    · cases e; rw [k.int]; exact z
    · cases e
  · split at e
    · rw [k.str]
      split at e
      · rename_i c; cases e; exact ⟨c, z⟩
      · cases e
    · cases e
  · split at e
    · cases e; rw [k.int]; exact z
    · cases e
  · cases e
end
end Nd
/-! Ev7: statements, defs, laws by runs. -/
namespace Nd
open PySem PySem.Spec PyProof.Rows L2
section
variable {C : Cv} {K : Ca}
theorem set_same {σ : Sl} {i : Nat} {d : D} (e : (σ[i]?).join = some d) : σ.set i (some d) = σ := by
  have e1 : σ[i]? = some (some d) := by
    cases z : σ[i]? with
    | none => rw [z] at e; cases e
    | some o => rw [z] at e; exact congrArg some e
  apply List.ext_getElem?
  intro j
  rw [List.getElem?_set]
  split
  · rename_i c
    subst c
    split
    · exact e1.symm
    · rename_i n
      rw [List.getElem?_eq_none (by omega)] at e1
      cases e1
  · rfl
theorem denB_cons' {s : S} {b : B} {Z : En} {σ : Sl} {h : HD} : denB K (.cons s b) Z σ h = denS K s { Z with nx := denB K b Z } σ h := by cases b <;> rfl
theorem pop_ok {H0 B : HD} {Kb : Nat → Option Addr} {h0 h h' : HD} {σ : Sv} {σ' : Sl} {i : Nat} {d : D} {σ1 : Sv} {q : VQ} {r : XQ} (rel : Rel H0 B Kb h0 σ h σ' h') (e : popE σ i = some (d, σ1)) (z : ∀ h1', Rel H0 B Kb h0 σ1 h σ' h1' → q d h1') :
    (den K (.bm .pop0 (.var i) .nil)).v σ' h' q r := by
  unfold popE at e
  split at e
  · rename_i xs es
    obtain ⟨d0, e1, e2⟩ := Option.map_eq_some_iff.mp e
    cases e2
    obtain ⟨p, w1, w2, w3, R⟩ := rel.wr (s1 := .l xs.dropLast) es rfl rfl
    show (match (σ'[i]?).join with
      | some d => bmT .pop0 d h' ∧ bmV .pop0 d [] h' q
      | none => False)
    rw [w1]
    have hp : h' p = some (.lst xs) := w2
    refine ⟨?_, ?_⟩
    · show (match h' p with | some (.lst _) => True | _ => False)
      rw [hp]; trivial
    · show (match h' p with
        | some (.lst xs) => (match xs[xs.length - 1]? with
          | some d => q d (hup h' p (.lst xs.dropLast))
          | none => False)
        | _ => False)
      rw [hp]
      dsimp only
      rw [e1]
      exact z _ R
  · cases e
theorem setR_ok {H0 B : HD} {Kb : Nat → Option Addr} {h0 h h' : HD} {σ : Sv} {σ' : Sl} {Z : En} {o : D} {x z : XV} {dx dz : D} (rel : Rel H0 B Kb h0 σ h σ' h') (kx : RR h h' x dx) (kz : RR h h' z dz) (H : PO H0 B Kb h0 Z (setR σ o x z h)) : setV o dz dx h' fun h4 => Z.nx σ' h4 := by
  unfold setR at H
  split at H
  · cases (show dx = _ from kx)
    cases (show dz = _ from kz)
    split at H
    · rename_i kvs ea
      split at H
      · rename_i kk ek
        split at H
        · rename_i hl
          have e2 := rel.sub _ _ ea
          unfold setV
          dsimp only
          rw [e2]
          dsimp only
          rw [ek]
          exact ⟨hl, H _ _ (rel.put ea)⟩
        · exact H.elim
      · exact H.elim
    · exact H.elim
  · exact H.elim
mutual
theorem snd_evS (cok : CallOk C K) : ∀ s : S, SS (denS K s) (evS C s)
  | .pass => .mk fun rel H => H _ _ rel
  | .doc => .mk fun rel H => H _ _ rel
  | .brk => .mk fun rel H => H _ _ rel
  | .cnt => .mk fun rel H => H _ _ rel
  | .ex e => .mk fun {H0 B Kb h0 σ h σ' h' Z} rel H => by
    show (den K e).v σ' h' _ _
    have H : PO H0 B Kb h0 Z (match appV e with
      | some (i, e') => (match (σ[i]?).join with
        | some (.l xs) => ((ev C e').v σ h).st σ fun x h1 => appE σ i xs x h1
        | _ => .no)
      | none => match clrV e with
        | some i => (match (σ[i]?).join with
          | some (.l _) => if isD e = true then .no else .nx (σ.set i (some (.l []))) h
          | some (.m _) => if isD e = true then .nx (σ.set i (some (.m []))) h else .no
          | _ => .no)
        | none => ((ev C e).v σ h).st σ fun _ h1 => .nx σ h1) := H
    split at H
    · rename_i i e' ea
      rw [appV_ok ea]
      split at H
      · rename_i xs es
        obtain ⟨p, w1, w2, _, _⟩ := rel.wr (s1 := .l xs) es rfl rfl
        have hp : h' p = some (.lst xs) := w2
        show (match (σ'[i]?).join with
          | some d => bmT .append d h' ∧ (den K e').v σ' h' (fun y h2 => bmV .append d [y] h2 fun _ h1 => Z.nx σ' h1) fun x h' => Z.ex x σ' h'
          | none => False)
        rw [w1]
        refine ⟨by show (match h' p with | some (.lst _) => True | _ => False); rw [hp]; trivial, (snd_ev cok e').v rel ((st_of rel H).imp fun x h1 h1' f H1 d' xr => ?_)⟩
        unfold appE at H1
        split at H1
        · split at H1
          · rename_i hl
            cases (show d' = _ from xr)
            obtain ⟨p2, y1, y2, _, R⟩ := (rel.step f).wr (s1 := .l (xs ++ [d'])) es rfl rfl
            rw [w1] at y1
            cases y1
            have hp2 : h1' p = some (.lst xs) := y2
            show (match h1' p with | some (.lst xs) => xs.length < sizeLine ∧ Z.nx σ' (hup h1' p (.lst (xs ++ [d']))) | _ => False)
            rw [hp2]
            exact ⟨hl, H1 _ _ (by
              have e : (σ.set i (some (.l (xs ++ [d'])))) = σ.set i (some (.l (xs ++ [d']))) := rfl
              exact R)⟩
          · exact H1.elim
        · exact H1.elim
      · exact H.elim
    · split at H
      · rename_i i ei
        split at H
        · rename_i xs es
          obtain ⟨p, w1, w2, _, R⟩ := rel.wr (s1 := .l []) es rfl rfl
          have hp : h' p = some (.lst xs) := w2
          rcases clrV_ok ei with ⟨rfl, d⟩ | ⟨rfl, d⟩
          · show (match (σ'[i]?).join with
              | some d => bmT .clear d h' ∧ bmV .clear d [] h' fun _ h1 => Z.nx σ' h1
              | none => False)
            rw [w1]
            refine ⟨?_, ?_⟩
            · show (match h' p with | some (.lst _) => True | _ => False)
              rw [hp]; trivial
            · show (match h' p with | some (.lst _) => Z.nx σ' (hup h' p (.lst [])) | _ => False)
              rw [hp]
              exact H _ _ R
          · exact H.elim
        · rename_i xs es
          obtain ⟨p, w1, w2, _, R⟩ := rel.wr (s1 := .m []) es rfl rfl
          have hp : h' p = some (.dic xs) := w2
          rcases clrV_ok ei with ⟨rfl, d⟩ | ⟨rfl, d⟩
          · exact H.elim
          · show (match (σ'[i]?).join with
              | some d => bmT .clearD d h' ∧ bmV .clearD d [] h' fun _ h1 => Z.nx σ' h1
              | none => False)
            rw [w1]
            refine ⟨?_, ?_⟩
            · show (match h' p with | some (.dic _) => True | _ => False)
              rw [hp]; trivial
            · show (match h' p with | some (.dic _) => Z.nx σ' (hup h' p (.dic [])) | _ => False)
              rw [hp]
              exact H _ _ R
        · exact H.elim
      · exact (snd_ev cok e).v rel ((st_of rel H).imp fun x h1 h1' f H1 d' xr => H1 _ _ (rel.step f))
  | .ret e => .mk fun {H0 B Kb h0 σ h σ' h' Z} rel H => by
    show (den K e).v σ' h' Z.rt _
    have H : PO H0 B Kb h0 Z (match varE e with
      | some i => (match slotR (σ[i]?).join with
        | some x => .rt x h
        | none => .no)
      | none => ((ev C e).v σ h).st σ fun x h1 => match retE x with
        | some x => .rt x h1
        | none => .no) := H
    split at H
    · rename_i i ei
      rw [varE_ok ei]
      split at H
      · rename_i x ex
        obtain ⟨d, w1, w2⟩ := rel.slot0 ex
        show (match (σ'[i]?).join with | some d => Z.rt d h' | none => False)
        rw [w1]
        exact H _ _ (.of rel w2)
      · exact H.elim
    · refine (snd_ev cok e).v rel ((st_of rel H).imp fun x h1 h1' f H1 d' xr => ?_)
      split at H1
      · rename_i z ez
        obtain ⟨rfl, w⟩ := xr_h0 rel.fr ez xr
        exact H1 _ _ (.of (rel.step f) w)
      · exact H1.elim
  | .retN => .mk fun rel H => H _ _ (.of rel rfl)
  | .set i e => .mk fun {H0 B Kb h0 σ h σ' h' Z} rel H => by
    show (den K e).v σ' h' (fun d h1 => Z.nx (σ'.set i (some d)) h1) _
    have H : PO H0 B Kb h0 Z (match popV e with
      | some k => (match popE σ k with
        | some (d, σ1) => .nx (σ1.set i (some (.v d))) h
        | none => .no)
      | none => ((ev C e).v σ h).st σ fun x h1 => match newE x with
        | some s => .nx (σ.set i (some s)) h1
        | none => .no) := H
    split at H
    · rename_i k ek
      rw [popV_ok ek]
      split at H
      · rename_i d σ1 ep
        exact pop_ok rel ep fun h1' R => H _ _ (R.setV i d)
      · exact H.elim
    · refine (snd_ev cok e).v rel ((st_of rel H).imp fun x h1 h1' f H1 d' xr => ?_)
      cases x with
      | v d => cases (show d' = d from xr); exact H1 _ _ ((rel.step f).setV i d')
      | nl xs => obtain ⟨p, rfl, e1, e2, e3⟩ := xr; exact H1 _ _ (rel.setM f i e3 e2 (s := .l xs) rfl e1)
      | nd xs => obtain ⟨p, rfl, e1, e2, e3⟩ := xr; exact H1 _ _ (rel.setM f i e3 e2 (s := .m xs) rfl e1)
      | br _ => exact H1.elim
      | bd _ => exact H1.elim
  | .setT tg e => .mk fun {H0 B Kb h0 σ h σ' h' Z} rel H => by
    show (den K e).v σ' h' (fun d h1 => tgS tg d h1 σ' fun σ'' => Z.nx σ'' h1) _
    have H : PO H0 B Kb h0 Z (match popV e with
      | some k => (match popE σ k with
        | some (d, σ1) => (match tgE tg d σ1 with
          | some σ2 => .nx σ2 h
          | none => .no)
        | none => .no)
      | none => ((ev C e).v σ h).st σ fun x h1 => match x.d.bind fun d => tgE tg d σ with
        | some σ2 => .nx σ2 h1
        | none => .no) := H
    split at H
    · rename_i k ek
      rw [popV_ok ek]
      split at H
      · rename_i d σ1 ep
        refine pop_ok rel ep fun h1' R => ?_
        split at H
        · rename_i σ2 e2
          exact tgE_ok R e2 fun σ1' R2 => H _ _ R2
        · exact H.elim
      · exact H.elim
    · refine (snd_ev cok e).v rel ((st_of rel H).imp fun x h1 h1' f H1 d' xr => ?_)
      cases x with
      | v d =>
        cases (show d' = d from xr)
        have H1 : PO H0 B Kb h0 Z (match tgE tg d' σ with
          | some σ2 => .nx σ2 h1
          | none => .no) := H1
        split at H1
        · rename_i σ2 e2
          exact tgE_ok (rel.step f) e2 fun σ1' R2 => H1 _ _ R2
        · exact H1.elim
      | _ => exact H1.elim
  | .par i j a b => .mk fun rel H => (snd_ev cok a).v rel ((st_of rel H).imp fun x h1 h1' f1 H1 d xr => (snd_ev cok b).v (rel.step f1) ((st_of (rel.step f1) H1).imp fun y h2 h2' f2 H2 e yr => by
    split at H2
    · cases (show d = _ from xr)
      cases (show e = _ from yr)
      exact H2 _ _ (((rel.step (f1.trans f2)).setV i _).setV j _)
    · exact H2.elim))
  | .setS o i e => .mk fun {H0 B Kb h0 σ h σ' h' Z} rel H => by
    show (den K e).v σ' h' (fun d h1 => (den K o).v σ' h1 (fun x h2 => (den K i).v σ' h2 (fun y h3 => setV x y d h3 fun h4 => Z.nx σ' h4) fun x h' => Z.ex x σ' h') fun x h' => Z.ex x σ' h') _
    refine (snd_ev cok e).v rel ((st_of rel H).imp fun x h1 h1' f1 H1 d xr => ?_)
    have r1 := rel.step f1
    split at H1
    · rename_i k ek
      rw [varE_ok ek]
      show (match (σ'[k]?).join with | some d0 => (den K i).v σ' h1' (fun y h3 => setV d0 y d h3 fun h4 => Z.nx σ' h4) (fun x h' => Z.ex x σ' h') | none => False)
      split at H1
      · rename_i xs es
        obtain ⟨p, w1, _, _, _⟩ := r1.wr (s1 := .l xs) es rfl rfl
        rw [w1]
        refine (snd_ev cok i).v r1 ((st_of r1 H1).imp fun z h2 h2' f2 H2 y yr => ?_)
        unfold setL at H2
        split at H2
        · cases (show d = _ from xr)
          cases (show y = _ from yr)
          split at H2
          · rename_i j ej
            obtain ⟨p2, y1, y2, _, R⟩ := (r1.step f2).wr (s1 := .l (xs.set j d)) es rfl rfl
            rw [w1] at y1
            cases y1
            have hp2 : h2' p = some (.lst xs) := y2
            unfold setV
            dsimp only
            rw [hp2]
            dsimp only
            rw [ej]
            exact H2 _ _ R
          · exact H2.elim
        · exact H2.elim
      · rename_i kvs es
        obtain ⟨p, w1, _, _, _⟩ := r1.wr (s1 := .m kvs) es rfl rfl
        rw [w1]
        refine (snd_ev cok i).v r1 ((st_of r1 H1).imp fun z h2 h2' f2 H2 y yr => ?_)
        unfold setM at H2
        split at H2
        · cases (show d = _ from xr)
          cases (show y = _ from yr)
          split at H2
          · rename_i kk ekk
            split at H2
            · rename_i hl
              obtain ⟨p2, y1, y2, _, R⟩ := (r1.step f2).wr (s1 := .m (putD kvs kk d)) es rfl rfl
              rw [w1] at y1
              cases y1
              have hp2 : h2' p = some (.dic kvs) := y2
              unfold setV
              dsimp only
              rw [hp2]
              dsimp only
              rw [ekk]
              exact ⟨hl, H2 _ _ R⟩
            · exact H2.elim
          · exact H2.elim
        · exact H2.elim
      · rename_i d0 es
        obtain ⟨d1, w1, w2⟩ := r1.slot (i := k) (x := .v d0) (by rw [es]; rfl)
        rw [w1]
        cases (show d1 = d0 from w2)
        refine (snd_ev cok i).v r1 ((st_of r1 H1).imp fun z h2 h2' f2 H2 y yr => ?_)
        exact setR_ok (r1.step f2) (xr.rr.step f2) yr.rr H2
      · exact H1.elim
    · refine (snd_ev cok o).v r1 ((st_of r1 H1).imp fun y h2 h2' f2 H2 oo yr => ?_)
      have r2 := r1.step f2
      refine (snd_ev cok i).v r2 ((st_of r2 H2).imp fun z h3 h3' f3 H3 zz zr => ?_)
      split at H3
      · cases (show oo = _ from yr)
        exact setR_ok (r2.step f3) (xr.rr.step (f2.trans f3)) zr.rr H3
      · exact H3.elim
  | .setA _ _ _ => .mk fun _ H => H.elim
  | .aug i op e => .mk fun {H0 B Kb h0 σ h σ' h' Z} rel H => by
    show (match (σ'[i]?).join with | some d => (den K e).v σ' h' (fun x h1 => augV op d x h1 fun y h2 => Z.nx (σ'.set i (some y)) h2) (fun x h' => Z.ex x σ' h') | none => False)
    have H : PO H0 B Kb h0 Z (match (σ[i]?).join with
      | some (.v d) => ((ev C e).v σ h).st σ fun x h1 => match augE op d x.r with
        | some y => .nx (σ.set i (some (.v y))) h1
        | none => .no
      | some (.l xs) => ((ev C e).v σ h).st σ fun x h1 => extE σ i xs op x h1
      | _ => .no) := H
    split at H
    · rename_i d es
      obtain ⟨d1, w1, w2⟩ := rel.slot (i := i) (x := .v d) (by rw [es]; rfl)
      cases (show d1 = d from w2)
      rw [w1]
      refine (snd_ev cok e).v rel ((st_of rel H).imp fun x h1 h1' f H1 d' xr => ?_)
      split at H1
      · rename_i y ey
        exact aug_ok xr.rr.vr ey (H1 _ _ ((rel.step f).setV i y))
      · exact H1.elim
    · rename_i xs es
      obtain ⟨p, w1, w2, _, _⟩ := rel.wr (s1 := .l xs) es rfl rfl
      rw [w1]
      refine (snd_ev cok e).v rel ((st_of rel H).imp fun x h1 h1' f H1 d' xr => ?_)
      unfold extE at H1
      split at H1
      · rename_i zs _
        split at H1
        · rename_i hl
          obtain ⟨p2, y1, y2, _, R⟩ := (rel.step f).wr (s1 := .l (xs ++ zs)) es rfl rfl
          rw [w1] at y1
          cases y1
          obtain ⟨b, rfl, b2, _⟩ := xr
          have hp2 : h1' p = some (.lst xs) := y2
          show (match h1' p, (D.ref b) with
            | some (.lst xs), .ref b => (match h1' b with
              | some (.lst zs) => xs.length + zs.length ≤ sizeLine ∧ Z.nx (σ'.set i (some (.ref p))) (hup h1' p (.lst (xs ++ zs)))
              | _ => False)
            | _, _ => False)
          rw [hp2]
          dsimp only
          rw [b2, set_same w1]
          exact ⟨hl, H1 _ _ R⟩
        · exact H1.elim
      · exact H1.elim
    · exact H.elim
  | .ite c a b => .mk fun rel H => (snd_ev cok c).t rel ((st_of rel H).imp fun k h1 h1' f H1 => by
    cases k with
    | true => exact (snd_evB cok a).run (rel.step f) H1
    | false => exact (snd_evB cok b).run (rel.step f) H1)
  | .whl c b => .mk fun rel H => ⟨1000000, whlE_ok (snd_ev cok c).t (snd_evB cok b) 1000000 rel H⟩
  | .for_ k es tg b => .mk fun {H0 B Kb h0 σ h σ' h' Z} rel H => by
    show srcV k (dens K es) σ' h' (fun xs g h1 => forR tg (denB K b) g Z xs σ' h1) fun x h' => Z.ex x σ' h'
    replace H : PO H0 B Kb h0 Z (match isV1 k es with
      | some i => (match (σ[i]?).join with
        | some (.l xs) => (forE tg (evB C b) xs (σ.set i (some (.k xs))) h).unlk i
        | some (.k xs) => forE tg (evB C b) xs σ h
        | some (.b xs) => forE tg (evB C b) xs σ h
        | some (.v d) => (match itE d with
          | some p => forE tg (evB C b) p.1 σ h
          | none => .no)
        | _ => .no)
      | none => (srcN k (evs C es) σ h).st σ fun xs h1 => forE tg (evB C b) xs σ h1) := H
    split at H
    · rename_i i ei
      obtain ⟨rfl, rfl⟩ := isV1_ok ei
      show (match (σ'[i]?).join with
        | some d => itV d h' fun xs g => [g].all Gd.walk = true ∧ forR tg (denB K b) [g] Z xs σ' h'
        | none => False)
      split at H
      · rename_i xs es
        obtain ⟨p, w1, w2, bn, R, back⟩ := rel.lock es
        rw [w1]
        show (match h' p with | some (.lst xs) => _ | some (.dic kvs) => _ | _ => False)
        rw [w2]
        refine ⟨rfl, forE_ok (snd_evB cok b) (fun g hg a m e => ?_) xs R (PO.unlk (fun a m z => by rw [hup_ne (fun c => by rw [c, bn] at z; cases z)]; exact z) back H)⟩
        rw [List.mem_singleton] at hg
        subst hg
        cases e
        exact hup_same
      · rename_i xs es
        obtain ⟨ad, a1, _⟩ := rel.ad
        have c := a1 i
        rw [es] at c
        obtain ⟨p, _, w1, w2, _⟩ := c
        rw [w1]
        show (match h' p with | some (.lst xs) => _ | some (.dic kvs) => _ | _ => False)
        rw [(rel.b p _ w2).1]
        refine ⟨rfl, forE_ok (snd_evB cok b) (fun g hg a m e => ?_) xs rel H⟩
        rw [List.mem_singleton] at hg
        subst hg
        cases e
        exact w2
      · rename_i xs es
        obtain ⟨ad, a1, _⟩ := rel.ad
        have c := a1 i
        rw [es] at c
        obtain ⟨p, _, w1, w2⟩ := c
        rw [w1]
        show (match h' p with | some (.lst xs) => _ | some (.dic kvs) => _ | _ => False)
        rw [(rel.b p _ w2).1]
        refine ⟨rfl, forE_ok (snd_evB cok b) (fun g hg a m e => ?_) xs rel H⟩
        rw [List.mem_singleton] at hg
        subst hg
        cases e
        exact w2
      · rename_i d es
        obtain ⟨d1, w1, w2⟩ := rel.slot (i := i) (x := .v d) (by rw [es]; rfl)
        cases (show d1 = d from w2)
        rw [w1]
        split at H
        · rename_i p ep
          have go : ∀ (xs : List D) (g : Gd), (∀ a m, g ≠ .ls a m) → PO H0 B Kb h0 Z (forE tg (evB C b) xs σ h) → forR tg (denB K b) [g] Z xs σ' h' := fun xs g ng H => forE_ok (snd_evB cok b) (fun g' hg a m e => by
            rw [List.mem_singleton] at hg
            subst hg
            exact absurd e (ng a m)) xs rel H
          unfold itE at ep
          split at ep
          · cases ep; exact ⟨rfl, go _ _ (fun _ _ z => nomatch z) H⟩
          · cases ep; exact ⟨rfl, go _ _ (fun _ _ z => nomatch z) H⟩
          · cases ep; exact ⟨rfl, go _ _ (fun _ _ z => nomatch z) H⟩
          · cases ep; exact ⟨rfl, go _ _ (fun _ _ z => nomatch z) H⟩
          · cases ep
        · exact H.elim
      · exact H.elim
    · refine srcN_ok (snd_evs cok es) rel ((st_of rel H).imp fun xs h1 h1' f H1 gs g => ?_)
      obtain ⟨B2, R2, k2, inc, back⟩ := rel.guards f gs g
      exact forE_ok (snd_evB cok b) k2 xs R2 (PO.back inc back H1)
  | .raise c => .mk fun rel H => H _ _ rel
  | .try_ b x i j => .mk fun {H0 B Kb h0 σ h σ' h' Z} rel H => by
    show denB K b { Z with ex := fun c σ'' h'' => exmK (K.exm c x) (fun _ => Z.nx ((σ''.set j (some (.exc c))).set i none) h'') fun _ => Z.ex c σ'' h'' } σ' h'
    refine (snd_evB cok b).run rel ?_
    have H : PO H0 B Kb h0 Z (match evB C b σ h with
      | .ex c σ1 h1 => (match C.exm c x with
        | some true => .nx ((σ1.set j (some (.v (.exc c)))).set i none) h1
        | some false => .ex c σ1 h1
        | none => .no)
      | o => o) := H
    cases e : evB C b σ h with
    | ex c σ1 h1 =>
      rw [e] at H
      intro σ1' h1' R
      show exmK (K.exm c x) (fun _ => Z.nx ((σ1'.set j (some (.exc c))).set i none) h1') fun _ => Z.ex c σ1' h1'
      rw [← cok.exm]
      have H : PO H0 B Kb h0 Z (match C.exm c x with
        | some true => .nx ((σ1.set j (some (.v (.exc c)))).set i none) h1
        | some false => .ex c σ1 h1
        | none => .no) := H
      split at H
      · rename_i e2; rw [e2]; exact H _ _ ((R.setV j _).setN i none)
      · rename_i e2; rw [e2]; exact H _ _ R
      · exact H.elim
    | nx _ _ => rw [e] at H; exact H
    | rt _ _ => rw [e] at H; exact H
    | bk _ _ => rw [e] at H; exact H
    | ct _ _ => rw [e] at H; exact H
    | no => rw [e] at H; exact H
  | .fz i => .mk fun {H0 B Kb h0 σ h σ' h' Z} rel H => by
    show (match (σ'[i]?).join with | some d => frzV d h' fun d' h' => Z.nx (σ'.set i (some d')) h' | none => False)
    have H : PO H0 B Kb h0 Z (match (σ[i]?).join with
      | some (.v d) => if isRef d = true then .no else .nx (σ.set i (some (.v d))) h
      | some (.l xs) => .nx (σ.set i (some (.v (.kls xs)))) h
      | some (.m kvs) => .nx (σ.set i (some (.v (.kdc (kvs.map (·.1)) (kvs.map (·.2)))))) h
      | _ => .no) := H
    split at H
    · rename_i d es
      obtain ⟨d1, w1, w2⟩ := rel.slot (i := i) (x := .v d) (by rw [es]; rfl)
      cases (show d1 = d from w2)
      rw [w1]
      split at H
      · exact H.elim
      · rename_i n
        exact frzV_v n (H _ _ (rel.setV i d))
    · rename_i xs es
      obtain ⟨p, w1, w2, R⟩ := rel.fz (d := .kls xs) es rfl
      rw [w1]
      show (match h' p with | some (.lst xs) => _ | some (.dic kvs) => _ | _ => False)
      rw [w2]
      exact H _ _ R
    · rename_i kvs es
      obtain ⟨p, w1, w2, R⟩ := rel.fz (d := .kdc (kvs.map (·.1)) (kvs.map (·.2))) es rfl
      rw [w1]
      show (match h' p with | some (.lst xs) => _ | some (.dic kvs) => _ | _ => False)
      rw [w2]
      exact H _ _ R
    · exact H.elim
theorem snd_evB (cok : CallOk C K) : ∀ b : B, SS (denB K b) (evB C b)
  | .nil => .mk fun rel H => H _ _ rel
  | .cons s b => .mk fun {H0 B Kb h0 σ h σ' h' Z} rel H => by
    rw [denB_cons']
    refine (snd_evS cok s).run rel ?_
    have H : PO H0 B Kb h0 Z ((evS C s σ h).bind fun σ1 h1 => evB C b σ1 h1) := H
    cases e : evS C s σ h with
    | nx σ1 h1 => rw [e] at H; exact fun σ1' h1' R => (snd_evB cok b).run R H
    | rt _ _ => rw [e] at H; exact H
    | bk _ _ => rw [e] at H; exact H
    | ct _ _ => rw [e] at H; exact H
    | ex _ _ _ => rw [e] at H; exact H
    | no => rw [e] at H; exact H
end
end
/-! ### defs -/
theorem BRs.len {h h' : HD} {bs : List BA} {ds : List D} (k : BRs h h' bs ds) : bs.length = ds.length := by
  induction k with
  | nil => rfl
  | cons _ _ ih => simp [ih]
theorem BRs.get {h h' : HD} {bs : List BA} {ds : List D} (k : BRs h h' bs ds) : ∀ {i : Nat} {b : BA}, bs[i]? = some b → ∃ d, ds[i]? = some d ∧ BR h h' b d := by
  induction k with
  | nil => intro i b e; simp at e
  | cons a _ ih =>
    intro i b e
    cases i with
    | zero => simp at e; subst e; exact ⟨_, rfl, a⟩
    | succ i => exact ih (by simpa using e)
theorem BRs.vals {h h' : HD} : ∀ ds : List D, BRs h h' (ds.map .v) ds
  | [] => .nil
  | d :: ds => .cons rfl (BRs.vals ds)
def refA : Option D → Option Addr
  | some (.ref p) => some p
  | _ => none
def kbB (bs : List BA) (ds : List D) (i : Nat) : Option Addr := match bs[i]? with
  | some (.l _) => refA ds[i]?
  | some (.m _) => refA ds[i]?
  | _ => none
theorem startB_vals (n : Nat) (ds : List D) : startB n (ds.map .v) = startE n ds := by
  unfold startB startE
  rw [List.map_map, List.length_map]; rfl
theorem start_relB {h h' : HD} (s : Sub h h') (n : Nat) {bs : List BA} {ds : List D} (k : BRs h h' bs ds) : Rel h' (fun a => if h a = none then h' a else none) (kbB bs ds) h (startB n bs) h (ds.map some ++ List.replicate (n - ds.length) none) h' := by
  have kl := k.len
  have nil : ∀ k, ((List.replicate (n - ds.length) (none : Option SV))[k]?).join = none := fun k => by
    rw [List.getElem?_replicate]; split <;> rfl
  refine ⟨s, fun _ => Iff.rfl, fun a m e => ?_, fun _ e => e, fun i p e => ?_, ?_, fun _ => 0, fun i => ?_, fun i j z => ?_⟩
  · split at e
    · rename_i n; exact ⟨e, n⟩
    · cases e
  · unfold kbB at e
    split at e
    · rename_i xs eb
      obtain ⟨d, e1, q, e2, e3, e4⟩ := k.get eb
      rw [e1, e2] at e
      cases e
      show (if h p = none then h' p else none) ≠ none
      rw [if_pos e4, e3]; exact fun z => nomatch z
    · rename_i xs eb
      obtain ⟨d, e1, q, e2, e3, e4⟩ := k.get eb
      rw [e1, e2] at e
      cases e
      show (if h p = none then h' p else none) ≠ none
      rw [if_pos e4, e3]; exact fun z => nomatch z
    · cases e
  · unfold startB; simp [kl]
  · unfold startB
    rw [kl]
    by_cases hi : i < ds.length
    · have hb : i < bs.length := by omega
      rw [List.getElem?_append_left (by simpa using hb), List.getElem?_append_left (by simpa using hi), List.getElem?_map, List.getElem?_map]
      have eb := List.getElem?_eq_getElem hb
      obtain ⟨d, e1, e2⟩ := k.get eb
      rw [eb, e1]
      show SR h' _ (kbB bs ds i) h h' 0 (some (bs[i]).s) (some d)
      have kb : kbB bs ds i = (match some bs[i] with | some (.l _) => refA (some d) | some (.m _) => refA (some d) | _ => none) := by unfold kbB; rw [eb, e1]
      rw [kb]
      cases q : bs[i] with
      | v d0 => rw [q] at e2; exact congrArg some e2
      | l xs =>
        rw [q] at e2
        obtain ⟨p, rfl, e3, e4⟩ := e2
        exact ⟨p, rfl, rfl, by show (if h p = none then h' p else none) = _; rw [if_pos e4]; exact e3⟩
      | m xs =>
        rw [q] at e2
        obtain ⟨p, rfl, e3, e4⟩ := e2
        exact ⟨p, rfl, rfl, by show (if h p = none then h' p else none) = _; rw [if_pos e4]; exact e3⟩
    · have hb : ¬ i < bs.length := by omega
      rw [List.getElem?_append_right (by simpa using hb), List.getElem?_append_right (by simpa using hi)]
      rw [show (List.map (fun b => some (BA.s b)) bs).length = bs.length by simp, nil]; trivial
  · exfalso
    unfold startB at z
    rw [kl] at z
    by_cases hi : i < bs.length
    · rw [List.getElem?_append_left (by simpa using hi), List.getElem?_map, List.getElem?_eq_getElem hi] at z
      cases q : bs[i] <;> (simp [q, BA.s] at z; exact nomatch z)
    · rw [List.getElem?_append_right (by simpa using hi)] at z
      rw [show (List.map (fun b => some (BA.s b)) bs).length = bs.length by simp, nil] at z
      cases z
theorem start_rel {h h' : HD} (s : Sub h h') (n : Nat) (ds : List D) : Rel h' (fun a => if h a = none then h' a else none) (kbB (ds.map .v) ds) h (startE n ds) h (ds.map some ++ List.replicate (n - ds.length) none) h' := by
  rw [← startB_vals]; exact start_relB s n (BRs.vals ds)
theorem run_ok (P : Pr) : ∀ n : Nat, CallOk (P.cvn n) (P.ca (P.call n)) := fun n => by
  have key : ∀ (n : Nat) {f : Nat} {bs : List BA} {ds : List D} {h h' : HD} {q : VQ} {r : XQ}, Sub h h' → BRs h h' bs ds → PG (P.runB n f bs h) h h' (KX h' q) r → P.call n f ds h' q r := by
    intro n
    induction n with
    | zero => intro f bs ds h h' q r s k H; exact H.elim
    | succ n ih =>
      intro f bs ds h h' q r s k H
      have cok : CallOk (P.cvn n) (P.ca (P.call n)) := ⟨fun {f ds h h' q r} s H => ih s (BRs.vals ds) H, fun {f bs ds h h' q r} s k H => ih s k H, rfl, rfl⟩
      have H : PG (match P.fns.lookup f with
        | some f => if bs.length = f.ps.length then (evB (P.cvn n) f.body (startB f.N.length bs) h).re else .no
        | none => .no) h h' (KX h' q) r := H
      show (match P.fns.lookup f with
        | some f => ds.length = f.ps.length ∧ denB (P.ca (P.call n)) f.body { nx := fun _ h' => dq q .non h', rt := dq q, bk := fun _ _ => False, ct := fun _ _ => False, ex := fun c _ h' => dx r c h' } (ds.map some ++ List.replicate (f.N.length - ds.length) none) h'
        | none => False)
      split at H
      · rename_i fd ef
        split at H
        · rename_i hl
          refine ⟨by rw [← k.len]; exact hl, (snd_evB cok fd.body).run (start_relB s fd.N.length k) ?_⟩
          have fr : ∀ {σ1 h1 σ1' h1'}, Rel h' (fun a => if h a = none then h' a else none) (kbB bs ds) h σ1 h1 σ1' h1' → Fr h h1 h' h1' := fun R => ⟨R.sub, fun a m n e => (R.b a m (by rw [if_pos n]; exact e)).1, R.dom⟩
          cases e : evB (P.cvn n) fd.body (startB fd.N.length bs) h with
          | nx σ1 h1 => rw [e] at H; exact fun σ1' h1' R => ⟨_, fun _ _ e => e, H h1' (fr R) .non rfl⟩
          | rt x h1 => rw [e] at H; exact fun h1' d' R => ⟨_, fun _ _ e => e, H h1' ⟨R.sub, fun a m n e => (R.b a m (by rw [if_pos n]; exact e)).1, R.dom⟩ d' R.x⟩
          | ex c σ1 h1 => rw [e] at H; exact fun σ1' h1' R => ⟨_, fun _ _ e => e, H h1' (fr R)⟩
          | bk _ _ => rw [e] at H; exact H.elim
          | ct _ _ => rw [e] at H; exact H.elim
          | no => rw [e] at H; exact H.elim
        · exact H.elim
      · exact H.elim
  exact ⟨fun {f ds h h' q r} s H => key n s (BRs.vals ds) H, fun {f bs ds h h' q r} s k H => key n s k H, rfl, rfl⟩
/-- the heap of nothing -/
abbrev hE : HD := fun _ => none
theorem law_run {P : Pr} {k i : Nat} {ds : List D} (e : ∃ h, P.run k i ds hE = .ok (.v (.bl true)) h) : P.call k i ds (fun _ => none) (fun d _ => d = .bl true) fun _ _ => False := by
  obtain ⟨h, e⟩ := e
  refine (run_ok P k).call (h := hE) (fun _ _ z => z) ?_
  show PG (P.run k i ds hE) _ _ _ _
  rw [e]
  exact fun h1' _ d' xr => xr
/-- P has a def of this number, body, count of parameters and of names -/
def HasF (P : Pr) (i : Nat) (b : B) (np nn : Nat) : Prop := ∃ f, P.fns.lookup i = some f ∧ f.body = b ∧ f.ps.length = np ∧ f.N.length = nn
theorem runB_of {P : Pr} {i np nn n : Nat} {b : B} {bs : List BA} {h : HD} (H : HasF P i b np nn) (hl : bs.length = np) : P.runB (n + 1) i bs h = (evB (P.cvn n) b (bs.map (fun b => some b.s) ++ List.replicate (nn - np) none) h).re := by
  obtain ⟨f, e1, rfl, rfl, rfl⟩ := H
  show (match P.fns.lookup i with
    | some f => if bs.length = f.ps.length then (evB (P.cvn n) f.body (startB f.N.length bs) h).re else .no
    | none => .no) = _
  rw [e1]
  dsimp only
  rw [if_pos hl, ← hl]
  rfl
theorem run_of {P : Pr} {i np nn n : Nat} {b : B} {ds : List D} {h : HD} (H : HasF P i b np nn) (hl : ds.length = np) : P.run (n + 1) i ds h = (evB (P.cvn n) b (ds.map (fun d => some (.v d)) ++ List.replicate (nn - np) none) h).re := by
  show P.runB (n + 1) i (ds.map .v) h = _
  rw [runB_of H (by rw [List.length_map]; exact hl), List.map_map]; rfl
end Nd
/-! Ev8: a law begins; the drawing state; rules to run with. -/
namespace Nd
open PySem PySem.Spec PyProof.Rows L2
theorem hup_hup {h : HD} {a : Addr} {m m' : MO} : hup (hup h a m) a m' = hup h a m' := by
  funext x
  unfold hup
  split <;> rfl
section
variable {v : Sv → HD → R XV} {t : Sv → HD → R Bool} {σ : Sv} {h : HD}
theorem of_v : (Vn.of v).v σ h = v σ h := rfl
theorem of_t : (Vn.of v).t σ h = (v σ h).bind fun x h1 => R.op (truE x.r) h1 := rfl
theorem of_i : (Vn.of v).i σ h = (v σ h).bind fun x h1 => R.op (itX x) h1 := rfl
theorem ofT_v : (Vn.ofT t).v σ h = (t σ h).bind fun b h1 => .ok (.v (.bl b)) h1 := rfl
theorem ofT_t : (Vn.ofT t).t σ h = t σ h := rfl
section
variable {α : Type} {a : α} {h1 : HD} {c : Nat} {f : α → HD → O} {g : Sv → HD → O} {x : XV}
theorem st_ok : (R.ok a h1).st σ f = f a h1 := rfl
theorem st_ex : (R.ex c h1 : R α).st σ f = .ex c σ h1 := rfl
theorem bind_nx : (O.nx σ h1).bind g = g σ h1 := rfl
theorem bind_rt : (O.rt x h1).bind g = .rt x h1 := rfl
theorem bind_bk : (O.bk σ h1).bind g = .bk σ h1 := rfl
theorem bind_ct : (O.ct σ h1).bind g = .ct σ h1 := rfl
theorem bind_ex : (O.ex c σ h1).bind g = .ex c σ h1 := rfl
theorem re_nx : (O.nx σ h1).re = .ok (.v .non) h1 := rfl
theorem re_rt : (O.rt x h1).re = .ok (retX x) h1 := rfl
theorem re_ex : (O.ex c σ h1).re = .ex c h1 := rfl
theorem nx_ok : (R.ok a h1).nx = .ok a h1 := rfl
theorem d_v {d : D} : (R.ok (XV.v d) h1).d = .ok d h1 := rfl
end
section
variable {C : Cv} {a b c : E} {i : Nat} {d : D} {es : Es}
theorem ev_var : (ev C (.var i)).v σ h = R.op (slotE (σ[i]?).join) h := rfl
theorem ev_varT : (ev C (.var i)).t σ h = (R.op (slotE (σ[i]?).join) h).bind fun x h1 => R.op (truE x.r) h1 := rfl
theorem ev_varI : (ev C (.var i)).i σ h = (R.op (slotE (σ[i]?).join) h).bind fun x h1 => R.op (itX x) h1 := rfl
end
end
theorem law_start {P : Pr} {n li nn : Nat} {b : B} {ns : D} {kvs : List (Key × D)} (H : HasF P li (.cons (.set 1 (.call 8 (.cons (.var 0) .nil))) b) 1 (nn + 2)) (h8 : P.run n 8 [ns] hE = .ok (.nd kvs) hE)
    (hr : ∀ p, ∃ h1, (evB (P.cvn n) b (some (.v ns) :: some (.v (.ref p)) :: List.replicate nn none) (hup hE p (.dic kvs))).re = .ok (.v (.bl true)) h1) :
    P.call (n + 1) li [ns] (fun _ => none) (fun d _ => d = .bl true) fun _ _ => False := by
  obtain ⟨f, e1, e2, e3, e4⟩ := H
  show (match P.fns.lookup li with
      | some f => [ns].length = f.ps.length ∧ denB (P.ca (P.call n)) f.body { nx := fun _ h' => dq (fun d _ => d = .bl true) .non h', rt := dq (fun d _ => d = .bl true), bk := fun _ _ => False, ct := fun _ _ => False, ex := fun c _ h' => dx (fun _ _ => False) c h' } ([ns].map some ++ List.replicate (f.N.length - [ns].length) none) (fun _ => none)
      | none => False)
  rw [e1]
  dsimp only
  refine ⟨by rw [e3]; rfl, ?_⟩
  rw [e2, denB_cons', e4]
  show P.call n 8 [ns] (fun _ => none) (fun d h1 => denB (P.ca (P.call n)) b _ (some ns :: some d :: List.replicate nn none) h1) _
  refine (run_ok P n).call (h := hE) (fun _ _ z => nomatch z) ?_
  show PG (P.run n 8 [ns] hE) _ _ _ _
  rw [h8]
  rintro h1' fr d ⟨p, rfl, hp, _⟩
  have s : Sub (hup hE p (.dic kvs)) h1' := fun a m z => by
    by_cases e : a = p
    · subst e; rw [hup_same] at z; rw [← z]; exact hp
    · rw [hup_ne e] at z; cases z
  have R := start_rel s (nn + 2) [ns, .ref p]
  refine (snd_evB (run_ok P n) b).run R ?_
  obtain ⟨h1, e⟩ := hr p
  have z : evB (P.cvn n) b (startE (nn + 2) [ns, .ref p]) (hup hE p (.dic kvs)) = evB (P.cvn n) b (some (.v ns) :: some (.v (.ref p)) :: List.replicate nn none) (hup hE p (.dic kvs)) := rfl
  rw [z]
  cases w : evB (P.cvn n) b (some (.v ns) :: some (.v (.ref p)) :: List.replicate nn none) (hup hE p (.dic kvs)) with
  | nx σ h => rw [w] at e; cases e
  | rt x h =>
    rw [w] at e
    injection e with e1 e2
    exact fun h2' d' R => ⟨_, fun _ _ z => z, by
      have := R.x
      rw [e1] at this
      exact this⟩
  | bk _ _ => rw [w] at e; cases e
  | ct _ _ => rw [w] at e; cases e
  | ex _ _ _ => rw [w] at e; cases e
  | no => rw [w] at e; cases e
end Nd
/-! Ev9: rules to run with. -/
namespace Nd
open PySem PySem.Spec PyProof.Rows L2
section
variable {C : Cv} {σ : Sv} {h : HD} {a b c e lo hi o : E} {es vs ifs : Es} {i f : Nat} {d : D} {x : PySem.Str} {n : String} {op o1 o2 : CmpOp} {p : Operator} {ks : List Key} {bi : BI} {bl : BL} {m : BM} {k : ItK} {tg : Tg} {own : List Nat}
theorem ev_var_v : (ev C (.var i)).v σ h = R.op (slotE (σ[i]?).join) h := rfl
theorem ev_var_t : (ev C (.var i)).t σ h = ((ev C (.var i)).v σ h).bind fun x h1 => R.op (truE x.r) h1 := rfl
theorem ev_var_i : (ev C (.var i)).i σ h = ((ev C (.var i)).v σ h).bind fun x h1 => R.op (itX x) h1 := rfl
theorem ev_cst_v : (ev C (.cst d)).v σ h = .ok (.v d) h := rfl
theorem ev_cst_t : (ev C (.cst d)).t σ h = ((ev C (.cst d)).v σ h).bind fun x h1 => R.op (truE x.r) h1 := rfl
theorem ev_cst_i : (ev C (.cst d)).i σ h = ((ev C (.cst d)).v σ h).bind fun x h1 => R.op (itX x) h1 := rfl
theorem ev_gl_v : (ev C (.gl x d)).v σ h = .ok (.v d) h := rfl
theorem ev_gl_t : (ev C (.gl x d)).t σ h = ((ev C (.gl x d)).v σ h).bind fun x h1 => R.op (truE x.r) h1 := rfl
theorem ev_gl_i : (ev C (.gl x d)).i σ h = ((ev C (.gl x d)).v σ h).bind fun x h1 => R.op (itX x) h1 := rfl
theorem ev_ty_v : (ev C (.ty n)).v σ h = .ok (.v (.ty n)) h := rfl
theorem ev_ty_t : (ev C (.ty n)).t σ h = ((ev C (.ty n)).v σ h).bind fun x h1 => R.op (truE x.r) h1 := rfl
theorem ev_ty_i : (ev C (.ty n)).i σ h = ((ev C (.ty n)).v σ h).bind fun x h1 => R.op (itX x) h1 := rfl
theorem ev_tup_v : (ev C (.tup es)).v σ h = ((evs C es).a σ h).bind fun xs h1 => R.op ((xds xs).bind fun ds => if ds.length ≤ sizeLine then some (.v (.tup ds)) else none) h1 := rfl
theorem ev_tup_t : (ev C (.tup es)).t σ h = ((ev C (.tup es)).v σ h).bind fun x h1 => R.op (truE x.r) h1 := rfl
theorem ev_tup_i : (ev C (.tup es)).i σ h = ((ev C (.tup es)).v σ h).bind fun x h1 => R.op (itX x) h1 := rfl
theorem ev_lst_v : (ev C (.lst es)).v σ h = ((evs C es).a σ h).bind fun xs h1 => R.op ((xds xs).bind fun ds => if ds.length ≤ sizeLine then some (.nl ds) else none) h1 := rfl
theorem ev_lst_t : (ev C (.lst es)).t σ h = ((ev C (.lst es)).v σ h).bind fun x h1 => R.op (truE x.r) h1 := rfl
theorem ev_lst_i : (ev C (.lst es)).i σ h = ((ev C (.lst es)).v σ h).bind fun x h1 => R.op (itX x) h1 := rfl
theorem ev_dic_v : (ev C (.dic ks vs)).v σ h = ((evs C vs).a σ h).bind fun xs h1 => R.op ((xds xs).bind fun ds => if ks.length = ds.length then some (.nd (ks.zip ds)) else none) h1 := rfl
theorem ev_dic_t : (ev C (.dic ks vs)).t σ h = ((ev C (.dic ks vs)).v σ h).bind fun x h1 => R.op (truE x.r) h1 := rfl
theorem ev_dic_i : (ev C (.dic ks vs)).i σ h = ((ev C (.dic ks vs)).v σ h).bind fun x h1 => R.op (itX x) h1 := rfl
theorem ev_bin_v : (ev C (.bin p a b)).v σ h = ((ev C a).v σ h).bind fun x h1 => ((ev C b).v σ h1).bind fun y h2 => R.op (opE p x y) h2 := rfl
theorem ev_bin_t : (ev C (.bin p a b)).t σ h = ((ev C (.bin p a b)).v σ h).bind fun x h1 => R.op (truE x.r) h1 := rfl
theorem ev_bin_i : (ev C (.bin p a b)).i σ h = ((ev C (.bin p a b)).v σ h).bind fun x h1 => R.op (itX x) h1 := rfl
theorem ev_neg_v : (ev C (.neg a)).v σ h = ((ev C a).v σ h).bind fun x h1 => R.op ((negE x.r).map .v) h1 := rfl
theorem ev_neg_t : (ev C (.neg a)).t σ h = ((ev C (.neg a)).v σ h).bind fun x h1 => R.op (truE x.r) h1 := rfl
theorem ev_neg_i : (ev C (.neg a)).i σ h = ((ev C (.neg a)).v σ h).bind fun x h1 => R.op (itX x) h1 := rfl
theorem ev_cmp_t : (ev C (.cmp op a b)).t σ h = ((ev C a).v σ h).bind fun x h1 => ((ev C b).v σ h1).bind fun y h2 => R.op (cmE op x.r y.r) h2 := rfl
theorem ev_cmp_v : (ev C (.cmp op a b)).v σ h = ((ev C (.cmp op a b)).t σ h).bind fun b h1 => .ok (.v (.bl b)) h1 := rfl
theorem ev_chn_t : (ev C (.chn o1 o2 a b c)).t σ h = ((ev C a).v σ h).bind fun x h1 => ((ev C b).v σ h1).bind fun y h2 => (R.op (cmE o1 x.r y.r) h2).bind fun k h3 => if k = true then ((ev C c).v σ h3).bind fun w h4 => R.op (cmE o2 y.r w.r) h4 else .ok false h3 := rfl
theorem ev_chn_v : (ev C (.chn o1 o2 a b c)).v σ h = ((ev C (.chn o1 o2 a b c)).t σ h).bind fun b h1 => .ok (.v (.bl b)) h1 := rfl
theorem ev_nt_t : (ev C (.nt a)).t σ h = ((ev C a).t σ h).bind fun b h1 => .ok (!b) h1 := rfl
theorem ev_nt_v : (ev C (.nt a)).v σ h = ((ev C (.nt a)).t σ h).bind fun b h1 => .ok (.v (.bl b)) h1 := rfl
theorem ev_an_v : (ev C (.an (.cons e es))).v σ h = (evs C (.cons e es)).an.v σ h := rfl
theorem ev_an_t : (ev C (.an (.cons e es))).t σ h = (evs C (.cons e es)).an.t σ h := rfl
theorem ev_or_v : (ev C (.or (.cons e es))).v σ h = (evs C (.cons e es)).or.v σ h := rfl
theorem ev_or_t : (ev C (.or (.cons e es))).t σ h = (evs C (.cons e es)).or.t σ h := rfl
theorem ev_ife_v : (ev C (.ife c a b)).v σ h = ((ev C c).t σ h).bind fun k h1 => if k = true then (ev C a).v σ h1 else (ev C b).v σ h1 := rfl
theorem ev_ife_i : (ev C (.ife c a b)).i σ h = ((ev C (.ife c a b)).v σ h).bind fun x h1 => R.op (itX x) h1 := rfl
theorem ev_sub_v : (ev C (.sub a b)).v σ h = ((ev C a).v σ h).bind fun x h1 => ((ev C b).v σ h1).bind fun y h2 => R.op ((subE x.r y.r h2).map .v) h2 := rfl
theorem ev_sub_t : (ev C (.sub a b)).t σ h = ((ev C (.sub a b)).v σ h).bind fun x h1 => R.op (truE x.r) h1 := rfl
theorem ev_sub_i : (ev C (.sub a b)).i σ h = ((ev C (.sub a b)).v σ h).bind fun x h1 => R.op (itX x) h1 := rfl
theorem ev_sl0_v : (ev C (.sl0 a)).v σ h = ((ev C a).v σ h).bind fun x h1 => R.op (slcE x none none) h1 := rfl
theorem ev_sl0_t : (ev C (.sl0 a)).t σ h = ((ev C (.sl0 a)).v σ h).bind fun x h1 => R.op (truE x.r) h1 := rfl
theorem ev_sl0_i : (ev C (.sl0 a)).i σ h = ((ev C (.sl0 a)).v σ h).bind fun x h1 => R.op (itX x) h1 := rfl
theorem ev_slL_v : (ev C (.slL a lo)).v σ h = ((ev C a).v σ h).bind fun x h1 => ((ev C lo).v σ h1).bind fun y h2 => R.op ((asE y).bind fun l => slcE x (some l) none) h2 := rfl
theorem ev_slL_t : (ev C (.slL a lo)).t σ h = ((ev C (.slL a lo)).v σ h).bind fun x h1 => R.op (truE x.r) h1 := rfl
theorem ev_slL_i : (ev C (.slL a lo)).i σ h = ((ev C (.slL a lo)).v σ h).bind fun x h1 => R.op (itX x) h1 := rfl
theorem ev_slU_v : (ev C (.slU a hi)).v σ h = ((ev C a).v σ h).bind fun x h1 => ((ev C hi).v σ h1).bind fun y h2 => R.op ((asE y).bind fun l => slcE x none (some l)) h2 := rfl
theorem ev_slU_t : (ev C (.slU a hi)).t σ h = ((ev C (.slU a hi)).v σ h).bind fun x h1 => R.op (truE x.r) h1 := rfl
theorem ev_slU_i : (ev C (.slU a hi)).i σ h = ((ev C (.slU a hi)).v σ h).bind fun x h1 => R.op (itX x) h1 := rfl
theorem ev_slB_v : (ev C (.slB a lo hi)).v σ h = ((ev C a).v σ h).bind fun x h1 => ((ev C lo).v σ h1).bind fun y h2 => (R.op (asE y) h2).bind fun l h3 => ((ev C hi).v σ h3).bind fun z h4 => R.op ((asE z).bind fun u => slcE x (some l) (some u)) h4 := rfl
theorem ev_slB_t : (ev C (.slB a lo hi)).t σ h = ((ev C (.slB a lo hi)).v σ h).bind fun x h1 => R.op (truE x.r) h1 := rfl
theorem ev_slB_i : (ev C (.slB a lo hi)).i σ h = ((ev C (.slB a lo hi)).v σ h).bind fun x h1 => R.op (itX x) h1 := rfl
theorem ev_rvs_v : (ev C (.rvs a)).v σ h = ((ev C a).v σ h).bind fun x h1 => R.op (rvsE x) h1 := rfl
theorem ev_rvs_t : (ev C (.rvs a)).t σ h = ((ev C (.rvs a)).v σ h).bind fun x h1 => R.op (truE x.r) h1 := rfl
theorem ev_rvs_i : (ev C (.rvs a)).i σ h = ((ev C (.rvs a)).v σ h).bind fun x h1 => R.op (itX x) h1 := rfl
theorem ev_callv_v : (ev C (.callv i es)).v σ h = match slotE (σ[i]?).join with     | some (.v (.glo g)) => if C.fv g = true then ((evs C es).a σ h).bind fun xs h1 => (R.op (xds xs) h1).bind fun ds h2 => C.call g ds h2 else .no     | _ => .no := rfl
theorem ev_callv_t : (ev C (.callv i es)).t σ h = ((ev C (.callv i es)).v σ h).bind fun x h1 => R.op (truE x.r) h1 := rfl
theorem ev_callv_i : (ev C (.callv i es)).i σ h = ((ev C (.callv i es)).v σ h).bind fun x h1 => R.op (itX x) h1 := rfl
theorem ev_call_v : (ev C (.call f es)).v σ h = ((evs C es).a σ h).bind fun xs h1 => match xds xs with | some ds => C.call f ds h1 | none => (R.op (xbs xs) h1).bind fun bs h2 => C.callb f bs h2 := rfl
theorem ev_call_t : (ev C (.call f es)).t σ h = ((ev C (.call f es)).v σ h).bind fun x h1 => R.op (truE x.r) h1 := rfl
theorem ev_call_i : (ev C (.call f es)).i σ h = ((ev C (.call f es)).v σ h).bind fun x h1 => R.op (itX x) h1 := rfl
theorem ev_bi_v : (ev C (.bi bi es)).v σ h = ((evs C es).a σ h).bind fun xs h1 => R.op ((biE C.exm bi (xs.map XV.r)).map .v) h1 := rfl
theorem ev_bi_t : (ev C (.bi bi es)).t σ h = ((ev C (.bi bi es)).v σ h).bind fun x h1 => R.op (truE x.r) h1 := rfl
theorem ev_bi_i : (ev C (.bi bi es)).i σ h = ((ev C (.bi bi es)).v σ h).bind fun x h1 => R.op (itX x) h1 := rfl
theorem ev_bl_v : (ev C (.bl bl e)).v σ h = ((ev C e).i σ h).bind fun p h1 => R.op (blE bl p.1 p.2) h1 := rfl
theorem ev_bl_t : (ev C (.bl bl e)).t σ h = ((ev C (.bl bl e)).v σ h).bind fun x h1 => R.op (truE x.r) h1 := rfl
theorem ev_bl_i : (ev C (.bl bl e)).i σ h = ((ev C (.bl bl e)).v σ h).bind fun x h1 => R.op (itX x) h1 := rfl
theorem ev_bm_v : (ev C (.bm m o es)).v σ h = ((ev C o).v σ h).bind fun x h1 => (R.op (bmC m x.r) h1).bind fun _ h1 => ((evs C es).a σ h1).bind fun ys h2 => match ys with     | [.v y] => R.op ((bmE m x.r y).map .v) h2     | _ => .no := rfl
theorem ev_bm_t : (ev C (.bm m o es)).t σ h = ((ev C (.bm m o es)).v σ h).bind fun x h1 => R.op (truE x.r) h1 := rfl
theorem ev_bm_i : (ev C (.bm m o es)).i σ h = ((ev C (.bm m o es)).v σ h).bind fun x h1 => R.op (itX x) h1 := rfl
theorem ev_comp_v : (ev C (.comp k es tg own ifs e)).v σ h = (srcE k (evs C es) σ h).bind fun xs h1 => (cmpE tg own (evs C ifs).an.t (ev C e).v σ xs h1).bind fun ys h2 => .ok (.nl ys) h2 := rfl
theorem ev_comp_t : (ev C (.comp k es tg own ifs e)).t σ h = ((ev C (.comp k es tg own ifs e)).v σ h).bind fun x h1 => R.op (truE x.r) h1 := rfl
theorem ev_comp_i : (ev C (.comp k es tg own ifs e)).i σ h = ((ev C (.comp k es tg own ifs e)).v σ h).bind fun x h1 => R.op (itX x) h1 := rfl
theorem ev_frz_v : (ev C (.frz e)).v σ h = ((ev C e).v σ h).bind fun x h1 => R.op (frzE x) h1 := rfl
theorem ev_frz_t : (ev C (.frz e)).t σ h = ((ev C (.frz e)).v σ h).bind fun x h1 => R.op (truE x.r) h1 := rfl
theorem ev_frz_i : (ev C (.frz e)).i σ h = ((ev C (.frz e)).v σ h).bind fun x h1 => R.op (itX x) h1 := rfl
theorem ev_lset_v : (ev C (.lset false e)).v σ h = ((ev C e).i σ h).bind fun p h1 => R.op ((lsetE p.1 p.2).map .v) h1 := rfl
theorem ev_lset_t : (ev C (.lset false e)).t σ h = ((ev C (.lset false e)).v σ h).bind fun x h1 => R.op (truE x.r) h1 := rfl
theorem ev_lset_i : (ev C (.lset false e)).i σ h = ((ev C (.lset false e)).v σ h).bind fun x h1 => R.op (itX x) h1 := rfl
theorem ev_sset_v : (ev C (.lset true e)).v σ h = ((ev C e).i σ h).bind fun p h1 => R.op (ssetE p.1 p.2) h1 := rfl
theorem ev_sset_t : (ev C (.lset true e)).t σ h = ((ev C (.lset true e)).v σ h).bind fun x h1 => R.op (truE x.r) h1 := rfl
theorem ev_sset_i : (ev C (.lset true e)).i σ h = ((ev C (.lset true e)).v σ h).bind fun x h1 => R.op (itX x) h1 := rfl
theorem ev_joi_v : (ev C (.joi x e)).v σ h = ((ev C e).i σ h).bind fun p h1 => R.op ((joiE x p.1 p.2).map .v) h1 := rfl
theorem ev_joi_t : (ev C (.joi x e)).t σ h = ((ev C (.joi x e)).v σ h).bind fun x h1 => R.op (truE x.r) h1 := rfl
theorem ev_joi_i : (ev C (.joi x e)).i σ h = ((ev C (.joi x e)).v σ h).bind fun x h1 => R.op (itX x) h1 := rfl
theorem ev_itm_v : (ev C (.itm e)).v σ h = ((ev C e).v σ h).bind fun x h1 => R.op (itmE x) h1 := rfl
theorem ev_itm_t : (ev C (.itm e)).t σ h = ((ev C (.itm e)).v σ h).bind fun x h1 => R.op (truE x.r) h1 := rfl
theorem ev_itm_i : (ev C (.itm e)).i σ h = ((ev C (.itm e)).v σ h).bind fun x h1 => R.op (itX x) h1 := rfl
theorem evs_nil_a : (evs C .nil).a σ h = .ok [] h := rfl
theorem evs_nil_t : (evs C .nil).an.t σ h = .ok true h := rfl
theorem evs_1_a : (evs C (.cons e .nil)).a σ h = ((ev C e).v σ h).bind fun x h1 => .ok [x] h1 := rfl
theorem evs_1_anv : (evs C (.cons e .nil)).an.v σ h = (ev C e).v σ h := rfl
theorem evs_1_ant : (evs C (.cons e .nil)).an.t σ h = (ev C e).t σ h := rfl
theorem evs_1_orv : (evs C (.cons e .nil)).or.v σ h = (ev C e).v σ h := rfl
theorem evs_1_ort : (evs C (.cons e .nil)).or.t σ h = (ev C e).t σ h := rfl
theorem evs_1_i : (evs C (.cons e .nil)).i σ h = (ev C e).i σ h := rfl
theorem evs_2_a : (evs C (.cons e (.cons a es))).a σ h = ((ev C e).v σ h).bind fun x h1 => ((evs C (.cons a es)).a σ h1).bind fun xs h2 => .ok (x :: xs) h2 := rfl
theorem evs_2_anv : (evs C (.cons e (.cons a es))).an.v σ h = ((ev C e).v σ h).bind fun x h1 => (R.op (truE x.r) h1).bind fun b h2 => if b = true then (evs C (.cons a es)).an.v σ h2 else .ok x h2 := rfl
theorem evs_2_ant : (evs C (.cons e (.cons a es))).an.t σ h = ((ev C e).t σ h).bind fun b h1 => if b = true then (evs C (.cons a es)).an.t σ h1 else .ok false h1 := rfl
theorem evs_2_orv : (evs C (.cons e (.cons a es))).or.v σ h = ((ev C e).v σ h).bind fun x h1 => (R.op (truE x.r) h1).bind fun b h2 => if b = true then .ok x h2 else (evs C (.cons a es)).or.v σ h2 := rfl
theorem evs_2_ort : (evs C (.cons e (.cons a es))).or.t σ h = ((ev C e).t σ h).bind fun b h1 => if b = true then .ok true h1 else (evs C (.cons a es)).or.t σ h1 := rfl
end
section
variable {C : Cv} {σ : Sv} {h : HD} {a b c e o y : E} {es : Es} {tt u : B} {i j x k : Nat} {op : Operator} {kk : ItK} {tg : Tg}
theorem evS_pass : evS C (.pass) σ h = .nx σ h := rfl
theorem evS_doc : evS C (.doc) σ h = .nx σ h := rfl
theorem evS_brk : evS C (.brk) σ h = .bk σ h := rfl
theorem evS_cnt : evS C (.cnt) σ h = .ct σ h := rfl
theorem evS_ex : evS C (.ex e) σ h = match appV e with
    | some (i, e') => (match (σ[i]?).join with
      | some (.l xs) => ((ev C e').v σ h).st σ fun x h1 => appE σ i xs x h1
      | _ => .no)
    | none => match clrV e with
      | some i => (match (σ[i]?).join with
        | some (.l _) => if isD e = true then .no else .nx (σ.set i (some (.l []))) h
        | some (.m _) => if isD e = true then .nx (σ.set i (some (.m []))) h else .no
        | _ => .no)
      | none => ((ev C e).v σ h).st σ fun _ h1 => .nx σ h1 := rfl
theorem evS_ret : evS C (.ret e) σ h = match varE e with
    | some i => (match slotR (σ[i]?).join with
      | some x => .rt x h
      | none => .no)
    | none => ((ev C e).v σ h).st σ fun x h1 => match retE x with
      | some x => .rt x h1
      | none => .no := rfl
theorem evS_retN : evS C (.retN) σ h = .rt (.v .non) h := rfl
theorem evS_set : evS C (.set i e) σ h = match popV e with
    | some k => (match popE σ k with
      | some (d, σ1) => .nx (σ1.set i (some (.v d))) h
      | none => .no)
    | none => ((ev C e).v σ h).st σ fun x h1 => match newE x with
      | some s => .nx (σ.set i (some s)) h1
      | none => .no := rfl
theorem evS_setT : evS C (.setT tg e) σ h = match popV e with
    | some k => (match popE σ k with
      | some (d, σ1) => (match tgE tg d σ1 with
        | some σ2 => .nx σ2 h
        | none => .no)
      | none => .no)
    | none => ((ev C e).v σ h).st σ fun x h1 => match x.d.bind fun d => tgE tg d σ with
      | some σ2 => .nx σ2 h1
      | none => .no := rfl
theorem evS_par : evS C (.par i j a b) σ h = ((ev C a).v σ h).st σ fun x h1 => ((ev C b).v σ h1).st σ fun y h2 => match x, y with
    | .v d, .v e => .nx ((σ.set i (some (.v d))).set j (some (.v e))) h2
    | _, _ => .no := rfl
theorem evS_setS {i : E} : evS C (.setS o i e) σ h = ((ev C e).v σ h).st σ fun x h1 => match varE o with
    | some k => (match (σ[k]?).join with
      | some (.l xs) => ((ev C i).v σ h1).st σ fun z h2 => setL σ k xs x z h2
      | some (.m kvs) => ((ev C i).v σ h1).st σ fun z h2 => setM σ k kvs x z h2
      | some (.v d) => ((ev C i).v σ h1).st σ fun z h2 => setR σ d x z h2
      | _ => .no)
    | none => ((ev C o).v σ h1).st σ fun y h2 => ((ev C i).v σ h2).st σ fun z h3 => match y with
      | .v d => setR σ d x z h3
      | _ => .no := rfl
theorem evS_aug : evS C (.aug i op e) σ h = match (σ[i]?).join with
    | some (.v d) => ((ev C e).v σ h).st σ fun x h1 => match augE op d x.r with
      | some y => .nx (σ.set i (some (.v y))) h1
      | none => .no
    | some (.l xs) => ((ev C e).v σ h).st σ fun x h1 => extE σ i xs op x h1
    | _ => .no := rfl
theorem evS_ite {a b : B} : evS C (.ite c a b) σ h = ((ev C c).t σ h).st σ fun k h1 => if k = true then evB C a σ h1 else evB C b σ h1 := rfl
theorem evS_whl {b : B} : evS C (.whl c b) σ h = whlE (ev C c).t (evB C b) 1000000 σ h := rfl
theorem evS_for_ {k : ItK} {b : B} : evS C (.for_ k es tg b) σ h = match isV1 k es with
    | some i => (match (σ[i]?).join with
      | some (.l xs) => (forE tg (evB C b) xs (σ.set i (some (.k xs))) h).unlk i
      | some (.k xs) => forE tg (evB C b) xs σ h
      | some (.b xs) => forE tg (evB C b) xs σ h
      | some (.v d) => (match itE d with
        | some p => forE tg (evB C b) p.1 σ h
        | none => .no)
      | _ => .no)
    | none => (srcN k (evs C es) σ h).st σ fun xs h1 => forE tg (evB C b) xs σ h1 := rfl
theorem evS_raise {c : Nat} : evS C (.raise c) σ h = .ex c σ h := rfl
theorem evS_try_ {b : B} : evS C (.try_ b x i j) σ h = match evB C b σ h with
    | .ex c σ1 h1 => (match C.exm c x with
      | some true => .nx ((σ1.set j (some (.v (.exc c)))).set i none) h1
      | some false => .ex c σ1 h1
      | none => .no)
    | o => o := rfl
theorem evS_fz : evS C (.fz i) σ h = match (σ[i]?).join with
    | some (.v d) => if isRef d = true then .no else .nx (σ.set i (some (.v d))) h
    | some (.l xs) => .nx (σ.set i (some (.v (.kls xs)))) h
    | some (.m kvs) => .nx (σ.set i (some (.v (.kdc (kvs.map (·.1)) (kvs.map (·.2)))))) h
    | _ => .no := rfl
theorem evB_nil : evB C .nil σ h = .nx σ h := rfl
theorem evB_cons {s : S} {b : B} : evB C (.cons s b) σ h = (evS C s σ h).bind fun σ1 h1 => evB C b σ1 h1 := rfl
end
section
variable {α β : Type} {x y : R α} {f : α → HD → R β} {σ : Sv} {g : α → HD → O} {u w : O} {k : Sv → HD → O}
theorem bind_congr (e : x = y) : x.bind f = y.bind f := by rw [e]
theorem st_congr (e : x = y) : x.st σ g = y.st σ g := by rw [e]
theorem obind_congr (e : u = w) : u.bind k = w.bind k := by rw [e]
end
end Nd
/-! Ev10: what operators and built-ins give, by form. -/
namespace Nd
open PySem PySem.Spec PyProof.Rows L2
section
variable {x y : XV} {d e : D} {xs ys zs : List D} {kvs : List (Key × D)} {ks : List Key} {i j : Int} {s t : PySem.Str} {b c : Bool} {n : Nat} {ex : Nat → Nat → Option Bool} {ci : Int → Int → Bool} {cs : PySem.Str → PySem.Str → Bool} {cd : PyData → PyData → Bool} {h : HD} {lo hi : Option Int} {vs : Vs} {σ : Sv} {l : List Nat} {P : Pr} {cl : Nat → List D → HD → R XV}
theorem slotE_v : slotE (some (.v d)) = some (.v d) := rfl
theorem slotE_l : slotE (some (.l xs)) = some (.br xs) := rfl
theorem slotE_m : slotE (some (.m kvs)) = some (.bd kvs) := rfl
theorem slotE_k : slotE (some (.k xs)) = some (.br xs) := rfl
theorem r_v : XV.r (.v d) = d := rfl
theorem r_nl : XV.r (.nl xs) = .kls xs := rfl
theorem r_br : XV.r (.br xs) = .kls xs := rfl
theorem r_nd : XV.r (.nd kvs) = .kdc (kvs.map (·.1)) (kvs.map (·.2)) := rfl
theorem r_bd : XV.r (.bd kvs) = .kdc (kvs.map (·.1)) (kvs.map (·.2)) := rfl
theorem d_v2 : XV.d (.v d) = some d := rfl
theorem op_add : opE .Add x y = addE x.r y.r := rfl
theorem op_mul : opE .Mult x y = mulE x y := rfl
theorem op_sub : opE .Sub (.v (.int i)) (.v (.int j)) = some (.v (.int (i - j))) := rfl
theorem op_div : opE .FloorDiv (.v (.int i)) (.v (.int j)) = if 0 < j ∧ j < 2 ^ 64 then some (.v (.int (i / j))) else none := rfl
theorem op_mod : opE .Mod (.v (.int i)) (.v (.int j)) = if 0 < j then some (.v (.int (i % j))) else none := rfl
theorem op_pow : opE .Pow (.v (.int i)) (.v (.int j)) = if 0 ≤ j ∧ j ≤ 1000000 ∧ i.natAbs < 2 ^ 64 then some (.v (.int (i ^ j.toNat))) else none := rfl
theorem add_int2 : addE (.int i) (.int j) = some (.v (.int (i + j))) := rfl
theorem add_str2 : addE (.str s) (.str t) = if s.length + t.length ≤ sizeLine then some (.v (.str (s ++ t))) else none := rfl
theorem add_tup2 : addE (.tup xs) (.tup ys) = if xs.length + ys.length ≤ sizeLine then some (.v (.tup (xs ++ ys))) else none := rfl
theorem add_kls2 : addE (.kls xs) (.kls ys) = if xs.length + ys.length ≤ sizeLine then some (.nl (xs ++ ys)) else none := rfl
theorem mul_int2 : mulE (.v (.int i)) (.v (.int j)) = if (-(2 ^ 64) < i ∧ i < 2 ^ 64) ∨ (-(2 ^ 64) < j ∧ j < 2 ^ 64) then some (.v (.int (i * j))) else none := rfl
theorem mul_tup2 : mulE (.v (.tup xs)) (.v (.int i)) = if xs ≠ [] ∧ 1 ≤ i ∧ i ≤ 1000 ∧ xs.length ≤ 1000 then some (.v (.tup (List.replicate i.toNat xs).flatten)) else none := rfl
theorem cm_Eq : cmE .Eq d e = eqE d e := rfl
theorem cm_NotEq : cmE .NotEq d e = (eqE d e).map (!·) := rfl
theorem cm_Lt : cmE .Lt d e = ordE (fun i j => decide (i < j)) strLt PySem.W.dataLt d e := rfl
theorem cm_Gt : cmE .Gt d e = ordE (fun i j => decide (j < i)) (fun s t => strLt t s) (fun p q => PySem.W.dataLt q p) d e := rfl
theorem cm_LtE : cmE .LtE d e = ordE (fun i j => decide (i ≤ j)) (fun s t => !strLt t s) (fun p q => !PySem.W.dataLt q p) d e := rfl
theorem cm_GtE : cmE .GtE d e = ordE (fun i j => decide (j ≤ i)) (fun s t => !strLt s t) (fun p q => !PySem.W.dataLt p q) d e := rfl
theorem cm_Is : cmE .Is d e = isE d e := rfl
theorem cm_IsNot : cmE .IsNot d e = (isE d e).map (!·) := rfl
theorem cm_In : cmE .In d e = inE d e := rfl
theorem cm_NotIn : cmE .NotIn d e = (inE d e).map (!·) := rfl
theorem eq_int2 : eqE (.int i) (.int j) = some (decide (i = j)) := rfl
theorem eq_str2 : eqE (.str s) (.str t) = some (decide (s = t)) := rfl
theorem eq_bl2 : eqE (.bl b) (.bl c) = some (decide (b = c)) := rfl
theorem ord_int2 : ordE ci cs cd (.int i) (.int j) = some (ci i j) := rfl
theorem ord_str2 : ordE ci cs cd (.str s) (.str t) = some (cs s t) := rfl
theorem isE_non : isE d .non = some (isNon d) := rfl
theorem isE_bl : isE (.bl b) (.bl c) = some (decide (b = c)) := rfl
theorem isNon_non : isNon .non = true := rfl
theorem isNon_int : isNon (.int i) = false := rfl
theorem isNon_bl : isNon (.bl b) = false := rfl
theorem isNon_str : isNon (.str s) = false := rfl
theorem isNon_tup : isNon (.tup xs) = false := rfl
theorem isNon_kls : isNon (.kls xs) = false := rfl
theorem isNon_kdc : isNon (.kdc ks xs) = false := rfl
theorem isNon_exc : isNon (.exc n) = false := rfl
theorem ty_non2 : tyE .non = some "NoneType" := rfl
theorem isi_non_int2 : isiE ex .non (.ty "int") = some (.bl false) := rfl
theorem isi_non_bool2 : isiE ex .non (.ty "bool") = some (.bl false) := rfl
theorem isi_non_str2 : isiE ex .non (.ty "str") = some (.bl false) := rfl
theorem isi_non_tuple2 : isiE ex .non (.ty "tuple") = some (.bl false) := rfl
theorem isi_non_list2 : isiE ex .non (.ty "list") = some (.bl false) := rfl
theorem isi_non_dict2 : isiE ex .non (.ty "dict") = some (.bl false) := rfl
theorem ty_int2 : tyE (.int i) = some "int" := rfl
theorem isi_int_int2 : isiE ex (.int i) (.ty "int") = some (.bl true) := rfl
theorem isi_int_bool2 : isiE ex (.int i) (.ty "bool") = some (.bl false) := rfl
theorem isi_int_str2 : isiE ex (.int i) (.ty "str") = some (.bl false) := rfl
theorem isi_int_tuple2 : isiE ex (.int i) (.ty "tuple") = some (.bl false) := rfl
theorem isi_int_list2 : isiE ex (.int i) (.ty "list") = some (.bl false) := rfl
theorem isi_int_dict2 : isiE ex (.int i) (.ty "dict") = some (.bl false) := rfl
theorem ty_bl2 : tyE (.bl b) = some "bool" := rfl
theorem isi_bl_int2 : isiE ex (.bl b) (.ty "int") = some (.bl true) := rfl
theorem isi_bl_bool2 : isiE ex (.bl b) (.ty "bool") = some (.bl true) := rfl
theorem isi_bl_str2 : isiE ex (.bl b) (.ty "str") = some (.bl false) := rfl
theorem isi_bl_tuple2 : isiE ex (.bl b) (.ty "tuple") = some (.bl false) := rfl
theorem isi_bl_list2 : isiE ex (.bl b) (.ty "list") = some (.bl false) := rfl
theorem isi_bl_dict2 : isiE ex (.bl b) (.ty "dict") = some (.bl false) := rfl
theorem ty_str2 : tyE (.str s) = some "str" := rfl
theorem isi_str_int2 : isiE ex (.str s) (.ty "int") = some (.bl false) := rfl
theorem isi_str_bool2 : isiE ex (.str s) (.ty "bool") = some (.bl false) := rfl
theorem isi_str_str2 : isiE ex (.str s) (.ty "str") = some (.bl true) := rfl
theorem isi_str_tuple2 : isiE ex (.str s) (.ty "tuple") = some (.bl false) := rfl
theorem isi_str_list2 : isiE ex (.str s) (.ty "list") = some (.bl false) := rfl
theorem isi_str_dict2 : isiE ex (.str s) (.ty "dict") = some (.bl false) := rfl
theorem ty_tup2 : tyE (.tup xs) = some "tuple" := rfl
theorem isi_tup_int2 : isiE ex (.tup xs) (.ty "int") = some (.bl false) := rfl
theorem isi_tup_bool2 : isiE ex (.tup xs) (.ty "bool") = some (.bl false) := rfl
theorem isi_tup_str2 : isiE ex (.tup xs) (.ty "str") = some (.bl false) := rfl
theorem isi_tup_tuple2 : isiE ex (.tup xs) (.ty "tuple") = some (.bl true) := rfl
theorem isi_tup_list2 : isiE ex (.tup xs) (.ty "list") = some (.bl false) := rfl
theorem isi_tup_dict2 : isiE ex (.tup xs) (.ty "dict") = some (.bl false) := rfl
theorem ty_kls2 : tyE (.kls xs) = some "list" := rfl
theorem isi_kls_int2 : isiE ex (.kls xs) (.ty "int") = some (.bl false) := rfl
theorem isi_kls_bool2 : isiE ex (.kls xs) (.ty "bool") = some (.bl false) := rfl
theorem isi_kls_str2 : isiE ex (.kls xs) (.ty "str") = some (.bl false) := rfl
theorem isi_kls_tuple2 : isiE ex (.kls xs) (.ty "tuple") = some (.bl false) := rfl
theorem isi_kls_list2 : isiE ex (.kls xs) (.ty "list") = some (.bl true) := rfl
theorem isi_kls_dict2 : isiE ex (.kls xs) (.ty "dict") = some (.bl false) := rfl
theorem ty_kdc2 : tyE (.kdc ks xs) = some "dict" := rfl
theorem isi_kdc_int2 : isiE ex (.kdc ks xs) (.ty "int") = some (.bl false) := rfl
theorem isi_kdc_bool2 : isiE ex (.kdc ks xs) (.ty "bool") = some (.bl false) := rfl
theorem isi_kdc_str2 : isiE ex (.kdc ks xs) (.ty "str") = some (.bl false) := rfl
theorem isi_kdc_tuple2 : isiE ex (.kdc ks xs) (.ty "tuple") = some (.bl false) := rfl
theorem isi_kdc_list2 : isiE ex (.kdc ks xs) (.ty "list") = some (.bl false) := rfl
theorem isi_kdc_dict2 : isiE ex (.kdc ks xs) (.ty "dict") = some (.bl true) := rfl
theorem isi_excV : isiE ex (.exc n) (.ty "ValueError") = (ex n 1000000).map .bl := rfl
theorem len_str2 : lenE (.str s) = some (.int s.length) := rfl
theorem len_tup2 : lenE (.tup xs) = some (.int xs.length) := rfl
theorem len_kls2 : lenE (.kls xs) = some (.int xs.length) := rfl
theorem len_kdc2 : lenE (.kdc ks xs) = some (.int xs.length) := rfl
theorem neg_int2 : negE (.int i) = some (.int (-i)) := rfl
theorem in_str2 : inE (.str s) (.str t) = some (!(Builtin.Str.occurrences t s 0 t.length 1).isEmpty) := rfl
theorem in_tup2 : inE d (.tup xs) = inSeq d xs false := rfl
theorem in_kls2 : inE d (.kls xs) = inSeq d xs true := rfl
theorem sub_tup2 : subE (.tup xs) (.int i) h = atD xs i := rfl
theorem sub_str2 : subE (.str s) (.int i) h = atD (chars s) i := rfl
theorem sub_kls2 : subE (.kls xs) (.int i) h = atD xs i := rfl
theorem sub_kdc2 : subE (.kdc ks xs) d h = (keyD d).bind fun k => lookK (ks.zip xs) k := rfl
theorem key_int2 : keyD (.int i) = some (.inl i) := rfl
theorem key_str2 : keyD (.str s) = some (.inr s) := rfl
theorem slc_vtup : slcE (.v (.tup xs)) lo hi = some (.v (.tup (cutD xs lo hi))) := rfl
theorem slc_vstr : slcE (.v (.str s)) lo hi = some (.v (.str (cutS s lo hi))) := rfl
theorem slc_vkls : slcE (.v (.kls xs)) lo hi = some (.nl (cutD xs lo hi)) := rfl
theorem slc_nl : slcE (.nl xs) lo hi = some (.nl (cutD xs lo hi)) := rfl
theorem slc_br : slcE (.br xs) lo hi = some (.nl (cutD xs lo hi)) := rfl
theorem rvs_v : rvsE (.v (.kls xs)) = some (.nl xs.reverse) := rfl
theorem rvs_nl : rvsE (.nl xs) = some (.nl xs.reverse) := rfl
theorem rvs_br : rvsE (.br xs) = some (.nl xs.reverse) := rfl
theorem asE_int : asE (.v (.int i)) = some i := rfl
theorem bi_isi2 : biE ex .isi [d, e] = isiE ex d e := rfl
theorem bi_len2 : biE ex .len [d] = lenE d := rfl
theorem bi_abs2 : biE ex .abs [.int i] = some (.int (if i < 0 then -i else i)) := rfl
theorem bi_int2 : biE ex .int1 [.int i] = some (.int i) := rfl
theorem bi_intb2 : biE ex .int1 [.bl b] = some (.int (if b then 1 else 0)) := rfl
theorem bi_max22 : biE ex .max2 [.int i, .int j] = some (.int (if j > i then j else i)) := rfl
theorem bi_min22 : biE ex .min2 [.int i, .int j] = some (.int (if j < i then j else i)) := rfl
theorem tru_non2 : truE .non = some false := rfl
theorem tru_bl2 : truE (.bl b) = some b := rfl
theorem tru_int2 : truE (.int i) = some (i != 0) := rfl
theorem tru_str2 : truE (.str s) = some ((s.length : Int) != 0) := rfl
theorem tru_tup2 : truE (.tup xs) = some (!xs.isEmpty) := rfl
theorem tru_kls2 : truE (.kls xs) = some (!xs.isEmpty) := rfl
theorem itX_tup : itX (.v (.tup xs)) = some (xs, .T) := rfl
theorem itX_kls : itX (.v (.kls xs)) = some (xs, .L) := rfl
theorem itX_str : itX (.v (.str s)) = some (chars s, .S) := rfl
theorem itX_kdc : itX (.v (.kdc ks xs)) = some (ks.map kD, .K) := rfl
theorem itX_nl : itX (.nl xs) = some (xs, .L) := rfl
theorem itX_br : itX (.br xs) = some (xs, .B) := rfl
theorem itE_tup : itE (.tup xs) = some (xs, .T) := rfl
theorem itE_kls : itE (.kls xs) = some (xs, .L) := rfl
theorem itE_str : itE (.str s) = some (chars s, .S) := rfl
theorem itE_kdc : itE (.kdc ks xs) = some (ks.map kD, .K) := rfl
theorem bl_tuple_L : blE .tuple xs .L = some (.v (.tup xs)) := rfl
theorem bl_tuple_T : blE .tuple xs .T = some (.v (.tup xs)) := rfl
theorem bl_tuple_B : blE .tuple xs .B = some (.v (.tup xs)) := rfl
theorem bl_list_L : blE .list xs .L = some (.nl xs) := rfl
theorem bl_list_T : blE .list xs .T = some (.nl xs) := rfl
theorem bl_list_B : blE .list xs .B = some (.nl xs) := rfl
theorem bl_list_K : blE .list xs .K = some (.nl xs) := rfl
theorem bl_sum_L : blE .sum xs .L = (intsE xs).map fun ns => .v (.int ns.sum) := rfl
theorem bl_max_L : blE .max xs .L = (match intsE xs with | some ns => if ns = [] then none else some (.v (.int (hiZ ns))) | none => maxD xs) := rfl
theorem bl_min_L : blE .min xs .L = (match intsE xs with | some ns => if ns = [] then none else some (.v (.int (loZ ns))) | none => minD xs) := rfl
theorem bl_all_L : blE .all xs .L = (blsE xs).map fun ns => .v (.bl (ns.all id)) := rfl
theorem bl_any_L : blE .any xs .L = (blsE xs).map fun ns => .v (.bl (ns.any id)) := rfl
theorem bl_sorted_L : blE .sorted xs .L = if (pyBs xs && srtB (toPs xs)) = true then some (.nl (sortD xs (toPs xs))) else none := rfl
theorem bl_dict_L : blE .dict xs .L = (prsE xs).map fun kvs => .nd (mergeD kvs) := rfl
theorem lset_L : lsetE xs .L = (match intsE xs with | some ns => if ns.length + 1 < PySem.scanBound then some (.int (dedupZ ns).length) else none | none => lset2 xs) := rfl
theorem sset_L : ssetE xs .L = (strsE xs).bind fun ns => if ns.length + 1 < PySem.scanBound then some (.nl ((sortT ns).map .str)) else none := rfl
theorem bl_sum_B : blE .sum xs .B = (intsE xs).map fun ns => .v (.int ns.sum) := rfl
theorem bl_max_B : blE .max xs .B = (match intsE xs with | some ns => if ns = [] then none else some (.v (.int (hiZ ns))) | none => maxD xs) := rfl
theorem bl_min_B : blE .min xs .B = (match intsE xs with | some ns => if ns = [] then none else some (.v (.int (loZ ns))) | none => minD xs) := rfl
theorem bl_all_B : blE .all xs .B = (blsE xs).map fun ns => .v (.bl (ns.all id)) := rfl
theorem bl_any_B : blE .any xs .B = (blsE xs).map fun ns => .v (.bl (ns.any id)) := rfl
theorem bl_sorted_B : blE .sorted xs .B = if (pyBs xs && srtB (toPs xs)) = true then some (.nl (sortD xs (toPs xs))) else none := rfl
theorem bl_dict_B : blE .dict xs .B = (prsE xs).map fun kvs => .nd (mergeD kvs) := rfl
theorem lset_B : lsetE xs .B = (match intsE xs with | some ns => if ns.length + 1 < PySem.scanBound then some (.int (dedupZ ns).length) else none | none => lset2 xs) := rfl
theorem sset_B : ssetE xs .B = (strsE xs).bind fun ns => if ns.length + 1 < PySem.scanBound then some (.nl ((sortT ns).map .str)) else none := rfl
theorem joi_L : joiE s xs .L = (strsE xs).bind fun ys => if (ys.map (·.length)).sum + ys.length * s.length ≤ 16777216 ∧ (Txt.join s ys).length ≤ sizeLine ∧ PyData.strOk (Txt.join s ys) = true then some (.str (Txt.join s ys)) else none := rfl
theorem itm_nd : itmE (.nd kvs) = some (.nl (kvs.map fun p => .tup [kD p.1, p.2])) := rfl
theorem itm_bd : itmE (.bd kvs) = some (.nl (kvs.map fun p => .tup [kD p.1, p.2])) := rfl
theorem itm_kdc : itmE (.v (.kdc ks xs)) = some (.nl ((ks.zip xs).map fun p => .tup [kD p.1, p.2])) := rfl
theorem srcE_seq : srcE .seq vs σ h = (vs.i σ h).bind fun p h1 => .ok p.1 h1 := rfl
theorem srcN_seq : srcN .seq vs σ h = (vs.i σ h).bind fun p h1 => if p.2.b = true then .no else .ok p.1 h1 := rfl
theorem srcE_rng1 : srcE .rng1 vs σ h = (vs.a σ h).bind fun xs h1 => R.op (srcX .rng1 xs) h1 := rfl
theorem srcN_rng1 : srcN .rng1 vs σ h = (vs.a σ h).bind fun xs h1 => if noBr xs = true then R.op (srcX .rng1 xs) h1 else .no := rfl
theorem srcE_rng2 : srcE .rng2 vs σ h = (vs.a σ h).bind fun xs h1 => R.op (srcX .rng2 xs) h1 := rfl
theorem srcN_rng2 : srcN .rng2 vs σ h = (vs.a σ h).bind fun xs h1 => if noBr xs = true then R.op (srcX .rng2 xs) h1 else .no := rfl
theorem srcE_rng3 : srcE .rng3 vs σ h = (vs.a σ h).bind fun xs h1 => R.op (srcX .rng3 xs) h1 := rfl
theorem srcN_rng3 : srcN .rng3 vs σ h = (vs.a σ h).bind fun xs h1 => if noBr xs = true then R.op (srcX .rng3 xs) h1 else .no := rfl
theorem srcE_zip2 : srcE .zip2 vs σ h = (vs.a σ h).bind fun xs h1 => R.op (srcX .zip2 xs) h1 := rfl
theorem srcN_zip2 : srcN .zip2 vs σ h = (vs.a σ h).bind fun xs h1 => if noBr xs = true then R.op (srcX .zip2 xs) h1 else .no := rfl
theorem srcE_zip3 : srcE .zip3 vs σ h = (vs.a σ h).bind fun xs h1 => R.op (srcX .zip3 xs) h1 := rfl
theorem srcN_zip3 : srcN .zip3 vs σ h = (vs.a σ h).bind fun xs h1 => if noBr xs = true then R.op (srcX .zip3 xs) h1 else .no := rfl
theorem srcE_zipS : srcE .zipS vs σ h = (vs.a σ h).bind fun xs h1 => R.op (srcX .zipS xs) h1 := rfl
theorem srcN_zipS : srcN .zipS vs σ h = (vs.a σ h).bind fun xs h1 => if noBr xs = true then R.op (srcX .zipS xs) h1 else .no := rfl
theorem srcE_enumT : srcE .enumT vs σ h = (vs.a σ h).bind fun xs h1 => R.op (srcX .enumT xs) h1 := rfl
theorem srcN_enumT : srcN .enumT vs σ h = (vs.a σ h).bind fun xs h1 => if noBr xs = true then R.op (srcX .enumT xs) h1 else .no := rfl
theorem srcE_enum : srcE .enum vs σ h = (vs.a σ h).bind fun xs h1 => R.op (srcX .enum xs) h1 := rfl
theorem srcN_enum : srcN .enum vs σ h = (vs.a σ h).bind fun xs h1 => if noBr xs = true then R.op (srcX .enum xs) h1 else .no := rfl
theorem srcE_rev : srcE .rev vs σ h = (vs.a σ h).bind fun xs h1 => R.op (srcX .rev xs) h1 := rfl
theorem srcN_rev : srcN .rev vs σ h = (vs.a σ h).bind fun xs h1 => if noBr xs = true then R.op (srcX .rev xs) h1 else .no := rfl
theorem srcE_items : srcE .items vs σ h = (vs.a σ h).bind fun xs h1 => R.op (srcX .items xs) h1 := rfl
theorem srcN_items : srcN .items vs σ h = (vs.a σ h).bind fun xs h1 => if noBr xs = true then R.op (srcX .items xs) h1 else .no := rfl
theorem srcE_values : srcE .values vs σ h = (vs.a σ h).bind fun xs h1 => R.op (srcX .values xs) h1 := rfl
theorem srcN_values : srcN .values vs σ h = (vs.a σ h).bind fun xs h1 => if noBr xs = true then R.op (srcX .values xs) h1 else .no := rfl
theorem src_rng1 : srcX .rng1 [.v (.int i)] = if -(2 ^ 62) ≤ i ∧ i ≤ 16777216 then some (rngL 0 i.toNat) else none := rfl
theorem src_rng2 : srcX .rng2 [.v (.int i), .v (.int j)] = if (-(2 ^ 62) ≤ i ∧ i < 2 ^ 62 ∧ -(2 ^ 62) ≤ j ∧ j < 2 ^ 62) ∧ j - i ≤ 16777216 then some (rngL i (j - i).toNat) else none := rfl
theorem src_zip2T : srcX .zip2 [.v (.tup xs), .v (.tup ys)] = some (zipL xs ys) := rfl
theorem src_zip2K : srcX .zip2 [.v (.kls xs), .v (.kls ys)] = some (zipL xs ys) := rfl
theorem src_zip3 : srcX .zip3 [.v (.tup xs), .v (.tup ys), .v (.tup zs)] = some (zipL3 xs ys zs) := rfl
theorem src_zipS : srcX .zipS [.v (.str s), .v (.tup ys)] = some (zipL (chars s) ys) := rfl
theorem src_enumT : srcX .enumT [.v (.tup xs)] = some (enumL xs) := rfl
theorem src_enum : srcX .enum [.v (.kls xs)] = some (enumL xs) := rfl
theorem src_revT : srcX .rev [.v (.tup xs)] = some xs.reverse := rfl
theorem src_rev : srcX .rev [.v (.kls xs)] = some xs.reverse := rfl
theorem src_items : srcX .items [.v (.kdc ks xs)] = some ((ks.zip xs).map fun p => .tup [kD p.1, p.2]) := rfl
theorem src_values : srcX .values [.v (.kdc ks xs)] = some xs := rfl
theorem frz_non : frzE (.v .non) = some (.v .non) := rfl
theorem frz_int : frzE (.v (.int i)) = some (.v (.int i)) := rfl
theorem frz_bl : frzE (.v (.bl b)) = some (.v (.bl b)) := rfl
theorem frz_str : frzE (.v (.str s)) = some (.v (.str s)) := rfl
theorem frz_tup : frzE (.v (.tup xs)) = some (.v (.tup xs)) := rfl
theorem frz_kls : frzE (.v (.kls xs)) = some (.v (.kls xs)) := rfl
theorem frz_kdc : frzE (.v (.kdc ks xs)) = some (.v (.kdc ks xs)) := rfl
theorem frz_glo : frzE (.v (.glo n)) = some (.v (.glo n)) := rfl
theorem frz_exc : frzE (.v (.exc n)) = some (.v (.exc n)) := rfl
theorem frz_nl : frzE (.nl xs) = some (.v (.kls xs)) := rfl
theorem frz_nd : frzE (.nd kvs) = some (.v (.kdc (kvs.map (·.1)) (kvs.map (·.2)))) := rfl
theorem new_v : newE (.v d) = some (.v d) := rfl
theorem new_nl : newE (.nl xs) = some (.l xs) := rfl
theorem new_nd : newE (.nd kvs) = some (.m kvs) := rfl
theorem retE_v : retE (.v d) = some (.v d) := rfl
theorem retX_v : retX (.v d) = .v d := rfl
theorem retE_nl : retE (.nl xs) = some (.nl xs) := rfl
theorem retX_nl : retX (.nl xs) = .nl xs := rfl
theorem retE_nd : retE (.nd kvs) = some (.nd kvs) := rfl
theorem retX_nd : retX (.nd kvs) = .nd kvs := rfl
theorem retX_br : retX (.br xs) = .nl xs := rfl
theorem retX_bd : retX (.bd kvs) = .nd kvs := rfl
theorem tg_nm : tgE (.nm n) d σ = some (σ.set n (some (.v d))) := rfl
theorem tg_tp : tgE (.tp l) (.tup xs) σ = if xs.length = l.length then some (setsE l xs σ) else none := rfl
theorem tg_ul : tgE (.ul l) (.kls xs) σ = if xs.length = l.length then some (setsE l xs σ) else none := rfl
theorem Gkb_L : Gk.b .L = false := rfl
theorem Gkb_T : Gk.b .T = false := rfl
theorem Gkb_S : Gk.b .S = false := rfl
theorem Gkb_K : Gk.b .K = false := rfl
theorem appE_v : appE σ n xs (.v d) h = if xs.length < sizeLine then .nx (σ.set n (some (.l (xs ++ [d])))) h else .no := rfl
theorem ext_nl : extE σ n xs .Add (.nl ys) h = if xs.length + ys.length ≤ sizeLine then .nx (σ.set n (some (.l (xs ++ ys)))) h else .no := rfl
theorem isRef_non : isRef .non = false := rfl
theorem isRef_int : isRef (.int i) = false := rfl
theorem isRef_bl : isRef (.bl b) = false := rfl
theorem isRef_str : isRef (.str s) = false := rfl
theorem isRef_tup : isRef (.tup xs) = false := rfl
theorem isRef_kls : isRef (.kls xs) = false := rfl
theorem isRef_kdc : isRef (.kdc ks xs) = false := rfl
theorem isRef_exc : isRef (.exc n) = false := rfl
theorem isRef_glo : isRef (.glo n) = false := rfl
theorem aug_int : augE .Add (.int i) (.int j) = some (.int (i + j)) := rfl
theorem aug_sub : augE .Sub (.int i) (.int j) = some (.int (i - j)) := rfl
theorem aug_str : augE .Add (.str s) (.str t) = if s.length + t.length ≤ sizeLine then some (.str (s ++ t)) else none := rfl
theorem noBr_v {zs : List XV} : noBr (.v d :: zs) = noBr zs := rfl
theorem noBr_nl {zs : List XV} : noBr (.nl xs :: zs) = noBr zs := rfl
theorem noBr_nd {zs : List XV} : noBr (.nd kvs :: zs) = noBr zs := rfl
theorem noBr_nil : noBr [] = true := rfl
theorem bmC_count : bmC .count (.kls xs) = some () := rfl
theorem bmC_index : bmC .index (.kls xs) = some () := rfl
theorem size_eq : sizeLine = 16777216 := by decide
theorem cvn_call : (Pr.cvn P n).call = P.run n := rfl
theorem cvn_callb : (Pr.cvn P n).callb = P.runB n := rfl
theorem cvn_exm : (Pr.cvn P n).exm = P.exm := rfl
theorem slotE_b : slotE (some (.b xs)) = some (.br xs) := rfl
theorem slotE_c : slotE (some (.c kvs)) = some (.bd kvs) := rfl
theorem slotR_v : slotR (some (.v d)) = some (.v d) := rfl
theorem slotR_l : slotR (some (.l xs)) = some (.br xs) := rfl
theorem slotR_m : slotR (some (.m kvs)) = some (.bd kvs) := rfl
theorem slotR_k : slotR (some (.k xs)) = some (.br xs) := rfl
theorem xds_br {zs : List XV} : xds (.br xs :: zs) = none := rfl
theorem xds_bd {zs : List XV} : xds (.bd kvs :: zs) = none := rfl
theorem xbs_nil : xbs [] = some [] := rfl
theorem xbs_v {zs : List XV} : xbs (.v d :: zs) = (xbs zs).map (.v d :: ·) := rfl
theorem xbs_br {zs : List XV} : xbs (.br xs :: zs) = (xbs zs).map (.l xs :: ·) := rfl
theorem xbs_bd {zs : List XV} : xbs (.bd kvs :: zs) = (xbs zs).map (.m kvs :: ·) := rfl
end
theorem isi_any {ex : Nat → Nat → Option Bool} {d : D} {t : String} (hd : tyE d = some t) {n : String} (hn : isTyN n = true) : isiE ex d (.ty n) = some (.bl (isiB t n)) := by
  cases d <;> first | (cases hd; simp only [isiE, tyE, Option.map_some]; rw [if_pos hn]) | (cases hd)
theorem sub_ref2 {h : HD} {a : Addr} {kvs : List (Key × D)} {x : PySem.Str} (e : h a = some (.dic kvs)) : subE (.ref a) (.str x) h = lookK kvs (.inr x) := by
  show (match h a with | some (.dic kvs) => (keyD (.str x)).bind fun k => lookK kvs k | _ => none) = _
  rw [e]; rfl
theorem setR_ref {σ : Sv} {h : HD} {a : Addr} {kvs : List (Key × D)} {x : PySem.Str} {d : D} (e : h a = some (.dic kvs)) (hl : kvs.length < sizeLine) : setR σ (.ref a) (.v d) (.v (.str x)) h = .nx σ (hup h a (.dic (putD kvs (.inr x) d))) := by
  show (match h a with | some (.dic kvs) => (match keyD (.str x) with | some kk => if kvs.length < sizeLine then O.nx σ (hup h a (.dic (putD kvs kk d))) else O.no | none => O.no) | _ => O.no) = _
  rw [e]
  show (if kvs.length < sizeLine then O.nx σ (hup h a (.dic (putD kvs (.inr x) d))) else O.no) = _
  rw [if_pos hl]
/-- a comprehension over things that are told one by one -/
theorem cmp_map {α : Type} {tg : Tg} {own : List Nat} {t : Sv → HD → R Bool} {e : Sv → HD → R XV} {σ : Sv} {h : HD} {f g : α → D} : ∀ {l : List α}, (∀ a ∈ l, ∃ σ2, tgE tg (f a) (wipeE σ own) = some σ2 ∧ t σ2 h = .ok true h ∧ e σ2 h = .ok (.v (g a)) h) → cmpE tg own t e σ (l.map f) h = .ok (l.map g) h
  | [], _ => rfl
  | a :: l, H => by
    obtain ⟨σ2, e1, e2, e3⟩ := H a List.mem_cons_self
    show (R.op (tgE tg (f a) (wipeE σ own)) h).bind _ = _
    rw [e1, R.op_some, R.bind_ok, e2]
    show ((if true = true then ((e σ2 h).d.nx.bind fun y h3 => (cmpE tg own t e σ (l.map f) h3).bind fun ys h4 => .ok (y :: ys) h4) else cmpE tg own t e σ (l.map f) h) : R (List D)) = _
    rw [if_pos rfl, e3]
    show (cmpE tg own t e σ (l.map f) h).bind _ = _
    rw [cmp_map fun b hb => H b (List.mem_cons_of_mem _ hb)]
    rfl
theorem cmp_filter {α : Type} {tg : Tg} {own : List Nat} {t : Sv → HD → R Bool} {e : Sv → HD → R XV} {σ : Sv} {h : HD} {f g : α → D} {p : α → Bool} : ∀ {l : List α}, (∀ a ∈ l, ∃ σ2, tgE tg (f a) (wipeE σ own) = some σ2 ∧ t σ2 h = .ok (p a) h ∧ (p a = true → e σ2 h = .ok (.v (g a)) h)) → cmpE tg own t e σ (l.map f) h = .ok ((l.filter p).map g) h
  | [], _ => rfl
  | a :: l, H => by
    obtain ⟨σ2, e1, e2, e3⟩ := H a List.mem_cons_self
    show (R.op (tgE tg (f a) (wipeE σ own)) h).bind _ = _
    rw [e1, R.op_some, R.bind_ok, e2]
    show ((if p a = true then ((e σ2 h).d.nx.bind fun y h3 => (cmpE tg own t e σ (l.map f) h3).bind fun ys h4 => .ok (y :: ys) h4) else cmpE tg own t e σ (l.map f) h) : R (List D)) = _
    have ih := cmp_filter (l := l) fun b hb => H b (List.mem_cons_of_mem _ hb)
    by_cases q : p a = true
    · rw [if_pos q, e3 q]
      show (cmpE tg own t e σ (l.map f) h).bind _ = _
      rw [ih, List.filter_cons_of_pos q]
      rfl
    · rw [if_neg q, ih, List.filter_cons_of_neg q]
/-- a comprehension that changes what the law knows: each step keeps I -/
theorem cmp_inv {α : Type} {tg : Tg} {own : List Nat} {t : Sv → HD → R Bool} {e : Sv → HD → R XV} {σ : Sv} {f : α → D} {I : HD → Prop} {G : α → D → Prop} : ∀ {l : List α} {h : HD}, I h → (∀ a ∈ l, ∀ h, I h → ∃ σ2 d h2, tgE tg (f a) (wipeE σ own) = some σ2 ∧ t σ2 h = .ok true h ∧ e σ2 h = .ok (.v d) h2 ∧ I h2 ∧ G a d) → ∃ ds h2, cmpE tg own t e σ (l.map f) h = .ok ds h2 ∧ I h2 ∧ ds.length = l.length ∧ ∀ d ∈ ds, ∃ a ∈ l, G a d
  | [], h, hi, _ => ⟨[], h, rfl, hi, rfl, fun _ z => nomatch z⟩
  | a :: l, h, hi, H => by
    obtain ⟨σ2, d, h2, e1, e2, e3, e4, e5⟩ := H a List.mem_cons_self h hi
    obtain ⟨ds, h3, w1, w2, w3, w4⟩ := cmp_inv (l := l) e4 fun b hb => H b (List.mem_cons_of_mem _ hb)
    refine ⟨d :: ds, h3, ?_, w2, congrArg (· + 1) w3, fun x hx => ?_⟩
    · show (R.op (tgE tg (f a) (wipeE σ own)) h).bind _ = _
      rw [e1, R.op_some, R.bind_ok, e2]
      show ((if true = true then ((e σ2 h).d.nx.bind fun y h3 => (cmpE tg own t e σ (l.map f) h3).bind fun ys h4 => .ok (y :: ys) h4) else cmpE tg own t e σ (l.map f) h) : R (List D)) = _
      rw [if_pos rfl, e3]
      show (cmpE tg own t e σ (l.map f) h2).bind _ = _
      rw [w1]
      rfl
    · rcases List.mem_cons.mp hx with rfl | hx
      · exact ⟨a, List.mem_cons_self, e5⟩
      · obtain ⟨b, hb, z⟩ := w4 x hx
        exact ⟨b, List.mem_cons_of_mem _ hb, z⟩
theorem ite_and {b c : Bool} {h : HD} : (if b = true then R.ok c h else R.ok false h) = R.ok (b && c) h := by cases b <;> rfl
theorem ite_or {b c : Bool} {h : HD} : (if b = true then R.ok true h else R.ok c h) = R.ok (b || c) h := by cases b <;> rfl
theorem ite_andv {b c : Bool} {h : HD} : (if b = true then R.ok (XV.v (.bl c)) h else R.ok (XV.v (.bl b)) h) = R.ok (XV.v (.bl (b && c))) h := by cases b <;> rfl
theorem ite_orv {b c : Bool} {h : HD} : (if b = true then R.ok (XV.v (.bl b)) h else R.ok (XV.v (.bl c)) h) = R.ok (XV.v (.bl (b || c))) h := by cases b <;> rfl
theorem cmp_map1 {tg : Tg} {own : List Nat} {t : Sv → HD → R Bool} {e : Sv → HD → R XV} {σ : Sv} {h : HD} {g : D → D} {l : List D} (H : ∀ a ∈ l, ∃ σ2, tgE tg a (wipeE σ own) = some σ2 ∧ t σ2 h = .ok true h ∧ e σ2 h = .ok (.v (g a)) h) : cmpE tg own t e σ l h = .ok (l.map g) h := by
  have := cmp_map (f := fun x => x) (g := g) H
  rw [List.map_id'] at this
  exact this
theorem cmp_filter1 {tg : Tg} {own : List Nat} {t : Sv → HD → R Bool} {e : Sv → HD → R XV} {σ : Sv} {h : HD} {g : D → D} {p : D → Bool} {l : List D} (H : ∀ a ∈ l, ∃ σ2, tgE tg a (wipeE σ own) = some σ2 ∧ t σ2 h = .ok (p a) h ∧ (p a = true → e σ2 h = .ok (.v (g a)) h)) : cmpE tg own t e σ l h = .ok ((l.filter p).map g) h := by
  have := cmp_filter (f := fun x => x) (g := g) (p := p) H
  rw [List.map_id'] at this
  exact this
theorem all_id {α : Type} {f : α → Bool} {l : List α} : (l.map f).all id = l.all f := by rw [List.all_map]; rfl
theorem for_step {tg : Tg} {b : Sv → HD → O} {x : D} {xs : List D} {σ σ1 σ2 : Sv} {h h2 : HD} (e1 : tgE tg x σ = some σ1) (e2 : b σ1 h = .nx σ2 h2) : forE tg b (x :: xs) σ h = forE tg b xs σ2 h2 := by
  show (match tgE tg x σ with
    | none => O.no
    | some σ1 => match b σ1 h with
      | .nx σ2 h2 => forE tg b xs σ2 h2
      | .ct σ2 h2 => forE tg b xs σ2 h2
      | .bk σ2 h2 => .nx σ2 h2
      | o => o) = _
  rw [e1]
  dsimp only
  rw [e2]
/-- a walk that keeps I -/
theorem for_inv {tg : Tg} {b : Sv → HD → O} {I : Sv → HD → Prop} : ∀ {xs : List D} {σ : Sv} {h : HD}, I σ h → (∀ x ∈ xs, ∀ σ h, I σ h → ∃ σ1 σ2 h2, tgE tg x σ = some σ1 ∧ b σ1 h = .nx σ2 h2 ∧ I σ2 h2) → ∃ σ2 h2, forE tg b xs σ h = .nx σ2 h2 ∧ I σ2 h2
  | [], σ, h, hi, _ => ⟨σ, h, rfl, hi⟩
  | x :: xs, σ, h, hi, H => by
    obtain ⟨σ1, σ2, h2, e1, e2, e3⟩ := H x List.mem_cons_self σ h hi
    obtain ⟨σ3, h3, w1, w2⟩ := for_inv (xs := xs) e3 fun y hy => H y (List.mem_cons_of_mem _ hy)
    refine ⟨σ3, h3, ?_, w2⟩
    show (match tgE tg x σ with
      | none => O.no
      | some σ1 => match b σ1 h with
        | .nx σ2 h2 => forE tg b xs σ2 h2
        | .ct σ2 h2 => forE tg b xs σ2 h2
        | .bk σ2 h2 => .nx σ2 h2
        | o => o) = _
    rw [e1]
    dsimp only
    rw [e2]
    exact w1
/-- a while that comes to an end -/
theorem whl_inv {c : Sv → HD → R Bool} {b : Sv → HD → O} {I : Nat → Sv → HD → Prop} {Q : Sv → HD → Prop} (H : ∀ m σ h, I m σ h → (∃ h1, c σ h = .ok false h1 ∧ Q σ h1) ∨ (∃ h1 σ2 h2 m2, c σ h = .ok true h1 ∧ b σ h1 = .nx σ2 h2 ∧ m2 < m ∧ I m2 σ2 h2)) : ∀ {n m : Nat} {σ : Sv} {h : HD}, m < n → I m σ h → ∃ σ2 h2, whlE c b n σ h = .nx σ2 h2 ∧ Q σ2 h2
  | 0, m, σ, h, hn, _ => absurd hn (Nat.not_lt_zero _)
  | n + 1, m, σ, h, hn, hi => by
    rcases H m σ h hi with ⟨h1, e1, e2⟩ | ⟨h1, σ2, h2, m2, e1, e2, e3, e4⟩
    · refine ⟨σ, h1, ?_, e2⟩
      show (c σ h).st σ _ = _
      rw [e1, st_ok, if_neg (by decide)]
    · obtain ⟨σ3, h3, w1, w2⟩ := whl_inv H (n := n) (m := m2) (by omega) e4
      refine ⟨σ3, h3, ?_, w2⟩
      show (c σ h).st σ _ = _
      rw [e1, st_ok, if_pos rfl, e2]
      exact w1
theorem ints_map {ns : List Int} : intsE (ns.map .int) = some ns := by
  induction ns with
  | nil => rfl
  | cons n ns ih => show (intsE (ns.map .int)).map _ = _; rw [ih]; rfl
theorem bls_map {ns : List Bool} : blsE (ns.map .bl) = some ns := by
  induction ns with
  | nil => rfl
  | cons n ns ih => show (blsE (ns.map .bl)).map _ = _; rw [ih]; rfl
theorem bls_mapf {α : Type} {f : α → Bool} {l : List α} : blsE (l.map fun a => .bl (f a)) = some (l.map f) := by
  rw [← bls_map (ns := l.map f), List.map_map]; rfl
theorem ints_mapf {α : Type} {f : α → Int} {l : List α} : intsE (l.map fun a => .int (f a)) = some (l.map f) := by
  rw [← ints_map (ns := l.map f), List.map_map]; rfl
end Nd
namespace T
open PySem PySem.Spec PyProof.Rows L2 Nd
/-! _law_begun(_law_script) | 0:_law_script 1:_law_cell -/
def b8_0 : B := .cons (.ret (.dic [.inr "cells", .inr "at", .inr "rest", .inr "turn", .inr "more"] (.cons (.frz (.comp .seq (.cons (.var 0) .nil) (.nm 1) [1] .nil (.bi .abs (.cons (.var 1) .nil)))) (.cons (.cst (.int 0)) (.cons (.cst (.int 0)) (.cons (.cst (.int 0)) (.cons (.bin .Add (.cst (.int 7)) (.bi .len (.cons (.var 0) .nil))) .nil))))))) .nil
/-! _law_take(_law_state, _law_many) | 0:_law_state 1:_law_many 2:_law_cells 3:_law_cell 4:_law_found -/
def b3_1a_0a_0 : B := .cons (.setS (.var 0) (.cst (.str "rest")) (.sub (.var 2) (.sub (.var 0) (.cst (.str "at"))))) .nil
def b3_1a_1 : B := .cons (.setS (.var 0) (.cst (.str "at")) (.bin .Add (.sub (.var 0) (.cst (.str "at"))) (.cst (.int 1)))) .nil
def b3_1a_0 : B := .cons (.ite (.cmp .GtE (.sub (.var 2) (.sub (.var 0) (.cst (.str "at")))) (.bin .Pow (.cst (.int 10)) (.cst (.int 18)))) b3_1a_0a_0 .nil) b3_1a_1
def b3_2a_2 : B := .cons (.ret (.var 4)) .nil
def b3_2a_1 : B := .cons (.setS (.var 0) (.cst (.str "rest")) (.bin .FloorDiv (.sub (.var 0) (.cst (.str "rest"))) (.var 1))) b3_2a_2
def b3_2a_0 : B := .cons (.set 4 (.bin .Mod (.sub (.var 0) (.cst (.str "rest"))) (.var 1))) b3_2a_1
def b3_4a_0 : B := .cons (.set 3 (.sub (.var 2) (.bin .Mod (.sub (.var 0) (.cst (.str "turn"))) (.bi .len (.cons (.var 2) .nil))))) .nil
def b3_7 : B := .cons (.ret (.bin .Mod (.bin .Mod (.bin .Add (.bin .Mult (.sub (.var 0) (.cst (.str "more"))) (.sub (.var 0) (.cst (.str "more")))) (.bin .Mult (.cst (.int 16807)) (.sub (.var 0) (.cst (.str "more"))))) (.cst (.int 2147483629))) (.var 1))) .nil
def b3_6 : B := .cons (.setS (.var 0) (.cst (.str "more")) (.bin .Mod (.bin .Add (.bin .Add (.bin .Mult (.sub (.var 0) (.cst (.str "more"))) (.cst (.int 48271))) (.var 3)) (.sub (.var 0) (.cst (.str "turn")))) (.cst (.int 2147483647)))) b3_7
def b3_5 : B := .cons (.setS (.var 0) (.cst (.str "turn")) (.bin .Add (.sub (.var 0) (.cst (.str "turn"))) (.cst (.int 1)))) b3_6
def b3_4 : B := .cons (.ite (.cmp .Gt (.bi .len (.cons (.var 2) .nil)) (.cst (.int 0))) b3_4a_0 .nil) b3_5
def b3_3 : B := .cons (.set 3 (.cst (.int 0))) b3_4
def b3_2 : B := .cons (.ite (.cmp .Gt (.sub (.var 0) (.cst (.str "rest"))) (.cst (.int 1))) b3_2a_0 .nil) b3_3
def b3_1 : B := .cons (.whl (.an (.cons (.cmp .Lt (.sub (.var 0) (.cst (.str "rest"))) (.cst (.int 2))) (.cons (.cmp .Lt (.sub (.var 0) (.cst (.str "at"))) (.bi .len (.cons (.var 2) .nil))) .nil))) b3_1a_0) b3_2
def b3_0 : B := .cons (.set 2 (.sub (.var 0) (.cst (.str "cells")))) b3_1
/-! _law_pick(_law_state, _law_some) | 0:_law_state 1:_law_some -/
def b0_0 : B := .cons (.ret (.sub (.var 1) (.call 3 (.cons (.var 0) (.cons (.bi .len (.cons (.var 1) .nil)) .nil))))) .nil
/-! _law_names(_law_state, _law_many) | 0:_law_state 1:_law_many 2:_law_found 3:_law_k 4:_law_shift 5:_law_step 6:_law_number_here -/
def b39_2a_1 : B := .cons (.ex (.bm .append (.var 2) (.cons (.frz (.bin .Add (.sub (.cst (.str "abcdefghijklmnopqrstuvwxyz")) (.bin .Mod (.var 6) (.cst (.int 26)))) (.sub (.lst (.cons (.cst (.str "")) (.cons (.cst (.str "b")) (.cons (.cst (.str "aa")) (.cons (.cst (.str "x")) (.cons (.cst (.str "zq")) (.cons (.cst (.str "bb")) .nil))))))) (.bin .FloorDiv (.var 6) (.cst (.int 26)))))) .nil))) .nil
def b39_2a_0 : B := .cons (.set 6 (.bin .Mod (.bin .Add (.var 4) (.bin .Mult (.var 5) (.var 3))) (.cst (.int 156)))) b39_2a_1
def b39_3 : B := .cons (.ret (.var 2)) .nil
def b39_2 : B := .cons (.for_ .rng1 (.cons (.var 1) .nil) (.nm 3) b39_2a_0) b39_3
def b39_1 : B := .cons (.set 2 (.lst .nil)) b39_2
def b39_0 : B := .cons (.par 4 5 (.frz (.call 3 (.cons (.var 0) (.cons (.cst (.int 156)) .nil)))) (.frz (.call 0 (.cons (.var 0) (.cons (.frz (.lst (.cons (.cst (.int 1)) (.cons (.cst (.int 5)) (.cons (.cst (.int 7)) (.cons (.cst (.int 11)) (.cons (.cst (.int 25)) (.cons (.cst (.int 155)) .nil)))))))) .nil))))) b39_1
/-! _law_number(_law_state, _law_kind) | 0:_law_state 1:_law_kind -/
def b5_0a_0 : B := .cons (.ret (.call 3 (.cons (.var 0) (.cons (.cst (.int 4)) .nil)))) .nil
def b5_1a_0 : B := .cons (.ret (.bin .Sub (.call 3 (.cons (.var 0) (.cons (.cst (.int 21)) .nil))) (.cst (.int 10)))) .nil
def b5_2a_0 : B := .cons (.ret (.bin .Sub (.call 3 (.cons (.var 0) (.cons (.bin .Add (.bin .Mult (.cst (.int 2)) (.bin .Pow (.cst (.int 10)) (.cst (.int 9)))) (.cst (.int 1))) .nil))) (.bin .Pow (.cst (.int 10)) (.cst (.int 9))))) .nil
def b5_3 : B := .cons (.ret (.call 0 (.cons (.var 0) (.cons (.frz (.lst (.cons (.neg (.bin .Pow (.cst (.int 10)) (.cst (.int 9)))) (.cons (.bin .Pow (.cst (.int 10)) (.cst (.int 9))) (.cons (.cst (.int 0)) (.cons (.cst (.int 1)) (.cons (.neg (.cst (.int 1))) (.cons (.cst (.int 5)) .nil)))))))) .nil)))) .nil
def b5_2 : B := .cons (.ite (.cmp .Eq (.var 1) (.cst (.int 2))) b5_2a_0 .nil) b5_3
def b5_1 : B := .cons (.ite (.cmp .Eq (.var 1) (.cst (.int 1))) b5_1a_0 .nil) b5_2
def b5_0 : B := .cons (.ite (.cmp .Eq (.var 1) (.cst (.int 0))) b5_0a_0 .nil) b5_1
/-! _law_point(_law_state, _law_width, _law_kind) | 0:_law_state 1:_law_width 2:_law_kind 3:_law_axis -/
def b9_0 : B := .cons (.ret (.bl .tuple (.comp .rng1 (.cons (.var 1) .nil) (.nm 3) [3] .nil (.frz (.call 5 (.cons (.var 0) (.cons (.var 2) .nil))))))) .nil
end T
/-! Sx1: what the drawing defs do. -/
local macro_rules
  | `(tactic| simp! [$as,*]) => `(tactic| try simp (maxSteps := 10000000) (disch := omega) only [Nd.ev_var_v, Nd.ev_var_t, Nd.ev_var_i, Nd.ev_cst_v, Nd.ev_cst_t, Nd.ev_cst_i, Nd.ev_gl_v, Nd.ev_gl_t, Nd.ev_gl_i, Nd.ev_ty_v, Nd.ev_ty_t, Nd.ev_ty_i, Nd.ev_tup_v, Nd.ev_tup_t, Nd.ev_tup_i, Nd.ev_lst_v, Nd.ev_lst_t, Nd.ev_lst_i, Nd.ev_dic_v, Nd.ev_dic_t, Nd.ev_dic_i, Nd.ev_bin_v, Nd.ev_bin_t, Nd.ev_bin_i, Nd.ev_neg_v, Nd.ev_neg_t, Nd.ev_neg_i, Nd.ev_cmp_t, Nd.ev_cmp_v, Nd.ev_chn_t, Nd.ev_chn_v, Nd.ev_nt_t, Nd.ev_nt_v, Nd.ev_an_v, Nd.ev_an_t, Nd.ev_or_v, Nd.ev_or_t, Nd.ev_ife_v, Nd.ev_ife_i, Nd.ev_sub_v, Nd.ev_sub_t, Nd.ev_sub_i, Nd.ev_sl0_v, Nd.ev_sl0_t, Nd.ev_sl0_i, Nd.ev_slL_v, Nd.ev_slL_t, Nd.ev_slL_i, Nd.ev_slU_v, Nd.ev_slU_t, Nd.ev_slU_i, Nd.ev_slB_v, Nd.ev_slB_t, Nd.ev_slB_i, Nd.ev_rvs_v, Nd.ev_rvs_t, Nd.ev_rvs_i, Nd.ev_callv_v, Nd.ev_callv_t, Nd.ev_callv_i, Nd.ev_call_v, Nd.ev_call_t, Nd.ev_call_i, Nd.ev_bi_v, Nd.ev_bi_t, Nd.ev_bi_i, Nd.ev_bl_v, Nd.ev_bl_t, Nd.ev_bl_i, Nd.ev_bm_v, Nd.ev_bm_t, Nd.ev_bm_i, Nd.ev_comp_v, Nd.ev_comp_t, Nd.ev_comp_i, Nd.ev_frz_v, Nd.ev_frz_t, Nd.ev_frz_i, Nd.ev_lset_v, Nd.ev_lset_t, Nd.ev_lset_i, Nd.ev_sset_v, Nd.ev_sset_t, Nd.ev_sset_i, Nd.ev_joi_v, Nd.ev_joi_t, Nd.ev_joi_i, Nd.ev_itm_v, Nd.ev_itm_t, Nd.ev_itm_i, Nd.evs_nil_a, Nd.evs_nil_t, Nd.evs_1_a, Nd.evs_1_anv, Nd.evs_1_ant, Nd.evs_1_orv, Nd.evs_1_ort, Nd.evs_1_i, Nd.evs_2_a, Nd.evs_2_anv, Nd.evs_2_ant, Nd.evs_2_orv, Nd.evs_2_ort, Nd.evS_pass, Nd.evS_doc, Nd.evS_brk, Nd.evS_cnt, Nd.evS_ex, Nd.evS_ret, Nd.evS_retN, Nd.evS_set, Nd.evS_setT, Nd.evS_par, Nd.evS_setS, Nd.evS_aug, Nd.evS_ite, Nd.evS_whl, Nd.evS_for_, Nd.evS_raise, Nd.evS_try_, Nd.evS_fz, Nd.evB_nil, Nd.evB_cons, Nd.slotE_v, Nd.slotE_l, Nd.slotE_m, Nd.slotE_k, Nd.r_v, Nd.r_nl, Nd.r_br, Nd.r_nd, Nd.r_bd, Nd.d_v2, Nd.op_add, Nd.op_mul, Nd.op_sub, Nd.op_div, Nd.op_mod, Nd.op_pow, Nd.add_int2, Nd.add_str2, Nd.add_tup2, Nd.add_kls2, Nd.mul_int2, Nd.mul_tup2, Nd.cm_Eq, Nd.cm_NotEq, Nd.cm_Lt, Nd.cm_Gt, Nd.cm_LtE, Nd.cm_GtE, Nd.cm_Is, Nd.cm_IsNot, Nd.cm_In, Nd.cm_NotIn, Nd.eq_int2, Nd.eq_str2, Nd.eq_bl2, Nd.ord_int2, Nd.ord_str2, Nd.isE_non, Nd.isE_bl, Nd.isNon_non, Nd.isNon_int, Nd.isNon_bl, Nd.isNon_str, Nd.isNon_tup, Nd.isNon_kls, Nd.isNon_kdc, Nd.isNon_exc, Nd.ty_non2, Nd.isi_non_int2, Nd.isi_non_bool2, Nd.isi_non_str2, Nd.isi_non_tuple2, Nd.isi_non_list2, Nd.isi_non_dict2, Nd.ty_int2, Nd.isi_int_int2, Nd.isi_int_bool2, Nd.isi_int_str2, Nd.isi_int_tuple2, Nd.isi_int_list2, Nd.isi_int_dict2, Nd.ty_bl2, Nd.isi_bl_int2, Nd.isi_bl_bool2, Nd.isi_bl_str2, Nd.isi_bl_tuple2, Nd.isi_bl_list2, Nd.isi_bl_dict2, Nd.ty_str2, Nd.isi_str_int2, Nd.isi_str_bool2, Nd.isi_str_str2, Nd.isi_str_tuple2, Nd.isi_str_list2, Nd.isi_str_dict2, Nd.ty_tup2, Nd.isi_tup_int2, Nd.isi_tup_bool2, Nd.isi_tup_str2, Nd.isi_tup_tuple2, Nd.isi_tup_list2, Nd.isi_tup_dict2, Nd.ty_kls2, Nd.isi_kls_int2, Nd.isi_kls_bool2, Nd.isi_kls_str2, Nd.isi_kls_tuple2, Nd.isi_kls_list2, Nd.isi_kls_dict2, Nd.ty_kdc2, Nd.isi_kdc_int2, Nd.isi_kdc_bool2, Nd.isi_kdc_str2, Nd.isi_kdc_tuple2, Nd.isi_kdc_list2, Nd.isi_kdc_dict2, Nd.isi_excV, Nd.len_str2, Nd.len_tup2, Nd.len_kls2, Nd.len_kdc2, Nd.neg_int2, Nd.in_str2, Nd.in_tup2, Nd.in_kls2, Nd.sub_tup2, Nd.sub_str2, Nd.sub_kls2, Nd.sub_kdc2, Nd.key_int2, Nd.key_str2, Nd.slc_vtup, Nd.slc_vstr, Nd.slc_vkls, Nd.slc_nl, Nd.slc_br, Nd.rvs_v, Nd.rvs_nl, Nd.rvs_br, Nd.asE_int, Nd.bi_isi2, Nd.bi_len2, Nd.bi_abs2, Nd.bi_int2, Nd.bi_intb2, Nd.bi_max22, Nd.bi_min22, Nd.tru_non2, Nd.tru_bl2, Nd.tru_int2, Nd.tru_str2, Nd.tru_tup2, Nd.tru_kls2, Nd.itX_tup, Nd.itX_kls, Nd.itX_str, Nd.itX_kdc, Nd.itX_nl, Nd.itX_br, Nd.itE_tup, Nd.itE_kls, Nd.itE_str, Nd.itE_kdc, Nd.bl_tuple_L, Nd.bl_tuple_T, Nd.bl_tuple_B, Nd.bl_list_L, Nd.bl_list_T, Nd.bl_list_B, Nd.bl_list_K, Nd.bl_sum_L, Nd.bl_max_L, Nd.bl_min_L, Nd.bl_all_L, Nd.bl_any_L, Nd.bl_sorted_L, Nd.bl_dict_L, Nd.lset_L, Nd.sset_L, Nd.bl_sum_B, Nd.bl_max_B, Nd.bl_min_B, Nd.bl_all_B, Nd.bl_any_B, Nd.bl_sorted_B, Nd.bl_dict_B, Nd.lset_B, Nd.sset_B, Nd.joi_L, Nd.itm_nd, Nd.itm_bd, Nd.itm_kdc, Nd.srcE_seq, Nd.srcN_seq, Nd.srcE_rng1, Nd.srcN_rng1, Nd.srcE_rng2, Nd.srcN_rng2, Nd.srcE_rng3, Nd.srcN_rng3, Nd.srcE_zip2, Nd.srcN_zip2, Nd.srcE_zip3, Nd.srcN_zip3, Nd.srcE_zipS, Nd.srcN_zipS, Nd.srcE_enumT, Nd.srcN_enumT, Nd.srcE_enum, Nd.srcN_enum, Nd.srcE_rev, Nd.srcN_rev, Nd.srcE_items, Nd.srcN_items, Nd.srcE_values, Nd.srcN_values, Nd.src_rng1, Nd.src_rng2, Nd.src_zip2T, Nd.src_zip2K, Nd.src_zip3, Nd.src_zipS, Nd.src_enumT, Nd.src_enum, Nd.src_revT, Nd.src_rev, Nd.src_items, Nd.src_values, Nd.frz_non, Nd.frz_int, Nd.frz_bl, Nd.frz_str, Nd.frz_tup, Nd.frz_kls, Nd.frz_kdc, Nd.frz_glo, Nd.frz_exc, Nd.frz_nl, Nd.frz_nd, Nd.new_v, Nd.new_nl, Nd.new_nd, Nd.retE_v, Nd.retX_v, Nd.retE_nl, Nd.retX_nl, Nd.retE_nd, Nd.retX_nd, Nd.retX_br, Nd.retX_bd, Nd.tg_nm, Nd.tg_tp, Nd.tg_ul, Nd.Gkb_L, Nd.Gkb_T, Nd.Gkb_S, Nd.Gkb_K, Nd.appE_v, Nd.ext_nl, Nd.isRef_non, Nd.isRef_int, Nd.isRef_bl, Nd.isRef_str, Nd.isRef_tup, Nd.isRef_kls, Nd.isRef_kdc, Nd.isRef_exc, Nd.isRef_glo, Nd.aug_int, Nd.aug_sub, Nd.aug_str, Nd.noBr_v, Nd.noBr_nl, Nd.noBr_nd, Nd.noBr_nil, Nd.bmC_count, Nd.bmC_index, Nd.ite_and, Nd.ite_or, Nd.ite_andv, Nd.ite_orv, Nd.bls_mapf, Nd.ints_mapf, Nd.all_id, Nd.ints_map, Nd.bls_map, Nd.size_eq, Nd.cvn_call, Nd.cvn_callb, Nd.cvn_exm, Nd.slotE_b, Nd.slotE_c, Nd.slotR_v, Nd.slotR_l, Nd.slotR_m, Nd.slotR_k, Nd.xds_br, Nd.xds_bd, Nd.xbs_nil, Nd.xbs_v, Nd.xbs_br, Nd.xbs_bd,
    Nd.R.bind_ok, Nd.R.bind_ex, Nd.R.op_some, Nd.R.op_none, Nd.st_ok, Nd.st_ex, Nd.nx_ok, Nd.d_v, Nd.bind_nx, Nd.bind_rt, Nd.bind_bk, Nd.bind_ct, Nd.bind_ex, Nd.re_nx, Nd.re_rt, Nd.re_ex, Nd.varE, Nd.popV, Nd.clrV, Nd.isD, Nd.appV, Nd.isV1, Nd.xds, Nd.setsE, Nd.wipeE,
    List.map_cons, List.map_nil, Option.map_some, Option.map_none, Option.bind_some, Option.bind_none, List.cons_append, List.nil_append, List.getElem?_cons_zero, List.getElem?_cons_succ, List.set_cons_zero, List.set_cons_succ, List.replicate_succ, List.replicate_zero, Option.join_some, Option.join_none, List.length_cons, List.length_nil,
    List.zip_cons_cons, List.zip_nil_left, List.zip_nil_right, List.foldl_cons, List.foldl_nil, List.foldr_cons, List.foldr_nil, cond_true, cond_false,
    Nat.reduceSub, Nat.reduceAdd, Nat.zero_add, if_true, if_false, reduceIte, Bool.false_eq_true, Bool.not_true, Bool.not_false, Bool.and_true, Bool.true_or, Bool.or_true, Bool.and_self, Bool.true_and, Bool.false_and, Bool.and_false, Bool.or_false, Bool.false_or, true_and, and_true, and_self, or_true, true_or, decide_true, decide_false, Int.reduceLT, Int.reduceLE, Int.reduceNeg, Int.reducePow, Nat.reducePow, Int.reduceAdd, Int.reduceSub, Int.reduceMul, Int.reduceToNat, Nat.reduceLT, Nat.reduceLeDiff, Int.reduceAbs, $as,*])
namespace Sx
open PySem PySem.Spec PyProof.Rows L2 Nd T
structure DS where
  c : List Int
  a : Int
  r : Int
  t : Int
  m : Int
structure DS.ok (S : DS) : Prop where
  cp : ∀ x ∈ S.c, 0 ≤ x
  cl : S.c.length ≤ 63
  a0 : 0 ≤ S.a
  r0 : 0 ≤ S.r
  t0 : 0 ≤ S.t
  m0 : 0 ≤ S.m
  m1 : S.m < 2 ^ 32
def DS.d (S : DS) : List (Key × D) := [(.inr "cells", .kls (S.c.map .int)), (.inr "at", .int S.a), (.inr "rest", .int S.r), (.inr "turn", .int S.t), (.inr "more", .int S.m)]
def hS (s : Addr) (S : DS) : HD := hup hE s (.dic S.d)
section
variable {s : Addr} {c : List Int} {a r t m x : Int} {σ : Sv}
theorem hS_s {S : DS} : hS s S s = some (.dic S.d) := hup_same
theorem sb_cells : subE (.ref s) (.str "cells") (hS s ⟨c, a, r, t, m⟩) = some (.kls (c.map .int)) := sub_ref2 hS_s
theorem sb_at : subE (.ref s) (.str "at") (hS s ⟨c, a, r, t, m⟩) = some (.int a) := sub_ref2 hS_s
theorem sb_rest : subE (.ref s) (.str "rest") (hS s ⟨c, a, r, t, m⟩) = some (.int r) := sub_ref2 hS_s
theorem sb_turn : subE (.ref s) (.str "turn") (hS s ⟨c, a, r, t, m⟩) = some (.int t) := sub_ref2 hS_s
theorem sb_more : subE (.ref s) (.str "more") (hS s ⟨c, a, r, t, m⟩) = some (.int m) := sub_ref2 hS_s
theorem st_S {S S' : DS} {y : PySem.Str} (e : putD S.d (.inr y) (.int x) = S'.d) : setR σ (.ref s) (.v (.int x)) (.v (.str y)) (hS s S) = .nx σ (hS s S') := by
  rw [setR_ref hS_s (by show 5 < sizeLine; decide), e]
  unfold hS
  rw [hup_hup]
theorem st_at : setR σ (.ref s) (.v (.int x)) (.v (.str "at")) (hS s ⟨c, a, r, t, m⟩) = .nx σ (hS s ⟨c, x, r, t, m⟩) := st_S rfl
theorem st_rest : setR σ (.ref s) (.v (.int x)) (.v (.str "rest")) (hS s ⟨c, a, r, t, m⟩) = .nx σ (hS s ⟨c, a, x, t, m⟩) := st_S rfl
theorem st_turn : setR σ (.ref s) (.v (.int x)) (.v (.str "turn")) (hS s ⟨c, a, r, t, m⟩) = .nx σ (hS s ⟨c, a, r, x, m⟩) := st_S rfl
theorem st_more : setR σ (.ref s) (.v (.int x)) (.v (.str "more")) (hS s ⟨c, a, r, t, m⟩) = .nx σ (hS s ⟨c, a, r, t, x⟩) := st_S rfl
theorem at_nn {xs : List D} {i : Int} (h0 : 0 ≤ i) (h1 : i < xs.length) : atD xs i = xs[i.toNat]? := by
  show ((L2.ixN xs.length i).bind fun j => xs[j]?) = _
  unfold L2.ixN
  rw [if_pos h0, if_pos h1]
  rfl
theorem at_neg {xs : List D} {i : Int} (h0 : i < 0) (h1 : -(xs.length : Int) ≤ i) : atD xs i = xs[(i + xs.length).toNat]? := by
  show ((L2.ixN xs.length i).bind fun j => xs[j]?) = _
  unfold L2.ixN
  rw [if_neg (by omega), if_pos h1]
  rfl
theorem at_c {i : Int} (h0 : 0 ≤ i) (h1 : i < c.length) : atD (c.map D.int) i = some (.int (c.getD i.toNat 0)) := by
  have hl : i.toNat < c.length := by omega
  rw [at_nn h0 (by rw [List.length_map]; exact h1), List.getElem?_map, List.getElem?_eq_getElem hl, List.getD_eq_getElem?_getD, List.getElem?_eq_getElem hl]
  rfl
theorem c_nn (hc : ∀ x ∈ c, 0 ≤ x) {i : Nat} : 0 ≤ c.getD i 0 := by
  rw [List.getD_eq_getElem?_getD]
  cases e : c[i]? with
  | none => exact Int.le_refl _
  | some x => exact hc x (List.mem_of_getElem? e)
end
section
variable {P : Pr} {s : Addr} {S : DS}
theorem begun_ok {ns : List Int} {h : HD} {n : Nat} (H : HasF P 8 b8_0 1 2) (hl : ns.length ≤ 63) : ∃ S : DS, P.run (n + 1) 8 [.kls (ns.map .int)] h = .ok (.nd S.d) h ∧ S.ok := by
  refine ⟨⟨ns.map fun x => if x < 0 then -x else x, 0, 0, 0, 7 + ns.length⟩, ?_, ⟨fun x hx => ?_, by rw [List.length_map]; exact hl, Int.le_refl _, Int.le_refl _, Int.le_refl _, ?_, ?_⟩⟩
  · rw [run_of H rfl]
    simp! [b8_0]
    rw [cmp_map (f := D.int) (g := fun x : Int => D.int (if x < 0 then -x else x)) (fun x hx => ⟨_, rfl, rfl, by simp! []⟩)]
    simp! [List.length_map]
    unfold DS.d
    rw [List.map_map]
    rfl
  · obtain ⟨y, _, rfl⟩ := List.mem_map.mp hx
    split <;> omega
  · show 0 ≤ 7 + (ns.length : Int); omega
  · show 7 + (ns.length : Int) < 2 ^ 32; omega
theorem take_ok {n : Nat} {m : Int} (H : HasF P 3 b3_0 2 5) (g : S.ok) (hm : 0 < m) (hm2 : m < 2 ^ 64) (hn : 1 ≤ n) : ∃ (x : Int) (S' : DS), P.run n 3 [.ref s, .int m] (hS s S) = .ok (.v (.int x)) (hS s S') ∧ 0 ≤ x ∧ x < m ∧ S'.ok := by
  obtain ⟨n, rfl⟩ : ∃ k, n = k + 1 := ⟨n - 1, by omega⟩
  obtain ⟨c, a, r, t, mo⟩ := S
  rw [run_of H rfl]
  simp! [b3_0, b3_1, sb_cells]
  obtain ⟨σ2, h2, e, a2, r2, t2, m2, rfl, rfl, g2⟩ := whl_inv (c := (ev (P.cvn n) (.an (.cons (.cmp .Lt (.sub (.var 0) (.cst (.str "rest"))) (.cst (.int 2))) (.cons (.cmp .Lt (.sub (.var 0) (.cst (.str "at"))) (.bi .len (.cons (.var 2) .nil))) .nil)))).t) (b := evB (P.cvn n) b3_1a_0)
    (I := fun k σ h => ∃ a r t m', σ = [some (.v (.ref s)), some (.v (.int m)), some (.v (.kls (c.map .int))), none, none] ∧ h = hS s ⟨c, a, r, t, m'⟩ ∧ DS.ok ⟨c, a, r, t, m'⟩ ∧ k = (c.length - a).toNat)
    (Q := fun σ h => ∃ a r t m', σ = [some (.v (.ref s)), some (.v (.int m)), some (.v (.kls (c.map .int))), none, none] ∧ h = hS s ⟨c, a, r, t, m'⟩ ∧ DS.ok ⟨c, a, r, t, m'⟩)
    (fun k σ h ⟨a, r, t, m', e1, e2, g, e3⟩ => by
      subst e1 e2 e3
      by_cases q : (decide (r < 2) && decide (a < c.length)) = true
      · obtain ⟨q1, q2⟩ := Bool.and_eq_true_iff.mp q
        have q2 := of_decide_eq_true q2
        have a0 := g.a0
        right
        by_cases w : 1000000000000000000 ≤ c.getD a.toNat 0
        · refine ⟨hS s ⟨c, a, r, t, m'⟩, _, hS s ⟨c, a + 1, c.getD a.toNat 0, t, m'⟩, (c.length - (a + 1)).toNat, ?_, ?_, by have : a < (c.length : Int) := q2; have : (0 : Int) ≤ a := a0; omega, a + 1, c.getD a.toNat 0, t, m', rfl, rfl, ⟨g.cp, g.cl, by have : (0 : Int) ≤ a := a0; show 0 ≤ a + 1; omega, c_nn g.cp, g.t0, g.m0, g.m1⟩, rfl⟩
          · simp! [sb_rest, sb_at, List.length_map]
            rw [q]
          · simp! [b3_1a_0, b3_1a_0a_0, b3_1a_1, sb_at, at_c a0 q2, decide_eq_true w, st_rest, st_at]
        · refine ⟨hS s ⟨c, a, r, t, m'⟩, _, hS s ⟨c, a + 1, r, t, m'⟩, (c.length - (a + 1)).toNat, ?_, ?_, by have : a < (c.length : Int) := q2; have : (0 : Int) ≤ a := a0; omega, a + 1, r, t, m', rfl, rfl, ⟨g.cp, g.cl, by have : (0 : Int) ≤ a := a0; show 0 ≤ a + 1; omega, g.r0, g.t0, g.m0, g.m1⟩, rfl⟩
          · simp! [sb_rest, sb_at, List.length_map]
            rw [q]
          · simp! [b3_1a_0, b3_1a_0a_0, b3_1a_1, sb_at, at_c a0 q2, decide_eq_false w, st_rest, st_at]
      · left
        refine ⟨hS s ⟨c, a, r, t, m'⟩, ?_, a, r, t, m', rfl, rfl, g⟩
        simp! [sb_rest, sb_at, List.length_map]
        rw [Bool.not_eq_true] at q
        rw [q]) (n := 1000000) (m := (c.length - a).toNat) (σ := [some (.v (.ref s)), some (.v (.int m)), some (.v (.kls (c.map .int))), none, none]) (h := hS s ⟨c, a, r, t, mo⟩) (by have := g.cl; have : c.length ≤ 63 := this; have : (0 : Int) ≤ a := g.a0; omega) ⟨a, r, t, mo, rfl, rfl, g, rfl⟩
  rw [e]
  clear e
  have m0 := g2.m0
  have m1 := g2.m1
  have t0 := g2.t0
  have r0 := g2.r0
  have a0 := g2.a0
  dsimp only at m0 m1 t0 r0 a0
  have p1 : (16807 : Int) < 2 ^ 64 := by decide
  have fin : ∀ x : Int, 0 ≤ x → ∃ (y : Int) (S' : DS), (evB (P.cvn n) b3_5 [some (.v (.ref s)), some (.v (.int m)), some (.v (.kls (c.map .int))), some (.v (.int x)), none] (hS s ⟨c, a2, r2, t2, m2⟩)).re = .ok (.v (.int y)) (hS s S') ∧ 0 ≤ y ∧ y < m ∧ S'.ok := by
    intro x hx
    have q1 : 0 ≤ (m2 * 48271 + x + (t2 + 1)) % 2147483647 := Int.emod_nonneg _ (by decide)
    have q2 : (m2 * 48271 + x + (t2 + 1)) % 2147483647 < 2147483647 := Int.emod_lt_of_pos _ (by decide)
    generalize eq : (m2 * 48271 + x + (t2 + 1)) % 2147483647 = m3 at q1 q2
    refine ⟨(m3 * m3 + 16807 * m3) % 2147483629 % m, ⟨c, a2, r2, t2 + 1, m3⟩, ?_, Int.emod_nonneg _ (by omega), Int.emod_lt_of_pos _ hm, ⟨g2.cp, g2.cl, a0, r0, by show 0 ≤ t2 + 1; omega, q1, by show m3 < 2 ^ 32; omega⟩⟩
    simp! [b3_5, b3_6, b3_7, sb_turn, sb_more, st_turn, st_more, if_pos, eq]
  by_cases q : 1 < r2
  · refine ⟨r2 % m, ⟨c, a2, r2 / m, t2, m2⟩, ?_, Int.emod_nonneg _ (by omega), Int.emod_lt_of_pos _ hm, ⟨g2.cp, g2.cl, a0, Int.ediv_nonneg r0 (by omega), t0, m0, m1⟩⟩
    simp! [b3_2, b3_2a_0, b3_2a_1, b3_2a_2, sb_rest, st_rest, decide_eq_true q, if_pos]
  · by_cases w : 0 < c.length
    · have w2 : 0 < (c.length : Int) := by omega
      have u1 : 0 ≤ t2 % (c.length : Int) := Int.emod_nonneg _ (by omega)
      have u2 : t2 % (c.length : Int) < c.length := Int.emod_lt_of_pos _ w2
      obtain ⟨y, S', e1, e2⟩ := fin (c.getD (t2 % (c.length : Int)).toNat 0) (c_nn g2.cp)
      refine ⟨y, S', ?_, e2⟩
      simp! [b3_2, b3_3, b3_4, b3_4a_0, sb_rest, sb_turn, decide_eq_false q, List.length_map, decide_eq_true w2, if_pos, at_c u1 u2]
      exact e1
    · have w2 : ¬ 0 < (c.length : Int) := by omega
      obtain ⟨y, S', e1, e2⟩ := fin 0 (Int.le_refl _)
      refine ⟨y, S', ?_, e2⟩
      simp! [b3_2, b3_3, b3_4, sb_rest, decide_eq_false q, List.length_map, decide_eq_false w2]
      exact e1
theorem pick_ok {n : Nat} {xs : List D} (H0 : HasF P 0 b0_0 2 2) (H : HasF P 3 b3_0 2 5) (g : S.ok) (hx : xs ≠ []) (hl : xs.length ≤ 1000000) (hn : 2 ≤ n) : ∃ (x : D) (S' : DS), P.run n 0 [.ref s, .kls xs] (hS s S) = .ok (.v x) (hS s S') ∧ x ∈ xs ∧ S'.ok := by
  obtain ⟨n, rfl⟩ : ∃ k, n = k + 1 := ⟨n - 1, by omega⟩
  have h0 : 0 < xs.length := List.length_pos_iff.mpr hx
  obtain ⟨i, S', e, i0, i1, g'⟩ := take_ok (s := s) (n := n) (m := xs.length) H g (by omega) (by omega) (by omega)
  have hi : i.toNat < xs.length := by omega
  refine ⟨xs[i.toNat], S', ?_, List.getElem_mem hi, g'⟩
  rw [run_of H0 rfl]
  have ea : atD xs i = some xs[i.toNat] := by rw [at_nn i0 i1, List.getElem?_eq_getElem hi]
  simp! [b0_0, e, ea]
theorem number_ok {n : Nat} {k : Int} (H5 : HasF P 5 b5_0 2 2) (H0 : HasF P 0 b0_0 2 2) (H : HasF P 3 b3_0 2 5) (g : S.ok) (hn : 3 ≤ n) : ∃ (x : Int) (S' : DS), P.run n 5 [.ref s, .int k] (hS s S) = .ok (.v (.int x)) (hS s S') ∧ -1000000000 ≤ x ∧ x ≤ 1000000000 ∧ (k = 1 → -10 ≤ x ∧ x ≤ 10) ∧ (k = 0 → 0 ≤ x ∧ x < 4) ∧ S'.ok := by
  obtain ⟨n, rfl⟩ : ∃ k, n = k + 1 := ⟨n - 1, by omega⟩
  rw [run_of H5 rfl]
  by_cases k0 : k = 0
  · obtain ⟨i, S', e, i0, i1, g'⟩ := take_ok (s := s) (n := n) (m := 4) H g (by omega) (by omega) (by omega)
    refine ⟨i, S', ?_, by omega, by omega, by omega, by omega, g'⟩
    simp! [b5_0, b5_0a_0, e, decide_eq_true k0]
  by_cases k1 : k = 1
  · obtain ⟨i, S', e, i0, i1, g'⟩ := take_ok (s := s) (n := n) (m := 21) H g (by omega) (by omega) (by omega)
    refine ⟨i - 10, S', ?_, by omega, by omega, by omega, by omega, g'⟩
    simp! [b5_0, b5_1, b5_1a_0, e, decide_eq_false k0, decide_eq_true k1]
  by_cases k2 : k = 2
  · obtain ⟨i, S', e, i0, i1, g'⟩ := take_ok (s := s) (n := n) (m := 2000000001) H g (by omega) (by omega) (by omega)
    refine ⟨i - 1000000000, S', ?_, by omega, by omega, by omega, by omega, g'⟩
    simp! [b5_0, b5_1, b5_2, b5_2a_0, e, decide_eq_false k0, decide_eq_false k1, decide_eq_true k2, if_pos]
  · obtain ⟨x, S', e, hx, g'⟩ := pick_ok (s := s) (n := n) (xs := [.int (-1000000000), .int 1000000000, .int 0, .int 1, .int (-1), .int 5]) H0 H g (by simp) (by simp) (by omega)
    have : ∃ i : Int, x = .int i ∧ -1000000000 ≤ i ∧ i ≤ 1000000000 := by
      simp only [List.mem_cons, List.not_mem_nil, or_false] at hx
      rcases hx with rfl | rfl | rfl | rfl | rfl | rfl <;> exact ⟨_, rfl, by decide, by decide⟩
    obtain ⟨i, rfl, i0, i1⟩ := this
    refine ⟨i, S', ?_, i0, i1, fun z => absurd z k1, fun z => absurd z k0, g'⟩
    simp! [b5_0, b5_1, b5_2, b5_3, e, decide_eq_false k0, decide_eq_false k1, decide_eq_false k2, if_pos, show ((10 : Int) ^ (9 : Int).toNat) = 1000000000 from rfl]
/-- a point of numbers -/
def ptD (ps : List Int) : D := .tup (ps.map .int)
theorem ints_of {ds : List D} {p : Int → Prop} (h : ∀ d ∈ ds, ∃ x : Int, d = .int x ∧ p x) : ∃ ps : List Int, ds = ps.map .int ∧ ∀ x ∈ ps, p x := by
  induction ds with
  | nil => exact ⟨[], rfl, fun _ z => nomatch z⟩
  | cons d ds ih =>
    obtain ⟨ps, e, q⟩ := ih fun x hx => h x (List.mem_cons_of_mem _ hx)
    obtain ⟨x, rfl, px⟩ := h d List.mem_cons_self
    exact ⟨x :: ps, by rw [e]; rfl, fun y hy => by
      rcases List.mem_cons.mp hy with rfl | hy
      · exact px
      · exact q y hy⟩
theorem point_ok {n : Nat} {w k : Int} (H9 : HasF P 9 b9_0 3 4) (H5 : HasF P 5 b5_0 2 2) (H0 : HasF P 0 b0_0 2 2) (H : HasF P 3 b3_0 2 5) (g : S.ok) (hw : 0 ≤ w) (hw2 : w ≤ 1000) (hn : 4 ≤ n) : ∃ (ps : List Int) (S' : DS), P.run n 9 [.ref s, .int w, .int k] (hS s S) = .ok (.v (ptD ps)) (hS s S') ∧ ps.length = w.toNat ∧ (∀ x ∈ ps, -1000000000 ≤ x ∧ x ≤ 1000000000 ∧ (k = 1 → -10 ≤ x ∧ x ≤ 10) ∧ (k = 0 → 0 ≤ x ∧ x < 4)) ∧ S'.ok := by
  obtain ⟨n, rfl⟩ : ∃ k, n = k + 1 := ⟨n - 1, by omega⟩
  rw [run_of H9 rfl]
  obtain ⟨ds, h2, e, ⟨S', rfl, g'⟩, hl, hd⟩ := cmp_inv (α := D) (tg := .nm 3) (own := [3]) (t := (evs (P.cvn n) .nil).an.t) (e := (ev (P.cvn n) (.frz (.call 5 (.cons (.var 0) (.cons (.var 2) .nil))))).v) (σ := [some (.v (.ref s)), some (.v (.int w)), some (.v (.int k)), none]) (f := fun x => x) (I := fun h => ∃ S' : DS, h = hS s S' ∧ S'.ok) (G := fun _ d => ∃ x : Int, d = .int x ∧ (-1000000000 ≤ x ∧ x ≤ 1000000000 ∧ (k = 1 → -10 ≤ x ∧ x ≤ 10) ∧ (k = 0 → 0 ≤ x ∧ x < 4)))
    (l := rngL 0 w.toNat) (h := hS s S) ⟨S, rfl, g⟩ fun a ha h ⟨S1, e1, g1⟩ => by
      subst e1
      obtain ⟨x, S2, e2, x0, x1, x2, x3, g2⟩ := number_ok (s := s) (n := n) (k := k) H5 H0 H g1 (by omega)
      exact ⟨_, .int x, hS s S2, rfl, rfl, by simp! [e2], ⟨S2, rfl, g2⟩, x, rfl, x0, x1, x2, x3⟩
  rw [List.map_id'] at e
  obtain ⟨ps, rfl, hp⟩ := ints_of fun d hd' => (hd d hd').elim fun _ z => z.2
  refine ⟨ps, S', ?_, by rw [List.length_map] at hl; rw [hl]; unfold rngL; rw [List.length_map, List.length_range], hp, g'⟩
  simp! [b9_0, if_pos, e]
  rfl
/-- the names that may be drawn -/
abbrev ltrs : PySem.Str := "abcdefghijklmnopqrstuvwxyz"
abbrev sfxs : List D := [.str "", .str "b", .str "aa", .str "x", .str "zq", .str "bb"]
def nmS (i : Int) : PySem.Str := match atD (chars ltrs) (i % 26), atD sfxs (i / 26) with
  | some (.str c), some (.str b) => c ++ b
  | _, _ => ""
def nmO (i : Int) : Bool := match atD (chars ltrs) (i % 26), atD sfxs (i / 26) with
  | some (.str c), some (.str b) => decide (c.length + b.length ≤ 16777216)
  | _, _ => false
theorem nmO_all : ∀ i : Fin 156, nmO (i.val : Int) = true := by decide +kernel
theorem nm_at {i : Int} (h0 : 0 ≤ i) (h1 : i < 156) : ∃ c b : PySem.Str, atD (chars ltrs) (i % 26) = some (.str c) ∧ atD sfxs (i / 26) = some (.str b) ∧ c.length + b.length ≤ 16777216 ∧ nmS i = c ++ b := by
  have k := nmO_all ⟨i.toNat, by omega⟩
  rw [show ((⟨i.toNat, by omega⟩ : Fin 156).val : Int) = i from by show (i.toNat : Int) = i; omega] at k
  unfold nmO at k
  unfold nmS
  split at k
  · rename_i c b e1 e2
    exact ⟨c, b, e1, e2, of_decide_eq_true k, rfl⟩
  · cases k
theorem names_ok {n : Nat} {m : Int} (H39 : HasF P 39 b39_0 2 7) (H0 : HasF P 0 b0_0 2 2) (H : HasF P 3 b3_0 2 5) (g : S.ok) (hm : 0 ≤ m) (hm2 : m ≤ 1000) (hn : 3 ≤ n) : ∃ (a st : Int) (S' : DS), P.run n 39 [.ref s, .int m] (hS s S) = .ok (.nl ((List.range m.toNat).map fun k => .str (nmS ((a + st * (k : Nat)) % 156)))) (hS s S') ∧ 0 ≤ a ∧ a < 156 ∧ (st = 1 ∨ st = 5 ∨ st = 7 ∨ st = 11 ∨ st = 25 ∨ st = 155) ∧ S'.ok := by
  obtain ⟨n, rfl⟩ : ∃ k, n = k + 1 := ⟨n - 1, by omega⟩
  rw [run_of H39 rfl]
  obtain ⟨a, S1, e1, a0, a1, g1⟩ := take_ok (s := s) (n := n) (m := 156) H g (by omega) (by omega) (by omega)
  obtain ⟨x, S2, e2, hx, g2⟩ := pick_ok (s := s) (n := n) (xs := [.int 1, .int 5, .int 7, .int 11, .int 25, .int 155]) H0 H g1 (by simp) (by simp) (by omega)
  have : ∃ st : Int, x = .int st ∧ (st = 1 ∨ st = 5 ∨ st = 7 ∨ st = 11 ∨ st = 25 ∨ st = 155) := by
    simp only [List.mem_cons, List.not_mem_nil, or_false] at hx
    rcases hx with rfl | rfl | rfl | rfl | rfl | rfl <;> exact ⟨_, rfl, by simp⟩
  obtain ⟨st, rfl, hst⟩ := this
  refine ⟨a, st, S2, ?_, a0, a1, hst, g2⟩
  simp! [b39_0, e1, e2, b39_1, b39_2, if_pos]
  have loop : ∀ (j k : Nat) (x3 x6 : Option SV), k + j = m.toNat → ∃ z3 z6, forE (.nm 3) (evB (P.cvn n) b39_2a_0) ((List.range' k j).map fun i => .int (i : Nat)) [some (.v (.ref s)), some (.v (.int m)), some (.l ((List.range k).map fun k => .str (nmS ((a + st * (k : Nat)) % 156)))), x3, some (.v (.int a)), some (.v (.int st)), x6] (hS s S2) = .nx [some (.v (.ref s)), some (.v (.int m)), some (.l ((List.range m.toNat).map fun k => .str (nmS ((a + st * (k : Nat)) % 156)))), z3, some (.v (.int a)), some (.v (.int st)), z6] (hS s S2) := by
    intro j
    induction j with
    | zero =>
      intro k x3 x6 hk
      obtain rfl : k = m.toNat := by omega
      exact ⟨x3, x6, rfl⟩
    | succ j ih =>
      intro k x3 x6 hk
      obtain ⟨y3, y6, e⟩ := ih (k + 1) (some (.v (.int k))) (some (.v (.int ((a + st * k) % 156)))) (by omega)
      refine ⟨y3, y6, ?_⟩
      rw [List.range'_succ, List.map_cons]
      have i0 : 0 ≤ (a + st * (k : Int)) % 156 := Int.emod_nonneg _ (by decide)
      have i1 : (a + st * (k : Int)) % 156 < 156 := Int.emod_lt_of_pos _ (by decide)
      have step : evB (P.cvn n) b39_2a_0 [some (.v (.ref s)), some (.v (.int m)), some (.l ((List.range k).map fun k => .str (nmS ((a + st * (k : Nat)) % 156)))), some (.v (.int k)), some (.v (.int a)), some (.v (.int st)), x6] (hS s S2) = .nx [some (.v (.ref s)), some (.v (.int m)), some (.l ((List.range (k + 1)).map fun k => .str (nmS ((a + st * (k : Nat)) % 156)))), some (.v (.int k)), some (.v (.int a)), some (.v (.int st)), some (.v (.int ((a + st * k) % 156)))] (hS s S2) := by
        have hs : -(2 ^ 64) < st ∧ st < 2 ^ 64 := by omega
        rw [List.range_succ, List.map_append, List.map_cons, List.map_nil]
        generalize eqi : (a + st * (k : Int)) % 156 = i at i0 i1
        obtain ⟨c, b, l1, l2, l3, l4⟩ := nm_at i0 i1
        rw [l4]
        simp! [b39_2a_0, b39_2a_1, eqi, l1, l2, List.length_map, List.length_range, if_pos]
      rw [for_step rfl step]
      exact e
  obtain ⟨y3, y6, e⟩ := loop m.toNat 0 none none (by omega)
  have er : rngL 0 m.toNat = (List.range' 0 m.toNat).map fun i => .int (i : Nat) := by
    unfold rngL
    rw [List.range_eq_range']
    exact List.map_congr_left fun i _ => by rw [Int.zero_add]
  rw [er]
  have e : forE (Tg.nm 3) (evB (P.cvn n) b39_2a_0) _ [some (.v (.ref s)), some (.v (.int m)), some (.l []), none, some (.v (.int a)), some (.v (.int st)), none] (hS s S2) = _ := e
  rw [e]
  simp! [b39_3]
end
end Sx
namespace T
open PySem PySem.Spec PyProof.Rows L2 Nd
/-! is_whole(thing, least, most) | 0:thing 1:least 2:most -/
def b2_0 : B := .cons (.ret (.an (.cons (.bi .isi (.cons (.var 0) (.cons (.ty "int") .nil))) (.cons (.nt (.bi .isi (.cons (.var 0) (.cons (.ty "bool") .nil)))) (.cons (.chn .LtE .LtE (.var 1) (.var 0) (.var 2)) .nil))))) .nil
/-! is_point(thing) | 0:thing 1:number -/
def b1_0a_0 : B := .cons (.ret (.cst (.bl false))) .nil
def b1_1 : B := .cons (.ret (.bl .all (.comp .seq (.cons (.var 0) .nil) (.nm 1) [1] .nil (.frz (.call 2 (.cons (.var 1) (.cons (.neg (.gl "GREATEST" (.int 1000000000))) (.cons (.gl "GREATEST" (.int 1000000000)) .nil)))))))) .nil
def b1_0 : B := .cons (.ite (.or (.cons (.nt (.bi .isi (.cons (.var 0) (.cons (.ty "tuple") .nil)))) (.cons (.nt (.chn .LtE .LtE (.cst (.int 1)) (.bi .len (.cons (.var 0) .nil)) (.gl "MOST_WIDE" (.int 4)))) .nil))) b1_0a_0 .nil) b1_1
/-! is_way(thing) | 0:thing -/
def b33_0 : B := .cons (.ret (.an (.cons (.bi .isi (.cons (.var 0) (.cons (.ty "str") .nil))) (.cons (.cmp .In (.var 0) (.gl "WAYS" (.tup [(.str "taxi"), (.str "chess"), (.str "square")]))) .nil)))) .nil
/-! need_way(way) | 0:way -/
def b37_0a_0 : B := .cons (.raise 11) .nil
def b37_0 : B := .cons (.ite (.nt (.call 33 (.cons (.var 0) .nil))) b37_0a_0 .nil) .nil
/-! need_point(point) | 0:point -/
def b34_0a_0 : B := .cons (.raise 14) .nil
def b34_0 : B := .cons (.ite (.nt (.call 1 (.cons (.var 0) .nil))) b34_0a_0 .nil) .nil
/-! need_width(point, width) | 0:point 1:width -/
def b35_1a_0 : B := .cons (.raise 14) .nil
def b35_1 : B := .cons (.ite (.an (.cons (.cmp .IsNot (.var 1) (.cst .non)) (.cons (.cmp .NotEq (.bi .len (.cons (.var 0) .nil)) (.var 1)) .nil))) b35_1a_0 .nil) .nil
def b35_0 : B := .cons (.ex (.call 34 (.cons (.var 0) .nil))) b35_1
/-! length(way, steps) | 0:way 1:steps 2:step -/
def b17_0a_0 : B := .cons (.ret (.bl .sum (.var 1))) .nil
def b17_1a_0 : B := .cons (.ret (.bl .max (.var 1))) .nil
def b17_2 : B := .cons (.ret (.bl .sum (.comp .seq (.cons (.var 1) .nil) (.nm 2) [2] .nil (.frz (.bin .Mult (.var 2) (.var 2)))))) .nil
def b17_1 : B := .cons (.ite (.cmp .Eq (.var 0) (.cst (.str "chess"))) b17_1a_0 .nil) b17_2
def b17_0 : B := .cons (.ite (.cmp .Eq (.var 0) (.cst (.str "taxi"))) b17_0a_0 .nil) b17_1
/-! apart_by(way, one, other) | 0:way 1:one 2:other 3:first 4:second -/
def b15_0 : B := .cons (.ret (.call 17 (.cons (.var 0) (.cons (.frz (.comp .zip2 (.cons (.var 1) (.cons (.var 2) .nil)) (.tp [3, 4]) [3, 4] .nil (.bi .abs (.cons (.bin .Sub (.var 3) (.var 4)) .nil)))) .nil)))) .nil
/-! is_name(thing) | 0:thing 1:sign -/
def b6_0a_0 : B := .cons (.ret (.cst (.bl false))) .nil
def b6_1 : B := .cons (.ret (.bl .all (.comp .seq (.cons (.var 0) .nil) (.nm 1) [1] .nil (.cmp .In (.var 1) (.gl "LETTERS" (.str "abcdefghijklmnopqrstuvwxyz")))))) .nil
def b6_0 : B := .cons (.ite (.or (.cons (.nt (.bi .isi (.cons (.var 0) (.cons (.ty "str") .nil)))) (.cons (.nt (.chn .LtE .LtE (.cst (.int 1)) (.bi .len (.cons (.var 0) .nil)) (.gl "MOST_LETTERS" (.int 6)))) (.cons (.cmp .In (.var 0) (.gl "KEPT" (.tup [(.str "at"), (.str "by"), (.str "or"), (.str "none")]))) .nil)))) b6_0a_0 .nil) b6_1
/-! is_table(thing) | 0:thing 1:name 2:point -/
def b10_0a_0 : B := .cons (.ret (.cst (.bl false))) .nil
def b10_1a_0 : B := .cons (.ret (.cst (.bl false))) .nil
def b10_2 : B := .cons (.ret (.cmp .LtE (.lset false (.comp .values (.cons (.var 0) .nil) (.nm 2) [2] .nil (.bi .len (.cons (.var 2) .nil)))) (.cst (.int 1)))) .nil
def b10_1 : B := .cons (.ite (.nt (.bl .all (.comp .items (.cons (.var 0) .nil) (.tp [1, 2]) [1, 2] .nil (.an (.cons (.call 6 (.cons (.var 1) .nil)) (.cons (.call 1 (.cons (.var 2) .nil)) .nil)))))) b10_1a_0 .nil) b10_2
def b10_0 : B := .cons (.ite (.or (.cons (.nt (.bi .isi (.cons (.var 0) (.cons (.ty "dict") .nil)))) (.cons (.cmp .Gt (.bi .len (.cons (.var 0) .nil)) (.gl "MOST_THINGS" (.int 300))) .nil))) b10_0a_0 .nil) b10_1
/-! need_table(table) | 0:table -/
def b12_0a_0 : B := .cons (.raise 7) .nil
def b12_0 : B := .cons (.ite (.nt (.call 10 (.cons (.var 0) .nil))) b12_0a_0 .nil) .nil
/-! table_width(table) | 0:table 1:widths 2:point -/
def b101_1 : B := .cons (.ret (.ife (.cmp .NotEq (.var 1) (.lst .nil)) (.sub (.var 1) (.cst (.int 0))) (.cst .non))) .nil
def b101_0 : B := .cons (.set 1 (.comp .values (.cons (.var 0) .nil) (.nm 2) [2] .nil (.bi .len (.cons (.var 2) .nil)))) (.cons (.fz 1) b101_1)
/-! need_few(few) | 0:few -/
def b41_0a_0 : B := .cons (.raise 18) .nil
def b41_0 : B := .cons (.ite (.nt (.call 2 (.cons (.var 0) (.cons (.cst (.int 1)) (.cons (.gl "MOST_FEW" (.int 1000)) .nil))))) b41_0a_0 .nil) .nil
/-! ranks_of(things, way, point) | 0:things 1:way 2:point 3:name 4:place -/
def b97_0 : B := .cons (.ret (.bl .sorted (.comp .seq (.cons (.var 0) .nil) (.tp [3, 4]) [3, 4] .nil (.tup (.cons (.frz (.call 15 (.cons (.var 1) (.cons (.var 4) (.cons (.var 2) .nil))))) (.cons (.var 3) .nil)))))) .nil
/-! cut_off(ranks, few) | 0:ranks 1:few 2:rows 3:ties 4:number 5:name -/
def b48_2 : B := .cons (.ret (.tup (.cons (.var 2) (.cons (.frz (.bl .sorted (.var 3))) .nil)))) .nil
def b48_1 : B := .cons (.set 3 (.comp .seq (.cons (.slL (.var 0) (.var 1)) .nil) (.tp [4, 5]) [4, 5] (.cons (.cmp .Eq (.var 4) (.sub (.sub (.var 2) (.neg (.cst (.int 1)))) (.cst (.int 1)))) .nil) (.var 5))) (.cons (.fz 3) b48_2)
def b48_0 : B := .cons (.set 2 (.comp .seq (.cons (.slU (.var 0) (.var 1)) .nil) (.tp [4, 5]) [4, 5] .nil (.tup (.cons (.var 5) (.cons (.var 4) .nil))))) (.cons (.fz 2) b48_1)
/-! ranked(table, way, point) | 0:table 1:way 2:point 3:number 4:name -/
def b395_3 : B := .cons (.ret (.comp .seq (.cons (.call 97 (.cons (.frz (.itm (.var 0))) (.cons (.var 1) (.cons (.var 2) .nil)))) .nil) (.tp [3, 4]) [3, 4] .nil (.tup (.cons (.var 4) (.cons (.var 3) .nil))))) .nil
def b395_2 : B := .cons (.ex (.call 35 (.cons (.var 2) (.cons (.frz (.call 101 (.cons (.var 0) .nil))) .nil)))) b395_3
def b395_1 : B := .cons (.ex (.call 37 (.cons (.var 1) .nil))) b395_2
def b395_0 : B := .cons (.ex (.call 12 (.cons (.var 0) .nil))) b395_1
/-! near_all(table, way, point, few) | 0:table 1:way 2:point 3:few -/
def b263_4 : B := .cons (.ret (.call 48 (.cons (.frz (.call 97 (.cons (.frz (.itm (.var 0))) (.cons (.var 1) (.cons (.var 2) .nil))))) (.cons (.var 3) .nil)))) .nil
def b263_3 : B := .cons (.ex (.call 41 (.cons (.var 3) .nil))) b263_4
def b263_2 : B := .cons (.ex (.call 35 (.cons (.var 2) (.cons (.frz (.call 101 (.cons (.var 0) .nil))) .nil)))) b263_3
def b263_1 : B := .cons (.ex (.call 37 (.cons (.var 1) .nil))) b263_2
def b263_0 : B := .cons (.ex (.call 12 (.cons (.var 0) .nil))) b263_1
end T
/-! Sx3: what the defs of points, ways and tables do (each def is asked of the program by a class F<number>). -/
namespace Sx
open PySem PySem.Spec PyProof.Rows L2 Nd T
class F1 (P : Pr) : Prop where
  h : HasF P 1 b1_0 1 2
class F2 (P : Pr) : Prop where
  h : HasF P 2 b2_0 3 3
class F6 (P : Pr) : Prop where
  h : HasF P 6 b6_0 1 2
class F10 (P : Pr) : Prop where
  h : HasF P 10 b10_0 1 3
class F12 (P : Pr) : Prop where
  h : HasF P 12 b12_0 1 1
class F15 (P : Pr) : Prop where
  h : HasF P 15 b15_0 3 5
class F17 (P : Pr) : Prop where
  h : HasF P 17 b17_0 2 3
class F33 (P : Pr) : Prop where
  h : HasF P 33 b33_0 1 1
class F34 (P : Pr) : Prop where
  h : HasF P 34 b34_0 1 1
class F35 (P : Pr) : Prop where
  h : HasF P 35 b35_0 2 2
class F37 (P : Pr) : Prop where
  h : HasF P 37 b37_0 1 1
class F41 (P : Pr) : Prop where
  h : HasF P 41 b41_0 1 1
class F48 (P : Pr) : Prop where
  h : HasF P 48 b48_0 2 6
class F97 (P : Pr) : Prop where
  h : HasF P 97 b97_0 3 5
class F101 (P : Pr) : Prop where
  h : HasF P 101 b101_0 1 3
class F263 (P : Pr) : Prop where
  h : HasF P 263 b263_0 4 4
class F395 (P : Pr) : Prop where
  h : HasF P 395 b395_0 3 5
theorem inSeq_flat {x : D} {xs : List D} {l : Bool} (h : (flatD x && xs.all flatD) = true) : inSeq x xs l = some (inF x xs) := if_pos h
def wholeD (d : D) (a b : Int) : Bool := match d with
  | .int i => decide (a ≤ i) && decide (i ≤ b)
  | _ => false
theorem whole_ok {P : Pr} [F2 P] {n : Nat} {d : D} {a b : Int} {h : HD} (hd : ∃ t, tyE d = some t) (hn : 1 ≤ n) : P.run n 2 [d, .int a, .int b] h = .ok (.v (.bl (wholeD d a b))) h := by
  obtain ⟨m, rfl⟩ : ∃ m, n = m + 1 := ⟨n - 1, by omega⟩
  obtain ⟨t, hd⟩ := hd
  rw [run_of (F2.h (P := P)) rfl]
  cases d <;> first | (cases hd; done) | (simp! [b2_0, wholeD])
def pointD (d : D) : Bool := match d with
  | .tup xs => (decide (1 ≤ (xs.length : Int)) && decide ((xs.length : Int) ≤ 4)) && xs.all fun x => wholeD x (-1000000000) 1000000000
  | _ => false
def ty1 (d : D) : Prop := (∃ t, tyE d = some t) ∧ ∀ xs, d = .tup xs → ∀ x ∈ xs, ∃ t, tyE x = some t
theorem isPoint_ok {P : Pr} [F2 P] [F1 P] {n : Nat} {d : D} {h : HD} (hd : ty1 d) (hn : 2 ≤ n) : P.run n 1 [d] h = .ok (.v (.bl (pointD d))) h := by
  obtain ⟨m, rfl⟩ : ∃ m, n = m + 1 := ⟨n - 1, by omega⟩
  rw [run_of (F1.h (P := P)) rfl]
  cases d with
  | tup xs =>
    cases q : (decide (1 ≤ (xs.length : Int)) && decide ((xs.length : Int) ≤ 4)) with
    | false => simp! [b1_0, b1_0a_0, q, pointD]
    | true =>
      simp! [b1_0, b1_0a_0, b1_1, q, pointD]
      rw [cmp_map1 (g := fun x => .bl (wholeD x (-1000000000) 1000000000)) fun x hx => ⟨_, rfl, rfl, by simp! [whole_ok (hd.2 xs rfl x hx)]⟩]
      simp! []
  | _ => first | (obtain ⟨t, z⟩ := hd.1; cases z; done) | (simp! [b1_0, b1_0a_0, pointD])
theorem need_point_ok {P : Pr} [F2 P] [F1 P] [F34 P] {n : Nat} {d : D} {h : HD} (hd : ty1 d) (hn : 3 ≤ n) : P.run n 34 [d] h = if pointD d = true then .ok (.v .non) h else .ex 14 h := by
  obtain ⟨m, rfl⟩ : ∃ m, n = m + 1 := ⟨n - 1, by omega⟩
  rw [run_of (F34.h (P := P)) rfl]
  cases q : pointD d <;> simp! [b34_0, b34_0a_0, isPoint_ok hd, q]
/-- a point, of this width if there is one -/
def widthD (d : D) (w : Option Int) : Bool := match w, d with
  | none, d => pointD d
  | some k, .tup xs => pointD (.tup xs) && decide ((xs.length : Int) = k)
  | _, _ => false
def wD : Option Int → D
  | none => .non
  | some k => .int k
theorem need_width_ok {P : Pr} [F2 P] [F1 P] [F34 P] [F35 P] {n : Nat} {d : D} {w : Option Int} {h : HD} (hd : ty1 d) (hn : 4 ≤ n) : P.run n 35 [d, wD w] h = if widthD d w = true then .ok (.v .non) h else .ex 14 h := by
  obtain ⟨m, rfl⟩ : ∃ m, n = m + 1 := ⟨n - 1, by omega⟩
  rw [run_of (F35.h (P := P)) rfl]
  cases q : pointD d with
  | false =>
    have z : widthD d w = false := by unfold widthD; split <;> simp_all
    simp! [b35_0, need_point_ok hd, q, z]
  | true =>
    cases w with
    | none =>
      have z : widthD d none = true := q
      simp! [b35_0, b35_1, need_point_ok hd, q, z, wD]
    | some k =>
      cases d with
      | tup xs =>
        cases r : decide ((xs.length : Int) = k) with
        | false => simp! [b35_0, b35_1, b35_1a_0, need_point_ok hd, q, r, wD, widthD]
        | true => simp! [b35_0, b35_1, b35_1a_0, need_point_ok hd, q, r, wD, widthD]
      | _ => cases q
abbrev wayL : List D := [.str "taxi", .str "chess", .str "square"]
def wayD (d : D) : Bool := match d with
  | .str s => inF (.str s) wayL
  | _ => false
theorem way_ok {P : Pr} [F33 P] {n : Nat} {d : D} {h : HD} (hd : ∃ t, tyE d = some t) (hn : 1 ≤ n) : P.run n 33 [d] h = .ok (.v (.bl (wayD d))) h := by
  obtain ⟨m, rfl⟩ : ∃ m, n = m + 1 := ⟨n - 1, by omega⟩
  obtain ⟨t, hd⟩ := hd
  rw [run_of (F33.h (P := P)) rfl]
  cases d with
  | str s =>
    simp! [b33_0, wayD, inSeq_flat (x := .str s) (xs := wayL) rfl]
  | _ => first | (cases hd; done) | (simp! [b33_0, wayD])
theorem need_way_ok {P : Pr} [F33 P] [F37 P] {n : Nat} {d : D} {h : HD} (hd : ∃ t, tyE d = some t) (hn : 2 ≤ n) : P.run n 37 [d] h = if wayD d = true then .ok (.v .non) h else .ex 11 h := by
  obtain ⟨m, rfl⟩ : ∃ m, n = m + 1 := ⟨n - 1, by omega⟩
  rw [run_of (F37.h (P := P)) rfl]
  cases q : wayD d <;> simp! [b37_0, b37_0a_0, way_ok hd, q]
theorem need_few_ok {P : Pr} [F2 P] [F41 P] {n : Nat} {d : D} {h : HD} (hd : ∃ t, tyE d = some t) (hn : 2 ≤ n) : P.run n 41 [d] h = if wholeD d 1 1000 = true then .ok (.v .non) h else .ex 18 h := by
  obtain ⟨m, rfl⟩ : ∃ m, n = m + 1 := ⟨n - 1, by omega⟩
  rw [run_of (F41.h (P := P)) rfl]
  cases q : wholeD d 1 1000 <;> simp! [b41_0, b41_0a_0, whole_ok hd, q]
abbrev keptL : List D := [.str "at", .str "by", .str "or", .str "none"]
def signD (d : D) : Bool := match d with
  | .str c => !(Builtin.Str.occurrences ltrs c 0 ltrs.length 1).isEmpty
  | _ => false
def nameD (d : D) : Bool := match d with
  | .str s => (decide (1 ≤ (s.length : Int)) && decide ((s.length : Int) ≤ 6)) && (!inF (.str s) keptL && (chars s).all signD)
  | _ => false
theorem name_ok {P : Pr} [F6 P] {n : Nat} {d : D} {h : HD} (hd : ∃ t, tyE d = some t) (hn : 1 ≤ n) : P.run n 6 [d] h = .ok (.v (.bl (nameD d))) h := by
  obtain ⟨m, rfl⟩ : ∃ m, n = m + 1 := ⟨n - 1, by omega⟩
  obtain ⟨t, hd⟩ := hd
  rw [run_of (F6.h (P := P)) rfl]
  cases d with
  | str s =>
    cases q : (decide (1 ≤ (s.length : Int)) && decide ((s.length : Int) ≤ 6)) with
    | false => simp! [b6_0, b6_0a_0, nameD, q]
    | true =>
      cases r : inF (.str s) keptL with
      | true => simp! [b6_0, b6_0a_0, nameD, q, inSeq_flat (x := .str s) (xs := keptL) rfl, r]
      | false =>
        simp! [b6_0, b6_0a_0, b6_1, nameD, q, inSeq_flat (x := .str s) (xs := keptL) rfl, r]
        rw [cmp_map1 (g := fun x => .bl (signD x)) fun x hx => ⟨_, rfl, rfl, by
          obtain ⟨c, rfl⟩ : ∃ c, x = .str c := by
            unfold chars at hx
            obtain ⟨c, _, rfl⟩ := List.mem_map.mp hx
            exact ⟨_, rfl⟩
          simp! [signD]⟩]
        simp! []
  | _ => first | (cases hd; done) | (simp! [b6_0, b6_0a_0, nameD])
/-! ### tables -/
def lenD (d : D) : Int := match d with
  | .tup xs => xs.length
  | _ => 0
def tableD (d : D) : Bool := match d with
  | .kdc ks vs => !decide (300 < (vs.length : Int)) && ((ks.zip vs).all (fun p => nameD (kD p.1) && pointD p.2) && decide (((dedupZ (vs.map lenD)).length : Int) ≤ 1))
  | _ => false
structure tyT (d : D) : Prop where
  ty : ∃ t, tyE d = some t
  kd : ∀ ks vs, d = .kdc ks vs → ks.length = vs.length ∧ ∀ v ∈ vs, ty1 v
theorem tup_of {d : D} (h : pointD d = true) : ∃ xs, d = .tup xs := by
  cases d <;> first | exact ⟨_, rfl⟩ | cases h
theorem zip_snd {ks : List Key} {vs : List D} (h : ks.length = vs.length) : (ks.zip vs).map (·.2) = vs := List.map_snd_zip (by omega)
theorem table_tup {ks : List Key} {vs : List D} (h : ks.length = vs.length) (a : (ks.zip vs).all (fun p => nameD (kD p.1) && pointD p.2) = true) : ∀ v ∈ vs, ∃ xs, v = .tup xs := fun v hv => by
  rw [← zip_snd h] at hv
  obtain ⟨p, hp, rfl⟩ := List.mem_map.mp hv
  exact tup_of (Bool.and_eq_true_iff.mp (List.all_eq_true.mp a p hp)).2
theorem ty_kD {k : Key} : ∃ t, tyE (kD k) = some t := by cases k <;> exact ⟨_, rfl⟩
theorem table_ok {P : Pr} [F2 P] [F1 P] [F6 P] [F10 P] {n : Nat} {d : D} {h : HD} (hd : tyT d) (hn : 3 ≤ n) : P.run n 10 [d] h = .ok (.v (.bl (tableD d))) h := by
  obtain ⟨m, rfl⟩ : ∃ m, n = m + 1 := ⟨n - 1, by omega⟩
  rw [run_of (F10.h (P := P)) rfl]
  cases d with
  | kdc ks vs =>
    obtain ⟨hl, hv⟩ := hd.kd ks vs rfl
    cases q : decide (300 < (vs.length : Int)) with
    | true => simp! [b10_0, b10_0a_0, q, tableD]
    | false =>
      have q' := of_decide_eq_false q
      simp! [b10_0, b10_0a_0, b10_1, q, tableD]
      rw [cmp_map (f := fun p : Key × D => .tup [kD p.1, p.2]) (g := fun p => .bl (nameD (kD p.1) && pointD p.2)) fun p hp => ⟨_, rfl, rfl, by
        have : p.2 ∈ vs := by rw [← zip_snd hl]; exact List.mem_map_of_mem hp
        simp! [name_ok (ty_kD (k := p.1)), isPoint_ok (hv _ this)]⟩]
      cases r : (ks.zip vs).all (fun p => nameD (kD p.1) && pointD p.2) with
      | false => simp! [b10_1a_0, r]
      | true =>
        simp! [b10_2, r]
        rw [cmp_map1 (g := fun x => .int (lenD x)) fun x hx => ⟨_, rfl, rfl, by
          obtain ⟨xs, rfl⟩ := table_tup hl r x hx
          simp! [lenD]⟩]
        have z : (vs.map lenD).length + 1 < PySem.scanBound := by rw [List.length_map, show PySem.scanBound = 4096 from rfl]; omega
        simp! [if_pos z]
  | _ => first | (obtain ⟨t, z⟩ := hd.ty; cases z; done) | (simp! [b10_0, b10_0a_0, tableD])
theorem need_table_ok {P : Pr} [F2 P] [F1 P] [F6 P] [F10 P] [F12 P] {n : Nat} {d : D} {h : HD} (hd : tyT d) (hn : 4 ≤ n) : P.run n 12 [d] h = if tableD d = true then .ok (.v .non) h else .ex 7 h := by
  obtain ⟨m, rfl⟩ : ∃ m, n = m + 1 := ⟨n - 1, by omega⟩
  rw [run_of (F12.h (P := P)) rfl]
  cases q : tableD d <;> simp! [b12_0, b12_0a_0, table_ok hd, q]
def widthOf (vs : List D) : Option Int := match vs with
  | [] => none
  | v :: _ => some (lenD v)
theorem eq_nil {d : D} {xs : List D} : eqE (.kls (d :: xs)) (.kls []) = some false := by
  show eqG (.kls (d :: xs)) (.kls []) = some false
  unfold eqG
  split
  · rfl
  · rfl
theorem width_ok {P : Pr} [F101 P] {n : Nat} {ks : List Key} {vs : List D} {h : HD} (hv : ∀ v ∈ vs, ∃ xs, v = .tup xs) (hn : 1 ≤ n) : P.run n 101 [.kdc ks vs] h = .ok (.v (wD (widthOf vs))) h := by
  obtain ⟨m, rfl⟩ : ∃ m, n = m + 1 := ⟨n - 1, by omega⟩
  rw [run_of (F101.h (P := P)) rfl]
  simp! [b101_0]
  rw [cmp_map1 (g := fun x => .int (lenD x)) fun x hx => ⟨_, rfl, rfl, by
    obtain ⟨xs, rfl⟩ := hv x hx
    simp! [lenD]⟩]
  cases vs with
  | nil => simp! [b101_1, show eqE (.kls []) (.kls []) = some true from rfl, widthOf, wD]
  | cons v vs =>
    have z : ∀ {d : D} {xs : List D}, atD (d :: xs) 0 = some d := fun {d xs} => by
      rw [at_nn (by decide) (by rw [List.length_cons]; omega)]; rfl
    simp! [b101_1, eq_nil, widthOf, wD, z]
theorem table_parts {ks : List Key} {vs : List D} (hl : ks.length = vs.length) (h : tableD (.kdc ks vs) = true) : ∀ v ∈ vs, ∃ xs, v = .tup xs :=
  table_tup hl (Bool.and_eq_true_iff.mp (Bool.and_eq_true_iff.mp h).2).1
section
variable {n : Nat} {d w p few : D} {ks : List Key} {vs : List D} {h : HD}
theorem ranked_7 {P : Pr} [F2 P] [F1 P] [F6 P] [F10 P] [F12 P] [F395 P] (hd : tyT d) (q : tableD d = false) (hn : 5 ≤ n) : P.run n 395 [d, w, p] h = .ex 7 h := by
  obtain ⟨m, rfl⟩ : ∃ m, n = m + 1 := ⟨n - 1, by omega⟩
  rw [run_of (F395.h (P := P)) rfl]
  simp! [b395_0, need_table_ok hd, q]
theorem ranked_11 {P : Pr} [F2 P] [F1 P] [F6 P] [F10 P] [F12 P] [F33 P] [F37 P] [F395 P] (hd : tyT d) (hw : ∃ t, tyE w = some t) (q : tableD d = true) (r : wayD w = false) (hn : 5 ≤ n) : P.run n 395 [d, w, p] h = .ex 11 h := by
  obtain ⟨m, rfl⟩ : ∃ m, n = m + 1 := ⟨n - 1, by omega⟩
  rw [run_of (F395.h (P := P)) rfl]
  simp! [b395_0, b395_1, need_table_ok hd, q, need_way_ok hw, r]
theorem fr_w {o : Option Int} : frzE (.v (wD o)) = some (.v (wD o)) := by cases o <;> rfl
theorem ranked_14 {P : Pr} [F2 P] [F1 P] [F6 P] [F10 P] [F12 P] [F33 P] [F37 P] [F34 P] [F35 P] [F101 P] [F395 P] (hd : tyT (.kdc ks vs)) (hw : ∃ t, tyE w = some t) (hp : ty1 p) (q : tableD (.kdc ks vs) = true) (r : wayD w = true) (z : widthD p (widthOf vs) = false) (hn : 5 ≤ n) : P.run n 395 [.kdc ks vs, w, p] h = .ex 14 h := by
  obtain ⟨m, rfl⟩ : ∃ m, n = m + 1 := ⟨n - 1, by omega⟩
  rw [run_of (F395.h (P := P)) rfl]
  simp! [b395_0, b395_1, b395_2, need_table_ok hd, q, need_way_ok hw, r, width_ok (table_parts (hd.kd ks vs rfl).1 q), fr_w, need_width_ok hp, z]
theorem near_7 {P : Pr} [F2 P] [F1 P] [F6 P] [F10 P] [F12 P] [F263 P] (hd : tyT d) (q : tableD d = false) (hn : 5 ≤ n) : P.run n 263 [d, w, p, few] h = .ex 7 h := by
  obtain ⟨m, rfl⟩ : ∃ m, n = m + 1 := ⟨n - 1, by omega⟩
  rw [run_of (F263.h (P := P)) rfl]
  simp! [b263_0, need_table_ok hd, q]
theorem near_11 {P : Pr} [F2 P] [F1 P] [F6 P] [F10 P] [F12 P] [F33 P] [F37 P] [F263 P] (hd : tyT d) (hw : ∃ t, tyE w = some t) (q : tableD d = true) (r : wayD w = false) (hn : 5 ≤ n) : P.run n 263 [d, w, p, few] h = .ex 11 h := by
  obtain ⟨m, rfl⟩ : ∃ m, n = m + 1 := ⟨n - 1, by omega⟩
  rw [run_of (F263.h (P := P)) rfl]
  simp! [b263_0, b263_1, need_table_ok hd, q, need_way_ok hw, r]
theorem near_14 {P : Pr} [F2 P] [F1 P] [F6 P] [F10 P] [F12 P] [F33 P] [F37 P] [F34 P] [F35 P] [F101 P] [F263 P] (hd : tyT (.kdc ks vs)) (hw : ∃ t, tyE w = some t) (hp : ty1 p) (q : tableD (.kdc ks vs) = true) (r : wayD w = true) (z : widthD p (widthOf vs) = false) (hn : 5 ≤ n) : P.run n 263 [.kdc ks vs, w, p, few] h = .ex 14 h := by
  obtain ⟨m, rfl⟩ : ∃ m, n = m + 1 := ⟨n - 1, by omega⟩
  rw [run_of (F263.h (P := P)) rfl]
  simp! [b263_0, b263_1, b263_2, need_table_ok hd, q, need_way_ok hw, r, width_ok (table_parts (hd.kd ks vs rfl).1 q), fr_w, need_width_ok hp, z]
theorem near_18 {P : Pr} [F2 P] [F1 P] [F6 P] [F10 P] [F12 P] [F33 P] [F37 P] [F34 P] [F35 P] [F101 P] [F41 P] [F263 P] (hd : tyT (.kdc ks vs)) (hw : ∃ t, tyE w = some t) (hp : ty1 p) (hf : ∃ t, tyE few = some t) (q : tableD (.kdc ks vs) = true) (r : wayD w = true) (z : widthD p (widthOf vs) = true) (u : wholeD few 1 1000 = false) (hn : 5 ≤ n) : P.run n 263 [.kdc ks vs, w, p, few] h = .ex 18 h := by
  obtain ⟨m, rfl⟩ : ∃ m, n = m + 1 := ⟨n - 1, by omega⟩
  rw [run_of (F263.h (P := P)) rfl]
  simp! [b263_0, b263_1, b263_2, b263_3, need_table_ok hd, q, need_way_ok hw, r, width_ok (table_parts (hd.kd ks vs rfl).1 q), fr_w, need_width_ok hp, z, need_few_ok hf, u]
end
/-! ### what is found -/
section
variable {n : Nat} {h : HD}
def taxi (ps qs : List Int) : Int := ((ps.zip qs).map fun p => if p.1 - p.2 < 0 then -(p.1 - p.2) else p.1 - p.2).sum
theorem length_ok {P : Pr} [F17 P] {ns : List Int} (hn : 1 ≤ n) : P.run n 17 [.str "taxi", .kls (ns.map .int)] h = .ok (.v (.int ns.sum)) h := by
  obtain ⟨m, rfl⟩ : ∃ m, n = m + 1 := ⟨n - 1, by omega⟩
  rw [run_of (F17.h (P := P)) rfl]
  simp! [b17_0, b17_0a_0, show decide (PySem.Str.ofString "taxi" = PySem.Str.ofString "taxi") = true from rfl]
theorem apart_ok {P : Pr} [F17 P] [F15 P] {ps qs : List Int} (hn : 2 ≤ n) : P.run n 15 [.str "taxi", ptD ps, ptD qs] h = .ok (.v (.int (taxi ps qs))) h := by
  obtain ⟨m, rfl⟩ : ∃ m, n = m + 1 := ⟨n - 1, by omega⟩
  rw [run_of (F15.h (P := P)) rfl]
  have z : zipL (ps.map .int) (qs.map .int) = (ps.zip qs).map fun p => .tup [.int p.1, .int p.2] := by
    unfold zipL
    rw [List.zip_map, List.map_map]
    rfl
  simp! [b15_0, ptD, z]
  rw [cmp_map (f := fun p : Int × Int => .tup [.int p.1, .int p.2]) (g := fun p => .int (if p.1 - p.2 < 0 then -(p.1 - p.2) else p.1 - p.2)) fun p hp => ⟨_, rfl, rfl, by simp! []⟩]
  have z2 : (ps.zip qs).map (fun p => D.int (if p.1 - p.2 < 0 then -(p.1 - p.2) else p.1 - p.2)) = ((ps.zip qs).map fun p => if p.1 - p.2 < 0 then -(p.1 - p.2) else p.1 - p.2).map .int := by rw [List.map_map]; rfl
  rw [z2]
  simp! [length_ok]
  rfl
/-- a number and a name -/
def rk (d : D) : Prop := ∃ (a : Int) (s : PySem.Str), d = .tup [.int a, .str s]
theorem rk_pb {xs : List D} (hx : ∀ d ∈ xs, rk d) : pyBs xs = true := by
  induction xs with
  | nil => rfl
  | cons x xs ih =>
    obtain ⟨a, s, rfl⟩ := hx x List.mem_cons_self
    show (pyB (.tup [.int a, .str s]) && pyBs xs) = true
    rw [ih fun d hd => hx d (List.mem_cons_of_mem _ hd)]
    rfl
theorem rk_ps {xs : List D} (hx : ∀ d ∈ xs, rk d) : ∀ p ∈ toPs xs, ∃ (a : Int) (s : PySem.Str), p = .tuple [.int a, .str s] := by
  induction xs with
  | nil => exact fun _ z => nomatch z
  | cons x xs ih =>
    intro p hp
    obtain ⟨a, s, rfl⟩ := hx x List.mem_cons_self
    rcases List.mem_cons.mp (show p ∈ PyData.tuple [.int a, .str s] :: toPs xs from hp) with rfl | hp
    · exact ⟨a, s, rfl⟩
    · exact ih (fun d hd => hx d (List.mem_cons_of_mem _ hd)) p hp
theorem rk_dep {xs : List D} (hx : ∀ d ∈ xs, rk d) : PyData.depthAll (toPs xs) ≤ 1 := by
  induction xs with
  | nil => exact Nat.zero_le _
  | cons x xs ih =>
    obtain ⟨a, s, rfl⟩ := hx x List.mem_cons_self
    show max (PyData.depth (.tuple [.int a, .str s])) (PyData.depthAll (toPs xs)) ≤ 1
    exact Nat.max_le.mpr ⟨Nat.le_of_eq rfl, ih fun d hd => hx d (List.mem_cons_of_mem _ hd)⟩
theorem rk_srt {xs : List D} (hx : ∀ d ∈ xs, rk d) : (pyBs xs && srtB (toPs xs)) = true := by
  rw [rk_pb hx, Bool.true_and]
  unfold srtB
  have h1 : ((toPs xs).all fun d => (toPs xs).all fun e => PySem.W.alike d e) = true := by
    rw [List.all_eq_true]
    intro d hd
    rw [List.all_eq_true]
    intro e he
    obtain ⟨a, s, rfl⟩ := rk_ps hx d hd
    obtain ⟨b, t, rfl⟩ := rk_ps hx e he
    simp only [PySem.W.alike, PySem.W.alikeAll, Bool.and_self]
  have h2 : (toPs xs).all tupB = true := by
    rw [List.all_eq_true]
    intro d hd
    obtain ⟨a, s, rfl⟩ := rk_ps hx d hd
    rfl
  have h3 := rk_dep hx
  rw [h1, h2, decide_eq_true (show PyData.depthAll (toPs xs) ≤ 64 by omega)]
  rfl
theorem toPs_len {xs : List D} : (toPs xs).length = xs.length := by
  induction xs with
  | nil => rfl
  | cons x xs ih => exact congrArg (· + 1) ih
theorem sort_mem {xs : List D} {d : D} (h : d ∈ sortD xs (toPs xs)) : d ∈ xs := by
  unfold sortD at h
  obtain ⟨p, hp, rfl⟩ := List.mem_map.mp h
  have := (List.mergeSort_perm _ _).mem_iff.mp hp
  exact (List.of_mem_zip this).1
theorem sort_len {xs : List D} : (sortD xs (toPs xs)).length = xs.length := by
  unfold sortD
  rw [List.length_map, (List.mergeSort_perm _ _).length_eq, List.length_zip, toPs_len, Nat.min_self]
theorem sort_nil : sortD [] (toPs []) = [] := by
  unfold sortD
  show (([] : List (D × PyData)).mergeSort _).map _ = []
  rw [List.mergeSort_nil]
  rfl
/-- things: a name, a point -/
theorem ranks_ok {P : Pr} [F17 P] [F15 P] [F97 P] {l : List (PySem.Str × List Int)} {qs : List Int} (hn : 3 ≤ n) : ∃ L, P.run n 97 [.kls (l.map fun p => .tup [.str p.1, ptD p.2]), .str "taxi", ptD qs] h = .ok (.nl L) h ∧ (∀ d ∈ L, rk d) ∧ L.length = l.length := by
  obtain ⟨m, rfl⟩ : ∃ m, n = m + 1 := ⟨n - 1, by omega⟩
  have rks : ∀ d ∈ l.map (fun p => D.tup [.int (taxi p.2 qs), .str p.1]), rk d := fun d hd => by
    obtain ⟨p, _, rfl⟩ := List.mem_map.mp hd
    exact ⟨_, _, rfl⟩
  refine ⟨sortD (l.map fun p => D.tup [.int (taxi p.2 qs), .str p.1]) (toPs (l.map fun p => D.tup [.int (taxi p.2 qs), .str p.1])), ?_, fun d hd => rks d (sort_mem hd), by rw [sort_len, List.length_map]⟩
  rw [run_of (F97.h (P := P)) rfl]
  simp! [b97_0]
  rw [cmp_map (f := fun p : PySem.Str × List Int => .tup [.str p.1, ptD p.2]) (g := fun p => .tup [.int (taxi p.2 qs), .str p.1]) fun p hp => ⟨_, rfl, rfl, by simp! [apart_ok]⟩]
  simp! [if_pos (rk_srt rks)]
theorem ranks_nil {P : Pr} [F97 P] {w p : D} (hn : 1 ≤ n) : P.run n 97 [.kls [], w, p] h = .ok (.nl []) h := by
  obtain ⟨m, rfl⟩ : ∃ m, n = m + 1 := ⟨n - 1, by omega⟩
  rw [run_of (F97.h (P := P)) rfl]
  simp! [b97_0, cmpE, show (pyBs [] && srtB (toPs [])) = true from rfl, sort_nil]
theorem cut_big {L : List D} {k : Int} (hk : (L.length : Int) ≤ k) : Nd.cutD L (some k) none = [] ∧ Nd.cutD L none (some k) = L := by
  unfold Nd.cutD
  have e : HT.sIx L.length 0 (some k) = L.length := by
    show (if k < 0 then (k + (L.length : Int)).toNat else min k.toNat L.length) = _
    rw [if_neg (by omega)]
    omega
  have e2 : HT.sIx L.length L.length (some k) = L.length := by
    show (if k < 0 then (k + (L.length : Int)).toNat else min k.toNat L.length) = _
    rw [if_neg (by omega)]
    omega
  constructor
  · rw [e, List.drop_length, List.take_nil]
  · rw [e2, show HT.sIx L.length 0 none = 0 from rfl, List.drop_zero, Nat.sub_zero, List.take_length]
def swp (d : D) : D := match d with
  | .tup [a, b] => .tup [b, a]
  | d => d
theorem cut_ok {P : Pr} [F48 P] {L : List D} {k : Int} (hL : ∀ d ∈ L, rk d) (hk : (L.length : Int) ≤ k) (hn : 1 ≤ n) : P.run n 48 [.kls L, .int k] h = .ok (.v (.tup [.kls (L.map swp), .kls []])) h := by
  obtain ⟨m, rfl⟩ : ∃ m, n = m + 1 := ⟨n - 1, by omega⟩
  rw [run_of (F48.h (P := P)) rfl]
  obtain ⟨c1, c2⟩ := cut_big hk
  simp! [b48_0, b48_1, c1, c2]
  rw [cmp_map1 (g := swp) fun d hd => by
    obtain ⟨a, s, rfl⟩ := hL d hd
    exact ⟨_, rfl, rfl, by simp! [swp]⟩]
  simp! [b48_1, b48_2, c1, cmpE, show (pyBs [] && srtB (toPs [])) = true from rfl, sort_nil]
end
/-! ### tables of points -/
section
variable {n : Nat} {h : HD}
def tabD (l : List (PySem.Str × List Int)) : D := .kdc (l.map fun p => .inr p.1) (l.map fun p => ptD p.2)
theorem ty_pt {ps : List Int} : ty1 (ptD ps) := ⟨⟨_, rfl⟩, fun xs e x hx => by
  injection e with e
  rw [← e] at hx
  obtain ⟨y, _, rfl⟩ := List.mem_map.mp hx
  exact ⟨_, rfl⟩⟩
theorem tyT_tab {l : List (PySem.Str × List Int)} : tyT (tabD l) := ⟨⟨_, rfl⟩, fun ks vs e => by
  injection e with e1 e2
  subst e1 e2
  refine ⟨by rw [List.length_map, List.length_map], fun v hv => ?_⟩
  obtain ⟨p, _, rfl⟩ := List.mem_map.mp hv
  exact ty_pt⟩
theorem tab_zip {l : List (PySem.Str × List Int)} : ((l.map fun p => (Sum.inr p.1 : Key)).zip (l.map fun p => ptD p.2)) = l.map fun p => ((.inr p.1 : Key), ptD p.2) := by
  rw [List.zip_map']
theorem near_big {P : Pr} [F2 P] [F1 P] [F6 P] [F10 P] [F12 P] [F33 P] [F37 P] [F34 P] [F35 P] [F101 P] [F41 P] [F17 P] [F15 P] [F97 P] [F48 P] [F263 P] {l : List (PySem.Str × List Int)} {qs : List Int} (q : tableD (tabD l) = true) (z : widthD (ptD qs) (widthOf (l.map fun p => ptD p.2)) = true) (hl : l.length ≤ 1000) (hn : 8 ≤ n) : ∃ L, P.run n 263 [tabD l, .str "taxi", ptD qs, .int 1000] h = .ok (.v (.tup [.kls L, .kls []])) h := by
  obtain ⟨m, rfl⟩ : ∃ m, n = m + 1 := ⟨n - 1, by omega⟩
  obtain ⟨L, e, rk, eL⟩ := ranks_ok (P := P) (n := m) (h := h) (l := l) (qs := qs) (by omega)
  refine ⟨L.map swp, ?_⟩
  rw [run_of (F263.h (P := P)) rfl]
  have q' := q
  have hd := tyT_tab (l := l)
  unfold tabD at q hd
  have e1 := cut_ok (P := P) (n := m) (h := h) (k := 1000) rk (by omega) (by omega)
  have hi : (((l.map fun p => (Sum.inr p.1 : Key)).zip (l.map fun p => ptD p.2)).map fun p => D.tup [kD p.1, p.2]) = l.map fun p => .tup [.str p.1, ptD p.2] := by
    rw [tab_zip, List.map_map]
    rfl
  simp! [b263_0, b263_1, b263_2, b263_3, b263_4, tabD, need_table_ok hd, q, need_way_ok (d := .str "taxi") ⟨_, rfl⟩, show wayD (.str "taxi") = true from rfl, width_ok (table_parts (hd.kd _ _ rfl).1 q), fr_w, need_width_ok (ty_pt (ps := qs)), z, need_few_ok (d := .int 1000) ⟨_, rfl⟩, show wholeD (.int 1000) 1 1000 = true from rfl, hi, e, e1]
theorem tyT_nil : tyT (.kdc [] []) := tyT_tab (l := [])
theorem near_nil {P : Pr} [F2 P] [F1 P] [F6 P] [F10 P] [F12 P] [F33 P] [F37 P] [F34 P] [F35 P] [F101 P] [F41 P] [F97 P] [F48 P] [F263 P] {w p : D} {k : Int} (hw : ∃ t, tyE w = some t) (hp : ty1 p) (r : wayD w = true) (z : pointD p = true) (k0 : 1 ≤ k) (k1 : k ≤ 1000) (hn : 8 ≤ n) : P.run n 263 [.kdc [] [], w, p, .int k] h = .ok (.v (.tup [.kls [], .kls []])) h := by
  obtain ⟨m, rfl⟩ : ∃ m, n = m + 1 := ⟨n - 1, by omega⟩
  rw [run_of (F263.h (P := P)) rfl]
  have q : tableD (.kdc [] []) = true := rfl
  have e1 := cut_ok (P := P) (n := m) (h := h) (k := k) (L := []) (fun _ z => nomatch z) (by show (0 : Int) ≤ k; omega) (by omega)
  have z2 : widthD p none = true := z
  have z3 : wholeD (.int k) 1 1000 = true := by show (decide (1 ≤ k) && decide (k ≤ 1000)) = true; rw [decide_eq_true k0, decide_eq_true k1]; rfl
  simp! [b263_0, b263_1, b263_2, b263_3, b263_4, need_table_ok tyT_nil, q, need_way_ok hw, r, width_ok (ks := []) (vs := []) (fun _ z => nomatch z), fr_w, widthOf, need_width_ok hp, z2, need_few_ok (d := .int k) ⟨_, rfl⟩, z3, ranks_nil, e1]
theorem ranked_nil {P : Pr} [F2 P] [F1 P] [F6 P] [F10 P] [F12 P] [F33 P] [F37 P] [F34 P] [F35 P] [F101 P] [F97 P] [F395 P] {w p : D} (hw : ∃ t, tyE w = some t) (hp : ty1 p) (r : wayD w = true) (z : pointD p = true) (hn : 8 ≤ n) : P.run n 395 [.kdc [] [], w, p] h = .ok (.nl []) h := by
  obtain ⟨m, rfl⟩ : ∃ m, n = m + 1 := ⟨n - 1, by omega⟩
  rw [run_of (F395.h (P := P)) rfl]
  have q : tableD (.kdc [] []) = true := rfl
  have z2 : widthD p none = true := z
  simp! [b395_0, b395_1, b395_2, b395_3, need_table_ok tyT_nil, q, need_way_ok hw, r, width_ok (ks := []) (vs := []) (fun _ z => nomatch z), fr_w, widthOf, need_width_ok hp, z2, ranks_nil, cmpE]
end
end Sx
namespace T
open PySem PySem.Spec PyProof.Rows L2 Nd
/-! is_ball_way(way) | 0:way -/
def b89_0 : B := .cons (.ret (.an (.cons (.bi .isi (.cons (.var 0) (.cons (.ty "str") .nil))) (.cons (.cmp .In (.var 0) (.gl "BALL_WAYS" (.tup [(.str "taxi"), (.str "chess")]))) .nil)))) .nil
/-! need_ball_way(way) | 0:way -/
def b93_0a_0 : B := .cons (.raise 11) .nil
def b93_0 : B := .cons (.ite (.nt (.call 89 (.cons (.var 0) .nil))) b93_0a_0 .nil) .nil
/-! part_has_form(part, deep) | 0:part 1:deep 2:end -/
def b154_0a_0 : B := .cons (.ret (.cst (.bl true))) .nil
def b154_1a_0 : B := .cons (.ret (.cst (.bl false))) .nil
def b154_2 : B := .cons (.ret (.call 151 (.cons (.sub (.var 0) (.cst (.int 2))) (.cons (.var 1) .nil)))) .nil
def b154_1 : B := .cons (.ite (.or (.cons (.nt (.bi .isi (.cons (.var 0) (.cons (.ty "tuple") .nil)))) (.cons (.cmp .NotEq (.bi .len (.cons (.var 0) .nil)) (.cst (.int 3))) (.cons (.nt (.bl .all (.comp .seq (.cons (.slU (.var 0) (.cst (.int 2))) .nil) (.nm 2) [2] .nil (.frz (.call 2 (.cons (.var 2) (.cons (.cst (.int 0)) (.cons (.gl "FARTHEST" (.int 8000000000)) .nil)))))))) .nil)))) b154_1a_0 .nil) b154_2
def b154_0 : B := .cons (.ite (.cmp .Is (.var 0) (.cst .non)) b154_0a_0 .nil) b154_1
/-! has_ball_form(thing, deep) | 0:thing 1:deep 2:part -/
def b151_0a_0 : B := .cons (.ret (.cst (.bl false))) .nil
def b151_1a_0 : B := .cons (.ret (.cst (.bl false))) .nil
def b151_2 : B := .cons (.ret (.bl .all (.comp .seq (.cons (.slL (.var 0) (.cst (.int 3))) .nil) (.nm 2) [2] .nil (.frz (.call 154 (.cons (.var 2) (.cons (.bin .Add (.var 1) (.cst (.int 1))) .nil))))))) .nil
def b151_1 : B := .cons (.ite (.or (.cons (.nt (.bi .isi (.cons (.sub (.var 0) (.cst (.int 0))) (.cons (.ty "str") .nil)))) (.cons (.cmp .NotEq (.sub (.var 0) (.cst (.int 0))) (.cst (.str "ball"))) (.cons (.nt (.call 6 (.cons (.sub (.var 0) (.cst (.int 1))) .nil))) (.cons (.nt (.call 1 (.cons (.sub (.var 0) (.cst (.int 2))) .nil))) .nil))))) b151_1a_0 .nil) b151_2
def b151_0 : B := .cons (.ite (.or (.cons (.cmp .Gt (.var 1) (.gl "DEEPEST" (.int 40))) (.cons (.nt (.bi .isi (.cons (.var 0) (.cons (.ty "tuple") .nil)))) (.cons (.cmp .NotEq (.bi .len (.cons (.var 0) .nil)) (.cst (.int 5))) .nil)))) b151_0a_0 .nil) b151_1
/-! things_around(ball) | 0:ball 1:found 2:part -/
def b156_0a_0 : B := .cons (.ret (.lst .nil)) .nil
def b156_2a_0 : B := .cons (.aug 1 .Add (.call 156 (.cons (.ife (.cmp .Is (.var 2) (.cst .non)) (.cst .non) (.sub (.var 2) (.cst (.int 2)))) .nil))) .nil
def b156_3 : B := .cons (.ret (.var 1)) .nil
def b156_2 : B := .cons (.for_ .seq (.cons (.slL (.var 0) (.cst (.int 3))) .nil) (.nm 2) b156_2a_0) b156_3
def b156_1 : B := .cons (.set 1 (.lst (.cons (.tup (.cons (.sub (.var 0) (.cst (.int 1))) (.cons (.sub (.var 0) (.cst (.int 2))) .nil))) .nil))) b156_2
def b156_0 : B := .cons (.ite (.cmp .Is (.var 0) (.cst .non)) b156_0a_0 .nil) b156_1
/-! ends_from(way, middle, things) | 0:way 1:middle 2:things 3:numbers 4:name 5:point -/
def b150_1 : B := .cons (.ret (.tup (.cons (.bl .min (.var 3)) (.cons (.bl .max (.var 3)) .nil)))) .nil
def b150_0 : B := .cons (.set 3 (.comp .seq (.cons (.var 2) .nil) (.tp [4, 5]) [4, 5] .nil (.frz (.call 15 (.cons (.var 0) (.cons (.var 1) (.cons (.var 5) .nil))))))) (.cons (.fz 3) b150_1)
/-! has_true_ends(way, ball) | 0:way 1:ball 2:part -/
def b152_0a_0a_0 : B := .cons (.ret (.cst (.bl false))) .nil
def b152_0a_1a_0 : B := .cons (.ret (.cst (.bl false))) .nil
def b152_0a_1 : B := .cons (.ite (.an (.cons (.cmp .IsNot (.var 2) (.cst .non)) (.cons (.nt (.call 152 (.cons (.var 0) (.cons (.sub (.var 2) (.cst (.int 2))) .nil)))) .nil))) b152_0a_1a_0 .nil) .nil
def b152_0a_0 : B := .cons (.ite (.an (.cons (.cmp .IsNot (.var 2) (.cst .non)) (.cons (.cmp .NotEq (.slU (.var 2) (.cst (.int 2))) (.call 150 (.cons (.var 0) (.cons (.sub (.var 1) (.cst (.int 2))) (.cons (.frz (.call 156 (.cons (.sub (.var 2) (.cst (.int 2))) .nil))) .nil))))) .nil))) b152_0a_0a_0 .nil) b152_0a_1
def b152_1 : B := .cons (.ret (.or (.cons (.cmp .Is (.sub (.var 1) (.cst (.int 3))) (.cst .non)) (.cons (.cmp .Is (.sub (.var 1) (.cst (.int 4))) (.cst .non)) (.cons (.cmp .LtE (.sub (.sub (.var 1) (.cst (.int 3))) (.cst (.int 1))) (.sub (.sub (.var 1) (.cst (.int 4))) (.cst (.int 0)))) .nil))))) .nil
def b152_0 : B := .cons (.for_ .seq (.cons (.slL (.var 1) (.cst (.int 3))) .nil) (.nm 2) b152_0a_0) b152_1
/-! is_ball(way, thing) | 0:way 1:thing 2:things 3:name 4:point -/
def b153_0a_0 : B := .cons (.ret (.cst (.bl false))) .nil
def b153_2a_0 : B := .cons (.ret (.cst (.bl false))) .nil
def b153_3 : B := .cons (.ret (.an (.cons (.cmp .Eq (.lset false (.comp .seq (.cons (.var 2) .nil) (.tp [3, 4]) [3, 4] .nil (.bi .len (.cons (.var 4) .nil)))) (.cst (.int 1))) (.cons (.call 152 (.cons (.var 0) (.cons (.var 1) .nil))) .nil)))) .nil
def b153_2 : B := .cons (.ite (.or (.cons (.cmp .Gt (.bi .len (.cons (.var 2) .nil)) (.gl "MOST_THINGS" (.int 300))) (.cons (.cmp .Lt (.lset false (.comp .seq (.cons (.var 2) .nil) (.tp [3, 4]) [3, 4] .nil (.var 3))) (.bi .len (.cons (.var 2) .nil))) .nil))) b153_2a_0 .nil) b153_3
def b153_1 : B := .cons (.set 2 (.frz (.call 156 (.cons (.var 1) .nil)))) b153_2
def b153_0 : B := .cons (.ite (.or (.cons (.nt (.call 89 (.cons (.var 0) .nil))) (.cons (.nt (.call 151 (.cons (.var 1) (.cons (.cst (.int 0)) .nil)))) .nil))) b153_0a_0 .nil) b153_1
/-! need_ball(way, ball) | 0:way 1:ball -/
def b163_0a_0 : B := .cons (.raise 81) .nil
def b163_0 : B := .cons (.ite (.an (.cons (.cmp .IsNot (.var 1) (.cst .non)) (.cons (.nt (.call 153 (.cons (.var 0) (.cons (.var 1) .nil)))) .nil))) b163_0a_0 .nil) .nil
/-! part_around(way, middle, things) | 0:way 1:middle 2:things -/
def b222_0a_0 : B := .cons (.ret (.cst .non)) .nil
def b222_1 : B := .cons (.ret (.bin .Add (.call 150 (.cons (.var 0) (.cons (.var 1) (.cons (.var 2) .nil)))) (.tup (.cons (.frz (.call 212 (.cons (.var 0) (.cons (.var 2) .nil)))) .nil)))) .nil
def b222_0 : B := .cons (.ite (.cmp .Eq (.var 2) (.lst .nil)) b222_0a_0 .nil) b222_1
/-! ball_around(way, things) | 0:way 1:things 2:ranks 3:others 4:half 5:inner 6:name 7:middle 8:number 9:other 10:point -/
def b212_5 : B := .cons (.ret (.tup (.cons (.cst (.str "ball")) (.cons (.var 6) (.cons (.var 7) (.cons (.var 5) (.cons (.frz (.call 222 (.cons (.var 0) (.cons (.var 7) (.cons (.frz (.slL (.var 3) (.var 4))) .nil))))) .nil))))))) .nil
def b212_4 : B := .cons (.set 5 (.frz (.call 222 (.cons (.var 0) (.cons (.var 7) (.cons (.frz (.slU (.var 3) (.var 4))) .nil)))))) b212_5
def b212_3 : B := .cons (.set 4 (.bin .FloorDiv (.bin .Add (.bi .len (.cons (.var 3) .nil)) (.cst (.int 1))) (.cst (.int 2)))) b212_4
def b212_2 : B := .cons (.set 3 (.comp .seq (.cons (.var 2) .nil) (.tp [8, 9, 10]) [8, 9, 10] .nil (.tup (.cons (.var 9) (.cons (.var 10) .nil))))) (.cons (.fz 3) b212_3)
def b212_1 : B := .cons (.set 2 (.frz (.bl .sorted (.comp .seq (.cons (.var 1) .nil) (.tp [9, 10]) [9, 10] (.cons (.cmp .NotEq (.var 9) (.var 6)) .nil) (.tup (.cons (.frz (.call 15 (.cons (.var 0) (.cons (.var 7) (.cons (.var 10) .nil))))) (.cons (.var 9) (.cons (.var 10) .nil)))))))) b212_2
def b212_0 : B := .cons (.setT (.tp [6, 7]) (.bl .min (.var 1))) b212_1
/-! balled(table, way) | 0:table 1:way -/
def b213_2 : B := .cons (.ret (.ife (.cmp .Gt (.bi .len (.cons (.var 0) .nil)) (.cst (.int 0))) (.frz (.call 212 (.cons (.var 1) (.cons (.frz (.itm (.var 0))) .nil)))) (.cst .non))) .nil
def b213_1 : B := .cons (.ex (.call 93 (.cons (.var 1) .nil))) b213_2
def b213_0 : B := .cons (.ex (.call 12 (.cons (.var 0) .nil))) b213_1
/-! ball_table(way, ball) | 0:way 1:ball -/
def b322_2 : B := .cons (.ret (.bl .dict (.bl .sorted (.call 156 (.cons (.var 1) .nil))))) .nil
def b322_1 : B := .cons (.ex (.call 163 (.cons (.var 0) (.cons (.var 1) .nil)))) b322_2
def b322_0 : B := .cons (.ex (.call 93 (.cons (.var 0) .nil))) b322_1
/-! _law_things(_law_state, _law_width, _law_many_here) | 0:_law_state 1:_law_width 2:_law_many_here 3:_law_kind 4:_law_way 5:_law_some 6:_law_found 7:_law_name 8:_law_point_here 9:_law_number_here -/
def b54_4a_1a_0 : B := .cons (.set 8 (.frz (.call 0 (.cons (.var 0) (.cons (.var 5) .nil))))) .nil
def b54_4a_2a_0 : B := .cons (.set 8 (.bin .Add (.tup (.cons (.sub (.var 8) (.cst (.int 0))) .nil)) (.slL (.sub (.var 5) (.cst (.int 0))) (.cst (.int 1))))) .nil
def b54_4a_3a_0 : B := .cons (.set 8 (.sub (.var 5) (.cst (.int 0)))) .nil
def b54_4a_4a_0 : B := .cons (.set 8 (.bl .tuple (.comp .seq (.cons (.var 8) .nil) (.nm 9) [9] .nil (.frz (.bin .Add (.bin .FloorDiv (.var 9) (.cst (.int 1000))) (.sub (.lst (.cons (.cst (.int 0)) (.cons (.bin .Pow (.cst (.int 10)) (.cst (.int 8))) .nil))) (.bin .Mod (.bi .len (.cons (.var 6) .nil)) (.cst (.int 2))))))))) .nil
def b54_4a_6 : B := .cons (.ex (.bm .append (.var 6) (.cons (.tup (.cons (.var 7) (.cons (.var 8) .nil))) .nil))) .nil
def b54_4a_5 : B := .cons (.ex (.bm .append (.var 5) (.cons (.var 8) .nil))) b54_4a_6
def b54_4a_4 : B := .cons (.ite (.cmp .Eq (.var 4) (.cst (.int 4))) b54_4a_4a_0 .nil) b54_4a_5
def b54_4a_3 : B := .cons (.ite (.an (.cons (.cmp .Eq (.var 4) (.cst (.int 3))) (.cons (.cmp .Gt (.call 3 (.cons (.var 0) (.cons (.cst (.int 8)) .nil))) (.cst (.int 0))) .nil))) b54_4a_3a_0 .nil) b54_4a_4
def b54_4a_2 : B := .cons (.ite (.cmp .Eq (.var 4) (.cst (.int 2))) b54_4a_2a_0 .nil) b54_4a_3
def b54_4a_1 : B := .cons (.ite (.an (.cons (.cmp .Eq (.var 4) (.cst (.int 1))) (.cons (.cmp .Eq (.call 3 (.cons (.var 0) (.cons (.cst (.int 2)) .nil))) (.cst (.int 1))) .nil))) b54_4a_1a_0 .nil) b54_4a_2
def b54_4a_0 : B := .cons (.set 8 (.frz (.call 9 (.cons (.var 0) (.cons (.var 1) (.cons (.var 3) .nil)))))) b54_4a_1
def b54_5 : B := .cons (.ret (.var 6)) .nil
def b54_4 : B := .cons (.for_ .seq (.cons (.call 39 (.cons (.var 0) (.cons (.var 2) .nil))) .nil) (.nm 7) b54_4a_0) b54_5
def b54_3 : B := .cons (.set 6 (.lst .nil)) b54_4
def b54_2 : B := .cons (.set 5 (.lst (.cons (.frz (.call 9 (.cons (.var 0) (.cons (.var 1) (.cons (.var 3) .nil))))) .nil))) b54_3
def b54_1 : B := .cons (.set 4 (.frz (.call 3 (.cons (.var 0) (.cons (.cst (.int 6)) .nil))))) b54_2
def b54_0 : B := .cons (.set 3 (.frz (.call 0 (.cons (.var 0) (.cons (.frz (.lst (.cons (.cst (.int 0)) (.cons (.cst (.int 0)) (.cons (.cst (.int 1)) (.cons (.cst (.int 1)) (.cons (.cst (.int 2)) (.cons (.cst (.int 3)) .nil)))))))) .nil))))) b54_1
/-! _law_size(_law_state, _law_bound) | 0:_law_state 1:_law_bound 2:_law_some -/
def b56_1 : B := .cons (.ret (.bin .Mod (.call 0 (.cons (.var 0) (.cons (.var 2) .nil))) (.bin .Add (.var 1) (.cst (.int 1))))) .nil
def b56_0 : B := .cons (.set 2 (.frz (.lst (.cons (.frz (.call 3 (.cons (.var 0) (.cons (.cst (.int 8)) .nil)))) (.cons (.frz (.call 3 (.cons (.var 0) (.cons (.cst (.int 20)) .nil)))) (.cons (.frz (.call 3 (.cons (.var 0) (.cons (.bin .Add (.var 1) (.cst (.int 1))) .nil)))) (.cons (.cst (.int 0)) (.cons (.cst (.int 3)) (.cons (.cst (.int 4)) .nil))))))))) b56_1
/-! _law_table(_law_state, _law_bound) | 0:_law_state 1:_law_bound -/
def b133_0 : B := .cons (.ret (.call 54 (.cons (.var 0) (.cons (.bin .Add (.cst (.int 1)) (.call 3 (.cons (.var 0) (.cons (.cst (.int 4)) .nil)))) (.cons (.frz (.call 56 (.cons (.var 0) (.cons (.var 1) .nil)))) .nil))))) .nil
/-! _law_truth(_law_found, _law_due) | 0:_law_found 1:_law_due -/
def b252_0 : B := .cons (.ret (.an (.cons (.bi .isi (.cons (.var 0) (.cons (.ty "bool") .nil))) (.cons (.cmp .Eq (.var 0) (.var 1)) .nil)))) .nil
/-! _law_apart(_law_way, _law_one, _law_other) | 0:_law_way 1:_law_one 2:_law_other 3:_law_steps 4:_law_axis -/
def b144_1 : B := .cons (.ret (.ife (.cmp .Eq (.var 0) (.cst (.str "taxi"))) (.bl .sum (.var 3)) (.bl .max (.var 3)))) .nil
def b144_0 : B := .cons (.set 3 (.comp .rng1 (.cons (.bi .len (.cons (.var 1) .nil)) .nil) (.nm 4) [4] .nil (.bi .abs (.cons (.bin .Sub (.sub (.var 1) (.var 4)) (.sub (.var 2) (.var 4))) .nil)))) (.cons (.fz 3) b144_1)
/-! _law_part(_law_way, _law_middle, _law_things_here, _law_ball_here) | 0:_law_way 1:_law_middle 2:_law_things_here 3:_law_ball_here 4:_law_numbers 5:_law_name 6:_law_point_here -/
def b248_0a_0 : B := .cons (.ret (.cst .non)) .nil
def b248_2 : B := .cons (.ret (.tup (.cons (.bl .min (.var 4)) (.cons (.bl .max (.var 4)) (.cons (.var 3) .nil))))) .nil
def b248_1 : B := .cons (.set 4 (.comp .seq (.cons (.var 2) .nil) (.tp [5, 6]) [5, 6] .nil (.frz (.call 144 (.cons (.var 0) (.cons (.var 1) (.cons (.var 6) .nil))))))) (.cons (.fz 4) b248_2)
def b248_0 : B := .cons (.ite (.cmp .Eq (.var 2) (.lst .nil)) b248_0a_0 .nil) b248_1
/-! _law_ball(_law_way, _law_things_here) | 0:_law_way 1:_law_things_here 2:_law_ranks 3:_law_others 4:_law_half 5:_law_inner 6:_law_name 7:_law_middle 8:_law_number_here 9:_law_other 10:_law_point_here -/
def b275_0a_0 : B := .cons (.ret (.cst .non)) .nil
def b275_6 : B := .cons (.ret (.tup (.cons (.cst (.str "ball")) (.cons (.var 6) (.cons (.var 7) (.cons (.var 5) (.cons (.frz (.call 248 (.cons (.var 0) (.cons (.var 7) (.cons (.frz (.slL (.var 3) (.var 4))) (.cons (.frz (.call 275 (.cons (.var 0) (.cons (.frz (.slL (.var 3) (.var 4))) .nil)))) .nil)))))) .nil))))))) .nil
def b275_5 : B := .cons (.set 5 (.frz (.call 248 (.cons (.var 0) (.cons (.var 7) (.cons (.frz (.slU (.var 3) (.var 4))) (.cons (.frz (.call 275 (.cons (.var 0) (.cons (.frz (.slU (.var 3) (.var 4))) .nil)))) .nil))))))) b275_6
def b275_4 : B := .cons (.set 4 (.bin .Sub (.bi .len (.cons (.var 3) .nil)) (.bin .FloorDiv (.bi .len (.cons (.var 3) .nil)) (.cst (.int 2))))) b275_5
def b275_3 : B := .cons (.set 3 (.comp .seq (.cons (.var 2) .nil) (.tp [8, 9, 10]) [8, 9, 10] .nil (.tup (.cons (.var 9) (.cons (.var 10) .nil))))) (.cons (.fz 3) b275_4)
def b275_2 : B := .cons (.set 2 (.frz (.bl .sorted (.comp .seq (.cons (.var 1) .nil) (.tp [9, 10]) [9, 10] (.cons (.cmp .NotEq (.var 9) (.var 6)) .nil) (.tup (.cons (.frz (.call 144 (.cons (.var 0) (.cons (.var 7) (.cons (.var 10) .nil))))) (.cons (.var 9) (.cons (.var 10) .nil)))))))) b275_3
def b275_1 : B := .cons (.setT (.tp [6, 7]) (.sub (.bl .sorted (.var 1)) (.cst (.int 0)))) b275_2
def b275_0 : B := .cons (.ite (.cmp .Eq (.var 1) (.lst .nil)) b275_0a_0 .nil) b275_1
/-! _law_inside(_law_ball_here) | 0:_law_ball_here 1:_law_found 2:_law_part_here -/
def b548_0a_0 : B := .cons (.ret (.lst .nil)) .nil
def b548_2a_0a_0 : B := .cons (.set 1 (.frz (.bin .Add (.var 1) (.call 548 (.cons (.sub (.var 2) (.cst (.int 2))) .nil))))) .nil
def b548_2a_0 : B := .cons (.ite (.cmp .IsNot (.var 2) (.cst .non)) b548_2a_0a_0 .nil) .nil
def b548_3 : B := .cons (.ret (.var 1)) .nil
def b548_2 : B := .cons (.for_ .seq (.cons (.slL (.var 0) (.cst (.int 3))) .nil) (.nm 2) b548_2a_0) b548_3
def b548_1 : B := .cons (.set 1 (.frz (.lst (.cons (.tup (.cons (.sub (.var 0) (.cst (.int 1))) (.cons (.sub (.var 0) (.cst (.int 2))) .nil))) .nil)))) b548_2
def b548_0 : B := .cons (.ite (.cmp .Is (.var 0) (.cst .non)) b548_0a_0 .nil) b548_1
end T
/-! Sx5: drawn things. -/
namespace Sx
open PySem PySem.Spec PyProof.Rows L2 Nd T
class F0 (P : Pr) : Prop where
  h : HasF P 0 b0_0 2 2
class F3 (P : Pr) : Prop where
  h : HasF P 3 b3_0 2 5
class F5 (P : Pr) : Prop where
  h : HasF P 5 b5_0 2 2
class F8 (P : Pr) : Prop where
  h : HasF P 8 b8_0 1 2
class F9 (P : Pr) : Prop where
  h : HasF P 9 b9_0 3 4
class F39 (P : Pr) : Prop where
  h : HasF P 39 b39_0 2 7
class F54 (P : Pr) : Prop where
  h : HasF P 54 b54_0 3 10
class F56 (P : Pr) : Prop where
  h : HasF P 56 b56_0 2 3
class F133 (P : Pr) : Prop where
  h : HasF P 133 b133_0 2 2
/-! ### slices -/
theorem cut_lo {xs : List D} {k : Int} (hk : 0 ≤ k) : Nd.cutD xs (some k) none = xs.drop k.toNat := by
  unfold Nd.cutD
  have e : HT.sIx xs.length 0 (some k) = min k.toNat xs.length := by
    show (if k < 0 then (k + (xs.length : Int)).toNat else min k.toNat xs.length) = _
    rw [if_neg (by omega)]
  rw [e, show HT.sIx xs.length xs.length none = xs.length from rfl]
  by_cases h : k.toNat ≤ xs.length
  · rw [Nat.min_eq_left h, List.take_of_length_le (by simp)]
  · rw [Nat.min_eq_right (by omega), List.drop_length, List.drop_eq_nil_of_le (by omega), List.take_nil]
theorem cut_hi {xs : List D} {k : Int} (hk : 0 ≤ k) : Nd.cutD xs none (some k) = xs.take k.toNat := by
  unfold Nd.cutD
  have e : HT.sIx xs.length xs.length (some k) = min k.toNat xs.length := by
    show (if k < 0 then (k + (xs.length : Int)).toNat else min k.toNat xs.length) = _
    rw [if_neg (by omega)]
  rw [e, show HT.sIx xs.length 0 none = 0 from rfl, List.drop_zero, Nat.sub_zero]
  by_cases h : k.toNat ≤ xs.length
  · rw [Nat.min_eq_left h]
  · rw [Nat.min_eq_right (by omega), List.take_length, List.take_of_length_le (by omega)]
theorem at_0 {d : D} {xs : List D} : atD (d :: xs) 0 = some d := by
  rw [at_nn (by decide) (by rw [List.length_cons]; omega)]; rfl
/-! ### things -/
abbrev Th := PySem.Str × List Int
def thD (p : Th) : D := .tup [.str p.1, ptD p.2]
/-- a point of this width -/
def gp (w : Nat) (ps : List Int) : Prop := ps.length = w ∧ ∀ x ∈ ps, -1000000000 ≤ x ∧ x ≤ 1000000000
/-- a name that may be drawn -/
def NmO (x : PySem.Str) : Prop := ∃ i : Int, 0 ≤ i ∧ i < 156 ∧ x = nmS i
structure Tng (l : List Th) (w : Nat) : Prop where
  nd : (l.map (·.1)).Nodup
  nm : ∀ p ∈ l, NmO p.1
  pt : ∀ p ∈ l, gp w p.2
section
variable {P : Pr} {s : Addr} {S : DS} {n : Nat}
theorem pickB_ok [F0 P] [F3 P] {xs : List D} (g : S.ok) (hx : xs ≠ []) (hl : xs.length ≤ 1000000) (hn : 2 ≤ n) : ∃ (x : D) (S' : DS), P.runB n 0 [.v (.ref s), .l xs] (hS s S) = .ok (.v x) (hS s S') ∧ x ∈ xs ∧ S'.ok := by
  obtain ⟨n, rfl⟩ : ∃ k, n = k + 1 := ⟨n - 1, by omega⟩
  have h0 : 0 < xs.length := List.length_pos_iff.mpr hx
  obtain ⟨i, S', e, i0, i1, g'⟩ := take_ok (P := P) (s := s) (n := n) (m := xs.length) F3.h g (by omega) (by omega) (by omega)
  have hi : i.toNat < xs.length := by omega
  refine ⟨xs[i.toNat], S', ?_, List.getElem_mem hi, g'⟩
  rw [runB_of F0.h rfl]
  have ea : atD xs i = some xs[i.toNat] := by rw [at_nn i0 i1, List.getElem?_eq_getElem hi]
  simp! [b0_0, BA.s, e, ea]
theorem size_ok [F56 P] [F0 P] [F3 P] {b : Int} (g : S.ok) (h0 : 0 ≤ b) (h1 : b ≤ 1000000) (hn : 3 ≤ n) : ∃ (x : Int) (S' : DS), P.run n 56 [.ref s, .int b] (hS s S) = .ok (.v (.int x)) (hS s S') ∧ 0 ≤ x ∧ x ≤ b ∧ S'.ok := by
  obtain ⟨n, rfl⟩ : ∃ k, n = k + 1 := ⟨n - 1, by omega⟩
  rw [run_of F56.h rfl]
  obtain ⟨x1, S1, e1, _, _, g1⟩ := take_ok (P := P) (s := s) (n := n) (m := 8) F3.h g (by omega) (by omega) (by omega)
  obtain ⟨x2, S2, e2, _, _, g2⟩ := take_ok (P := P) (s := s) (n := n) (m := 20) F3.h g1 (by omega) (by omega) (by omega)
  obtain ⟨x3, S3, e3, _, _, g3⟩ := take_ok (P := P) (s := s) (n := n) (m := b + 1) F3.h g2 (by omega) (by omega) (by omega)
  obtain ⟨y, S4, e4, hy, g4⟩ := pick_ok (P := P) (s := s) (n := n) (xs := [.int x1, .int x2, .int x3, .int 0, .int 3, .int 4]) F0.h F3.h g3 (by simp) (by simp) (by omega)
  have : ∃ i : Int, y = .int i := by
    simp only [List.mem_cons, List.not_mem_nil, or_false] at hy
    rcases hy with rfl | rfl | rfl | rfl | rfl | rfl <;> exact ⟨_, rfl⟩
  obtain ⟨i, rfl⟩ := this
  refine ⟨i % (b + 1), S4, ?_, Int.emod_nonneg _ (by omega), by have := Int.emod_lt_of_pos i (show 0 < b + 1 by omega); omega, g4⟩
  simp! [b56_0, b56_1, e1, e2, e3, e4, if_pos]
theorem fr_pt {ps : List Int} : frzE (.v (ptD ps)) = some (.v (ptD ps)) := rfl
abbrev stB : E := .an (.cons (.cmp .Eq (.var 4) (.cst (.int 1))) (.cons (.cmp .Eq (.call 3 (.cons (.var 0) (.cons (.cst (.int 2)) .nil))) (.cst (.int 1))) .nil))
/-- the slots of _law_things -/
abbrev sl54 (s : Addr) (w m k y : Int) (L : List (List Int)) (l : List Th) (x7 : Option SV) (ps : List Int) (x9 : Option SV) : Sv :=
  [some (.v (.ref s)), some (.v (.int w)), some (.v (.int m)), some (.v (.int k)), some (.v (.int y)), some (.l (L.map ptD)), some (.l (l.map thD)), x7, some (.v (ptD ps)), x9]
theorem nonneg_of {w : Nat} {L : List (List Int)} (h : ∀ ps ∈ L, gp w ps) {x : D} (hx : x ∈ L.map ptD) : ∃ ps, x = ptD ps ∧ gp w ps := by
  obtain ⟨ps, h1, rfl⟩ := List.mem_map.mp hx
  exact ⟨ps, rfl, h ps h1⟩
theorem st1_ok [F0 P] [F3 P] {w m k y : Int} {L : List (List Int)} {l : List Th} {x7 x9 : Option SV} {ps : List Int} {u : Nat} (g : S.ok) (hL : ∀ ps ∈ L, gp u ps) (hl : L ≠ []) (hl2 : L.length ≤ 1000) (hp : gp u ps) (hn : 2 ≤ n) :
    ∃ ps' S', evS (P.cvn n) (.ite stB b54_4a_1a_0 .nil) (sl54 s w m k y L l x7 ps x9) (hS s S) = .nx (sl54 s w m k y L l x7 ps' x9) (hS s S') ∧ gp u ps' ∧ S'.ok := by
  by_cases hy : y = 1
  · subst hy
    obtain ⟨i, S1, e1, _, _, g1⟩ := take_ok (P := P) (s := s) (n := n) (m := 2) F3.h g (by omega) (by omega) (by omega)
    by_cases hi : i = 1
    · subst hi
      obtain ⟨x, S2, e2, hx, g2⟩ := pickB_ok (P := P) (s := s) (n := n) (xs := L.map ptD) g1 (by simpa using hl) (by simp; omega) hn
      obtain ⟨qs, rfl, hq⟩ := nonneg_of hL hx
      refine ⟨qs, S2, ?_, hq, g2⟩
      simp! [b54_4a_1a_0, stB, e1, e2, fr_pt]
    · refine ⟨ps, S1, ?_, hp, g1⟩
      simp! [b54_4a_1a_0, stB, e1, decide_eq_false hi]
  · refine ⟨ps, S, ?_, hp, g⟩
    simp! [b54_4a_1a_0, stB, decide_eq_false hy]
theorem st2_ok {w m k y : Int} {L : List (List Int)} {l : List Th} {x7 x9 : Option SV} {ps : List Int} {u : Nat} (hL : ∀ ps ∈ L, gp u ps) (hl : L ≠ []) (hp : gp u ps) (hu : 1 ≤ u) (hu2 : u ≤ 1000) {h : HD} :
    ∃ ps', evS (P.cvn n) (.ite (.cmp .Eq (.var 4) (.cst (.int 2))) b54_4a_2a_0 .nil) (sl54 s w m k y L l x7 ps x9) h = .nx (sl54 s w m k y L l x7 ps' x9) h ∧ gp u ps' := by
  by_cases hy : y = 2
  · subst hy
    cases L with
    | nil => exact absurd rfl hl
    | cons q L =>
      obtain ⟨p1, p2⟩ := hp
      obtain ⟨q1, q2⟩ := hL q List.mem_cons_self
      cases ps with
      | nil => rw [← p1] at hu; exact absurd hu (by decide)
      | cons x ps =>
        refine ⟨x :: q.drop 1, ?_, ?_, fun z hz => ?_⟩
        · have e1 : atD (.int x :: List.map D.int ps) 0 = some (.int x) := at_0
          have e2 : atD (.tup (q.map D.int) :: L.map ptD) 0 = some (.tup (q.map D.int)) := at_0
          have e3 : Nd.cutD (q.map D.int) (some 1) none = (q.drop 1).map .int := by rw [cut_lo (by decide), List.map_drop]; rfl
          simp! [b54_4a_2a_0, ptD, e1, e2, e3, List.length_map, List.length_drop, List.length_append, if_pos]
          rfl
        · rw [List.length_cons, List.length_drop]; omega
        · rcases List.mem_cons.mp hz with rfl | hz
          · exact p2 _ List.mem_cons_self
          · exact q2 z (List.mem_of_mem_drop hz)
  · refine ⟨ps, ?_, hp⟩
    simp! [decide_eq_false hy]
theorem st3_ok [F3 P] {w m k y : Int} {L : List (List Int)} {l : List Th} {x7 x9 : Option SV} {ps : List Int} {u : Nat} (g : S.ok) (hL : ∀ ps ∈ L, gp u ps) (hl : L ≠ []) (hp : gp u ps) (hn : 2 ≤ n) :
    ∃ ps' S', evS (P.cvn n) (.ite (.an (.cons (.cmp .Eq (.var 4) (.cst (.int 3))) (.cons (.cmp .Gt (.call 3 (.cons (.var 0) (.cons (.cst (.int 8)) .nil))) (.cst (.int 0))) .nil))) b54_4a_3a_0 .nil) (sl54 s w m k y L l x7 ps x9) (hS s S) = .nx (sl54 s w m k y L l x7 ps' x9) (hS s S') ∧ gp u ps' ∧ S'.ok := by
  by_cases hy : y = 3
  · subst hy
    obtain ⟨i, S1, e1, _, _, g1⟩ := take_ok (P := P) (s := s) (n := n) (m := 8) F3.h g (by omega) (by omega) (by omega)
    by_cases hi : 0 < i
    · cases L with
      | nil => exact absurd rfl hl
      | cons q L =>
        refine ⟨q, S1, ?_, hL q List.mem_cons_self, g1⟩
        have e2 : atD (ptD q :: L.map ptD) 0 = some (ptD q) := at_0
        simp! [b54_4a_3a_0, e1, e2, decide_eq_true hi]
        rfl
    · refine ⟨ps, S1, ?_, hp, g1⟩
      simp! [b54_4a_3a_0, e1, decide_eq_false hi]
  · refine ⟨ps, S, ?_, hp, g⟩
    simp! [decide_eq_false hy]
theorem st4_ok {w m k y : Int} {L : List (List Int)} {l : List Th} {x7 x9 : Option SV} {ps : List Int} {u : Nat} (hp : gp u ps) (hu : u ≤ 1000) {h : HD} :
    ∃ ps', evS (P.cvn n) (.ite (.cmp .Eq (.var 4) (.cst (.int 4))) b54_4a_4a_0 .nil) (sl54 s w m k y L l x7 ps x9) h = .nx (sl54 s w m k y L l x7 ps' x9) h ∧ gp u ps' := by
  by_cases hy : y = 4
  · subst hy
    have hb : ∃ b : Int, atD [.int 0, .int 100000000] ((l.length : Int) % 2) = some (.int b) ∧ (b = 0 ∨ b = 100000000) := by
      rcases (show (l.length : Int) % 2 = 0 ∨ (l.length : Int) % 2 = 1 by omega) with e | e <;> rw [e]
      · exact ⟨0, rfl, .inl rfl⟩
      · exact ⟨100000000, rfl, .inr rfl⟩
    obtain ⟨b, e1, hb⟩ := hb
    refine ⟨ps.map fun x => x / 1000 + b, ?_, by rw [List.length_map]; exact hp.1, fun z hz => ?_⟩
    · have e2 : (10 : Int) ^ (8 : Int).toNat = 100000000 := by decide
      simp! [b54_4a_4a_0, ptD]
      rw [cmp_map (f := D.int) (g := fun x => .int (x / 1000 + b)) fun x hx => ⟨_, rfl, rfl, by simp! [e1, e2, List.length_map, if_pos]⟩]
      have e3 : ptD (ps.map fun x => x / 1000 + b) = .tup (ps.map fun x => .int (x / 1000 + b)) := by unfold ptD; rw [List.map_map]; rfl
      unfold sl54
      rw [e3]
      simp! []
    · obtain ⟨x, hx, rfl⟩ := List.mem_map.mp hz
      have := hp.2 x hx
      omega
  · refine ⟨ps, ?_, hp⟩
    simp! [decide_eq_false hy]
theorem obind_nx {x : O} {σ : Sv} {h : HD} {f : Sv → HD → O} (e : x = .nx σ h) : x.bind f = f σ h := by rw [e]; rfl
theorem thing_step [F0 P] [F3 P] [F5 P] [F9 P] {w m k y : Int} {L : List (List Int)} {l : List Th} {x : PySem.Str} {x8 x9 : Option SV} (g : S.ok) (hw : 1 ≤ w) (hw2 : w ≤ 1000) (hL : ∀ ps ∈ L, gp w.toNat ps) (hl : L ≠ []) (hl2 : L.length ≤ 900) (hl3 : l.length ≤ 900) (hn : 4 ≤ n) :
    ∃ ps S', evB (P.cvn n) b54_4a_0 [some (.v (.ref s)), some (.v (.int w)), some (.v (.int m)), some (.v (.int k)), some (.v (.int y)), some (.l (L.map ptD)), some (.l (l.map thD)), some (.v (.str x)), x8, x9] (hS s S) = .nx (sl54 s w m k y (L ++ [ps]) (l ++ [(x, ps)]) (some (.v (.str x))) ps x9) (hS s S') ∧ gp w.toNat ps ∧ S'.ok := by
  obtain ⟨p0, S1, e1, q1, q2, g1⟩ := point_ok (P := P) (s := s) (n := n) (w := w) (k := k) F9.h F5.h F0.h F3.h g (by omega) hw2 hn
  have g0 : gp w.toNat p0 := ⟨q1, fun z hz => ⟨(q2 z hz).1, (q2 z hz).2.1⟩⟩
  obtain ⟨p1, S2, e2, g2, s2⟩ := st1_ok (P := P) (s := s) (n := n) (w := w) (m := m) (k := k) (y := y) (l := l) (x7 := some (.v (.str x))) (x9 := x9) (u := w.toNat) g1 hL hl (by omega) g0 (by omega)
  obtain ⟨p2, e3, g3⟩ := st2_ok (P := P) (s := s) (n := n) (w := w) (m := m) (k := k) (y := y) (l := l) (x7 := some (.v (.str x))) (x9 := x9) (u := w.toNat) hL hl g2 (by omega) (by omega) (h := hS s S2)
  obtain ⟨p3, S3, e4, g4, s4⟩ := st3_ok (P := P) (s := s) (n := n) (w := w) (m := m) (k := k) (y := y) (l := l) (x7 := some (.v (.str x))) (x9 := x9) (u := w.toNat) s2 hL hl g3 (by omega)
  obtain ⟨p4, e5, g5⟩ := st4_ok (P := P) (s := s) (n := n) (w := w) (m := m) (k := k) (y := y) (L := L) (l := l) (x7 := some (.v (.str x))) (x9 := x9) (u := w.toNat) g4 (by omega) (h := hS s S3)
  refine ⟨p4, S3, ?_, g5, s4⟩
  simp! [b54_4a_0, e1, fr_pt]
  show (evB (P.cvn n) b54_4a_1 (sl54 s w m k y L l (some (.v (.str x))) p0 x9) (hS s S1)) = _
  rw [show b54_4a_1 = .cons (.ite stB b54_4a_1a_0 .nil) b54_4a_2 from rfl, evB_cons, obind_nx e2]
  rw [show b54_4a_2 = .cons _ b54_4a_3 from rfl, evB_cons, obind_nx e3]
  rw [show b54_4a_3 = .cons _ b54_4a_4 from rfl, evB_cons, obind_nx e4]
  rw [show b54_4a_4 = .cons _ b54_4a_5 from rfl, evB_cons, obind_nx e5]
  simp! [b54_4a_5, b54_4a_6, List.length_map, if_pos]
  unfold sl54
  rw [List.map_append, List.map_append]
  rfl
theorem things_loop [F0 P] [F3 P] [F5 P] [F9 P] {w m k y : Int} (hw : 1 ≤ w) (hw2 : w ≤ 1000) (hn : 4 ≤ n) : ∀ (ns : List PySem.Str) {L : List (List Int)} {l : List Th} {x7 x8 x9 : Option SV} {S : DS}, S.ok → (∀ ps ∈ L, gp w.toNat ps) → L ≠ [] → L.length + ns.length ≤ 900 → l.length + ns.length ≤ 900 →
    ∃ (L' : List (List Int)) (l' : List Th) (z7 z8 z9 : Option SV) (S' : DS), forE (.nm 7) (evB (P.cvn n) b54_4a_0) (ns.map .str) [some (.v (.ref s)), some (.v (.int w)), some (.v (.int m)), some (.v (.int k)), some (.v (.int y)), some (.l (L.map ptD)), some (.l (l.map thD)), x7, x8, x9] (hS s S) = .nx [some (.v (.ref s)), some (.v (.int w)), some (.v (.int m)), some (.v (.int k)), some (.v (.int y)), some (.l (L'.map ptD)), some (.l ((l ++ l').map thD)), z7, z8, z9] (hS s S') ∧ l'.map (·.1) = ns ∧ (∀ p ∈ l', gp w.toNat p.2) ∧ S'.ok
  | [], L, l, x7, x8, x9, S, g, hL, hl, h1, h2 => ⟨L, [], x7, x8, x9, S, by rw [List.append_nil]; rfl, rfl, (fun _ z => nomatch z), g⟩
  | x :: ns, L, l, x7, x8, x9, S, g, hL, hl, h1, h2 => by
    rw [List.length_cons] at h1 h2
    obtain ⟨ps, S1, e1, gp1, g1⟩ := thing_step (P := P) (s := s) (n := n) (w := w) (m := m) (k := k) (y := y) (L := L) (l := l) (x := x) (x8 := x8) (x9 := x9) g hw hw2 hL hl (by omega) (by omega) hn
    obtain ⟨L', l', z7, z8, z9, S2, e2, n2, b2, g2⟩ := things_loop hw hw2 hn ns (L := L ++ [ps]) (l := l ++ [(x, ps)]) (x7 := some (.v (.str x))) (x8 := some (.v (ptD ps))) (x9 := x9) g1
      (fun q hq => by rcases List.mem_append.mp hq with z | z <;> first | exact hL q z | (rw [List.mem_singleton.mp z]; exact gp1)) (by simp) (by simp; omega) (by simp; omega)
    refine ⟨L', (x, ps) :: l', z7, z8, z9, S2, ?_, by rw [List.map_cons, n2], fun p hp => ?_, g2⟩
    · rw [List.map_cons, for_step rfl e1, e2, List.append_assoc]; rfl
    · rcases List.mem_cons.mp hp with rfl | hp
      · exact gp1
      · exact b2 p hp
theorem nm_nd : ((List.range 156).map fun i => nmS (i : Nat)).Nodup := by decide +kernel
theorem nm_inj {i j : Int} (hi : 0 ≤ i ∧ i < 156) (hj : 0 ≤ j ∧ j < 156) (e : nmS i = nmS j) : i = j := by
  have h := List.pairwise_iff_getElem.mp nm_nd
  have li : i.toNat < 156 := by omega
  have lj : j.toNat < 156 := by omega
  have ei : ((i.toNat : Nat) : Int) = i := by omega
  have ej : ((j.toNat : Nat) : Int) = j := by omega
  rcases Nat.lt_trichotomy i.toNat j.toNat with z | z | z
  · have q := h i.toNat j.toNat (by rw [List.length_map, List.length_range]; exact li) (by rw [List.length_map, List.length_range]; exact lj) z
    rw [List.getElem_map, List.getElem_map, List.getElem_range, List.getElem_range, ei, ej] at q
    exact absurd e q
  · omega
  · have q := h j.toNat i.toNat (by rw [List.length_map, List.length_range]; exact lj) (by rw [List.length_map, List.length_range]; exact li) z
    rw [List.getElem_map, List.getElem_map, List.getElem_range, List.getElem_range, ei, ej] at q
    exact absurd e.symm q
theorem drawn_nd {a st : Int} {m : Nat} (h : st = 1 ∨ st = 5 ∨ st = 7 ∨ st = 11 ∨ st = 25 ∨ st = 155) (hm : m ≤ 156) : ((List.range m).map fun k => nmS ((a + st * (k : Nat)) % 156)).Nodup := by
  rw [List.Nodup, List.pairwise_map]
  refine List.Pairwise.imp_of_mem ?_ List.nodup_range
  intro i j hi hj ne e
  rw [List.mem_range] at hi hj
  have := nm_inj ⟨Int.emod_nonneg _ (by decide), Int.emod_lt_of_pos _ (by decide)⟩ ⟨Int.emod_nonneg _ (by decide), Int.emod_lt_of_pos _ (by decide)⟩ e
  apply ne
  rcases h with rfl | rfl | rfl | rfl | rfl | rfl <;> omega
theorem things_ok [F0 P] [F3 P] [F5 P] [F9 P] [F39 P] [F54 P] {w m : Int} (g : S.ok) (hw : 1 ≤ w) (hw2 : w ≤ 1000) (hm : 0 ≤ m) (hm2 : m ≤ 156) (hn : 5 ≤ n) :
    ∃ (l : List Th) (S' : DS), P.run n 54 [.ref s, .int w, .int m] (hS s S) = .ok (.nl (l.map thD)) (hS s S') ∧ Tng l w.toNat ∧ l.length = m.toNat ∧ S'.ok := by
  obtain ⟨n, rfl⟩ : ∃ k, n = k + 1 := ⟨n - 1, by omega⟩
  rw [run_of F54.h rfl]
  obtain ⟨x, S1, e1, hx, g1⟩ := pick_ok (P := P) (s := s) (n := n) (xs := [.int 0, .int 0, .int 1, .int 1, .int 2, .int 3]) F0.h F3.h g (by simp) (by simp) (by omega)
  have : ∃ k : Int, x = .int k := by
    simp only [List.mem_cons, List.not_mem_nil, or_false] at hx
    rcases hx with rfl | rfl | rfl | rfl | rfl | rfl <;> exact ⟨_, rfl⟩
  obtain ⟨k, rfl⟩ := this
  obtain ⟨y, S2, e2, _, _, g2⟩ := take_ok (P := P) (s := s) (n := n) (m := 6) F3.h g1 (by omega) (by omega) (by omega)
  obtain ⟨p0, S3, e3, q1, q2, g3⟩ := point_ok (P := P) (s := s) (n := n) (w := w) (k := k) F9.h F5.h F0.h F3.h g2 (by omega) hw2 (by omega)
  have gp0 : gp w.toNat p0 := ⟨q1, fun z hz => ⟨(q2 z hz).1, (q2 z hz).2.1⟩⟩
  obtain ⟨a, st, S4, e4, a0, a1, hst, g4⟩ := names_ok (P := P) (s := s) (n := n) (m := m) F39.h F0.h F3.h g3 hm (by omega) (by omega)
  have ml : ((List.range m.toNat).map fun k => nmS ((a + st * (k : Nat)) % 156)).length = m.toNat := by rw [List.length_map, List.length_range]
  obtain ⟨L', l, z7, z8, z9, S5, e5, n5, b5, g5⟩ := things_loop (P := P) (s := s) (n := n) (w := w) (m := m) (k := k) (y := y) hw hw2 (by omega) ((List.range m.toNat).map fun k => nmS ((a + st * (k : Nat)) % 156)) (L := [p0]) (l := []) (x7 := none) (x8 := none) (x9 := none) g4
    (fun q hq => by rw [List.mem_singleton.mp hq]; exact gp0) (by simp) (by simp; omega) (by simp; omega)
  refine ⟨l, S5, ?_, ⟨by rw [n5]; exact drawn_nd hst (by omega), fun p hp => ?_, b5⟩, by rw [← ml, ← n5, List.length_map], g5⟩
  · rw [List.map_map] at e5
    simp! [b54_0, b54_1, b54_2, b54_3, b54_4, e1, e2, e3, e4, fr_pt]
    have e5 : forE (Tg.nm 7) (evB (P.cvn n) b54_4a_0) ((List.range m.toNat).map fun k => .str (nmS ((a + st * (k : Nat)) % 156))) [some (.v (.ref s)), some (.v (.int w)), some (.v (.int m)), some (.v (.int k)), some (.v (.int y)), some (.l [ptD p0]), some (.l []), none, none, none] (hS s S4) = _ := e5
    rw [e5]
    simp! [b54_5]
  · have : p.1 ∈ l.map (·.1) := List.mem_map.mpr ⟨p, hp, rfl⟩
    rw [n5] at this
    obtain ⟨i, _, e⟩ := List.mem_map.mp this
    exact ⟨_, Int.emod_nonneg _ (by decide), Int.emod_lt_of_pos _ (by decide), e.symm⟩
theorem table_drawn [F0 P] [F3 P] [F5 P] [F9 P] [F39 P] [F54 P] [F56 P] [F133 P] {b : Int} (g : S.ok) (h0 : 0 ≤ b) (h1 : b ≤ 100) (hn : 6 ≤ n) :
    ∃ (l : List Th) (w : Nat) (S' : DS), P.run n 133 [.ref s, .int b] (hS s S) = .ok (.nl (l.map thD)) (hS s S') ∧ Tng l w ∧ (1 ≤ w ∧ w ≤ 4) ∧ (l.length : Int) ≤ b ∧ S'.ok := by
  obtain ⟨n, rfl⟩ : ∃ k, n = k + 1 := ⟨n - 1, by omega⟩
  rw [run_of F133.h rfl]
  obtain ⟨x, S1, e1, x0, x1, g1⟩ := take_ok (P := P) (s := s) (n := n) (m := 4) F3.h g (by omega) (by omega) (by omega)
  obtain ⟨y, S2, e2, y0, y1, g2⟩ := size_ok (P := P) (s := s) (n := n) (b := b) g1 h0 (by omega) (by omega)
  obtain ⟨l, S3, e3, t, tl, g3⟩ := things_ok (P := P) (s := s) (n := n) (w := 1 + x) (m := y) g2 (by omega) (by omega) y0 (by omega) (by omega)
  refine ⟨l, (1 + x).toNat, S3, ?_, t, by omega, by omega, g3⟩
  simp! [b133_0, e1, e2, e3]
end
end Sx
/-! Sx6: the order of data, what is sorted, what is least; dicts of unlike keys. -/
namespace Sx
open PySem PySem.Spec PyProof.Rows L2 Nd T
/-! ### the order of data -/
def leD (a b : D) : Bool := !PySem.W.dataLt (toP b) (toP a)
theorem leD_le : leD = PySem.W.dataLe false toP := rfl
theorem leD_tot : PySem.W.TotalLe leD := by rw [leD_le]; exact PySem.W.sortLe_total _ _ _
/-- like rank, like signs -/
theorem leD_anti {a b : D} (h1 : leD a b = true) (h2 : leD b a = true) : PySem.W.keyToks (toP a) = PySem.W.keyToks (toP b) := by
  unfold leD at h1 h2
  rw [Bool.not_eq_true'] at h1 h2
  exact (listOrd itemOrd).total _ _ h2 h1
theorem toPs_map' : ∀ xs : List D, toPs xs = xs.map toP
  | [] => rfl
  | x :: xs => by show toP x :: toPs xs = _; rw [toPs_map' xs]; rfl
theorem zip_toP {xs : List D} : ∀ {p : D × PyData}, p ∈ xs.zip (toPs xs) → p.2 = toP p.1 := by
  rw [toPs_map']
  induction xs with
  | nil => intro p h; cases h
  | cons x xs ih =>
    intro p h
    rcases List.mem_cons.mp (show p ∈ (x, toP x) :: xs.zip (xs.map toP) from h) with rfl | h
    · rfl
    · exact ih h
theorem sortD_eq (xs : List D) : sortD xs (toPs xs) = xs.mergeSort leD := by
  unfold sortD
  rw [PySem.W.sort_maps (s := leD) (fun p : D × PyData => p.1) fun a ha b hb => by
    show PySem.W.dataLe false (fun p : D × PyData => p.2) a b = PySem.W.dataLe false toP a.1 b.1
    have e1 := zip_toP ha
    have e2 := zip_toP hb
    show (!(listOrd itemOrd).blt (PySem.W.keyToks b.2) (PySem.W.keyToks a.2)) = (!(listOrd itemOrd).blt (PySem.W.keyToks (toP b.1)) (PySem.W.keyToks (toP a.1)))
    rw [e1, e2]]
  congr 1
  exact List.map_fst_zip (by rw [toPs_len]; exact Nat.le_refl _)
section
variable {α β : Type} {le : α → α → Bool}
theorem rank_iff (t : PySem.W.TotalLe le) {a b : α} (h1 : le a b = true) (h2 : le b a = true) (c : α) : PySem.W.sameRank le a c = PySem.W.sameRank le b c := by
  unfold PySem.W.sameRank
  rw [Bool.eq_iff_iff, Bool.and_eq_true, Bool.and_eq_true]
  exact ⟨fun ⟨x, y⟩ => ⟨t.trans _ _ _ h2 x, t.trans _ _ _ y h1⟩, fun ⟨x, y⟩ => ⟨t.trans _ _ _ h1 x, t.trans _ _ _ y h2⟩⟩
/-- the best of those met, the first of its rank -/
theorem best_inv (t : PySem.W.TotalLe le) : ∀ (l p : List α) (a : α), (∀ y ∈ p, le a y = true) → (p.filter (PySem.W.sameRank le a)).head? = some a →
    (∀ y ∈ p ++ l, le (l.foldl (fun a b => if (!le a b) = true then b else a) a) y = true) ∧ ((p ++ l).filter (PySem.W.sameRank le (l.foldl (fun a b => if (!le a b) = true then b else a) a))).head? = some (l.foldl (fun a b => if (!le a b) = true then b else a) a)
  | [], p, a, h1, h2 => by rw [List.append_nil]; exact ⟨h1, h2⟩
  | x :: l, p, a, h1, h2 => by
    have step : ∀ b, (∀ y ∈ p ++ [x], le b y = true) → ((p ++ [x]).filter (PySem.W.sameRank le b)).head? = some b → _ := fun b g1 g2 => best_inv t l (p ++ [x]) b g1 g2
    rw [List.foldl_cons]
    have e : p ++ x :: l = p ++ [x] ++ l := by simp
    rw [e]
    by_cases c : le a x = true
    · have : (if (!le a x) = true then x else a) = a := by rw [c]; rfl
      rw [this]
      refine step a (fun y hy => ?_) ?_
      · rcases List.mem_append.mp hy with hy | hy
        · exact h1 y hy
        · rw [List.mem_singleton.mp hy]; exact c
      · rw [List.filter_append, List.head?_append, h2]; rfl
    · have cf : le a x = false := by simpa using c
      have : (if (!le a x) = true then x else a) = x := by rw [cf]; rfl
      rw [this]
      have xa : le x a = true := (t.total a x).elim (fun z => absurd z c) id
      refine step x (fun y hy => ?_) ?_
      · rcases List.mem_append.mp hy with hy | hy
        · exact t.trans _ _ _ xa (h1 y hy)
        · rw [List.mem_singleton.mp hy]; exact t.refl x
      · have none : p.filter (PySem.W.sameRank le x) = [] := by
          rw [List.filter_eq_nil_iff]
          intro y hy z
          have := (Bool.and_eq_true_iff.mp z).2
          exact c (t.trans _ _ _ (h1 y hy) this)
        rw [List.filter_append, none, List.nil_append, List.filter_cons, PySem.W.sameRank_self t]
        rfl
theorem bst_inv (t : PySem.W.TotalLe le) {l : List α} {a : α} (h : bstL (fun x y => !le y x) l = some a) : (∀ y ∈ l, le a y = true) ∧ (l.filter (PySem.W.sameRank le a)).head? = some a := by
  cases l with
  | nil => cases h
  | cons x l =>
    have h : some (l.foldl (fun a b => if (!le a b) = true then b else a) x) = some a := h
    cases h
    have := best_inv t l [x] x (fun y hy => by rw [List.mem_singleton.mp hy]; exact t.refl x) (by rw [List.filter_cons, PySem.W.sameRank_self t]; rfl)
    exact this
theorem bst_head (t : PySem.W.TotalLe le) (l : List α) : bstL (fun x y => !le y x) l = (l.mergeSort le).head? := by
  cases e : bstL (fun x y => !le y x) l with
  | none =>
    cases l with
    | nil => rw [List.mergeSort_nil]; rfl
    | cons _ _ => cases e
  | some a =>
    obtain ⟨h1, h2⟩ := bst_inv t e
    have pm := List.mergeSort_perm l le
    have ps := PySem.W.sort_pairwise t l
    cases m : l.mergeSort le with
    | nil =>
      rw [m] at pm
      have := pm.symm.eq_nil
      subst this
      cases e
    | cons b M =>
      have bl : b ∈ l := pm.mem_iff.mp (by rw [m]; exact List.mem_cons_self)
      have am : a ∈ b :: M := by
        rw [← m]
        refine pm.mem_iff.mpr ?_
        cases q : l.filter (PySem.W.sameRank le a) with
        | nil => rw [q] at h2; cases h2
        | cons z zs => rw [q] at h2; cases h2; exact (List.mem_filter.mp (by rw [q]; exact List.mem_cons_self)).1
      have ba : le b a = true := by
        rcases List.mem_cons.mp am with rfl | z
        · exact t.refl _
        · rw [m] at ps; exact (List.pairwise_cons.mp ps).1 a z
      have st := PySem.W.sort_stable t l b
      have fe : l.filter (PySem.W.sameRank le a) = l.filter (PySem.W.sameRank le b) := List.filter_congr fun c _ => rank_iff t (h1 b bl) ba c
      rw [fe, ← st, m, List.filter_cons, PySem.W.sameRank_self t] at h2
      exact h2.symm
theorem bst_map (lt : β → β → Bool) (f : α → β) (l : List α) : bstL lt (l.map f) = (bstL (fun a b => lt (f a) (f b)) l).map f := by
  cases l with
  | nil => rfl
  | cons x l =>
    show some ((l.map f).foldl (fun a b => if lt b a = true then b else a) (f x)) = some (f (l.foldl (fun a b => if lt (f b) (f a) = true then b else a) x))
    congr 1
    induction l generalizing x with
    | nil => rfl
    | cons y l ih =>
      rw [List.map_cons, List.foldl_cons, List.foldl_cons]
      by_cases c : lt (f y) (f x) = true
      · rw [if_pos c, if_pos c]; exact ih y
      · rw [if_neg c, if_neg c]; exact ih x
/-- one order, like things alike: one sorted list -/
theorem sort_perm (t : PySem.W.TotalLe le) {l m : List α} (p : l.Perm m) (anti : ∀ a ∈ l, ∀ b ∈ l, le a b = true → le b a = true → a = b) : l.mergeSort le = m.mergeSort le := by
  have q : (l.mergeSort le).Perm (m.mergeSort le) := (List.mergeSort_perm l le).trans (p.trans (List.mergeSort_perm m le).symm)
  refine List.Perm.eq_of_pairwise (le := fun a b => le a b = true) (fun a b ha hb h1 h2 => ?_) (PySem.W.sort_pairwise t l) (PySem.W.sort_pairwise t m) q
  exact anti a ((List.mergeSort_perm l le).mem_iff.mp ha) b ((List.mergeSort_perm l le).mem_iff.mp (q.mem_iff.mpr hb)) h1 h2
end
/-! ### dicts of unlike keys -/
theorem put_new {kvs : List (Key × D)} {k : Key} {v : D} (h : k ∉ kvs.map (·.1)) : putD kvs k v = kvs ++ [(k, v)] := by
  unfold putD
  have : (kvs.any fun kv => decide (kv.1 = k)) = false := by
    rw [List.any_eq_false]
    intro p hp z
    exact h (List.mem_map.mpr ⟨p, hp, of_decide_eq_true z⟩)
  rw [this]; rfl
theorem merge_nodup {kvs : List (Key × D)} (h : (kvs.map (·.1)).Nodup) : mergeD kvs = kvs := by
  have go : ∀ (m acc : List (Key × D)), ((acc ++ m).map (·.1)).Nodup → m.foldl (fun acc p => putD acc p.1 p.2) acc = acc ++ m := by
    intro m
    induction m with
    | nil => intro acc _; simp
    | cons p m ih =>
      intro acc h
      have hk : p.1 ∉ acc.map (·.1) := fun z => by
        rw [List.map_append, List.map_cons, List.nodup_append] at h
        exact h.2.2 _ z _ List.mem_cons_self rfl
      rw [List.foldl_cons, put_new hk, ih _ (by rw [List.append_assoc]; exact h), List.append_assoc]; rfl
  exact go kvs [] (by simpa using h)
theorem prs_tab {l : List Th} : prsE (l.map thD) = some (l.map fun p => ((.inr p.1 : Key), ptD p.2)) := by
  induction l with
  | nil => rfl
  | cons p l ih =>
    show (prE (thD p)).bind (fun q => (prsE (l.map thD)).map (q :: ·)) = _
    rw [ih]
    rfl
theorem keys_nd {l : List Th} (h : (l.map (·.1)).Nodup) : ((l.map fun p => ((.inr p.1 : Key), ptD p.2)).map (·.1)).Nodup := by
  rw [List.map_map, List.Nodup, List.pairwise_map]
  rw [List.Nodup, List.pairwise_map] at h
  exact h.imp fun ne e => ne (Sum.inr.inj e)
theorem kdc_tab {l : List Th} : D.kdc ((l.map fun p => ((.inr p.1 : Key), ptD p.2)).map (·.1)) ((l.map fun p => ((.inr p.1 : Key), ptD p.2)).map (·.2)) = tabD l := by
  unfold tabD
  rw [List.map_map, List.map_map]
  rfl
theorem tab_items {l : List Th} : ((l.map fun p => (Sum.inr p.1 : Key)).zip (l.map fun p => ptD p.2)).map (fun p => .tup [kD p.1, p.2]) = l.map thD := by
  rw [tab_zip, List.map_map]; rfl
/-! ### widths -/
theorem dedup_rep (n : Nat) (w : Int) : (dedupZ (List.replicate n w)).length ≤ 1 := by
  unfold dedupZ
  have go : ∀ i, i ≤ n → PyProof.Rows.firstMet (fun j => (List.replicate n w).getD j 0) i = [] ∨ PyProof.Rows.firstMet (fun j => (List.replicate n w).getD j 0) i = [w] := by
    intro i
    induction i with
    | zero => intro _; exact .inl rfl
    | succ i ih =>
      intro hi
      rw [PyProof.Rows.firstMet_succ]
      have e : (List.replicate n w).getD i 0 = w := by
        rw [List.getD_eq_getElem?_getD, List.getElem?_replicate, if_pos (by omega)]; rfl
      rw [e]
      rcases ih (by omega) with z | z <;> rw [z]
      · exact .inr rfl
      · refine .inr ?_
        unfold step_dedup
        simp
  rw [List.length_replicate]
  rcases go n (Nat.le_refl _) with z | z <;> rw [z] <;> simp
theorem nm_all : ∀ i : Fin 156, nameD (.str (nmS (i.val : Int))) = true := by decide +kernel
theorem NmO.ok {x : PySem.Str} (h : NmO x) : nameD (.str x) = true := by
  obtain ⟨i, h0, h1, rfl⟩ := h
  have := nm_all ⟨i.toNat, by omega⟩
  rwa [show ((⟨i.toNat, by omega⟩ : Fin 156).val : Int) = i from by show (i.toNat : Int) = i; omega] at this
theorem len_pt {ps : List Int} : lenD (ptD ps) = ps.length := by
  show ((ps.map D.int).length : Int) = _
  rw [List.length_map]
theorem gp.ok {ps : List Int} {w : Nat} (h : gp w ps) (hw : 1 ≤ w ∧ w ≤ 4) : pointD (ptD ps) = true := by
  obtain ⟨hl, hb⟩ := h
  show ((decide (1 ≤ ((ps.map D.int).length : Int)) && decide (((ps.map D.int).length : Int) ≤ 4)) && (ps.map D.int).all fun x => wholeD x (-1000000000) 1000000000) = true
  have a : ((ps.map D.int).all fun x => wholeD x (-1000000000) 1000000000) = true := by
    rw [List.all_eq_true]
    intro x hx
    obtain ⟨y, hy, rfl⟩ := List.mem_map.mp hx
    show (decide (_ ≤ y) && decide (y ≤ _)) = true
    rw [decide_eq_true (hb y hy).1, decide_eq_true (hb y hy).2]
    rfl
  rw [a, List.length_map, hl, decide_eq_true (by omega), decide_eq_true (by omega)]
  rfl
/-- things that make a table -/
structure Tab (l : List Th) (w : Nat) : Prop where
  nd : (l.map (·.1)).Nodup
  nm : ∀ p ∈ l, nameD (.str p.1) = true
  pt : ∀ p ∈ l, gp w p.2
  wd : 1 ≤ w ∧ w ≤ 4
  len : l.length ≤ 300
theorem Tng.tab {l : List Th} {w : Nat} (h : Tng l w) (hw : 1 ≤ w ∧ w ≤ 4) (hl : l.length ≤ 300) : Tab l w := ⟨h.nd, fun p hp => (h.nm p hp).ok, h.pt, hw, hl⟩
theorem Tab.wids {l : List Th} {w : Nat} (h : Tab l w) : (l.map fun p => ptD p.2).map lenD = List.replicate l.length (w : Int) := by
  rw [List.map_map]
  refine List.eq_replicate_iff.mpr ⟨by rw [List.length_map], fun x hx => ?_⟩
  obtain ⟨p, hp, rfl⟩ := List.mem_map.mp hx
  show lenD (ptD p.2) = _
  rw [len_pt, (h.pt p hp).1]
theorem Tab.ok {l : List Th} {w : Nat} (h : Tab l w) : tableD (tabD l) = true := by
  show (!decide (300 < ((l.map fun p => ptD p.2).length : Int)) && (((l.map fun p => (Sum.inr p.1 : Key)).zip (l.map fun p => ptD p.2)).all (fun p => nameD (kD p.1) && pointD p.2) && decide (((dedupZ ((l.map fun p => ptD p.2).map lenD)).length : Int) ≤ 1))) = true
  have a : ((l.map fun p => (Sum.inr p.1 : Key)).zip (l.map fun p => ptD p.2)).all (fun p => nameD (kD p.1) && pointD p.2) = true := by
    rw [tab_zip, List.all_eq_true]
    intro x hx
    obtain ⟨p, hp, rfl⟩ := List.mem_map.mp hx
    show (nameD (.str p.1) && pointD (ptD p.2)) = true
    rw [h.nm p hp, (h.pt p hp).ok h.wd]
    rfl
  have := dedup_rep l.length (w : Int)
  have hl := h.len
  rw [a, h.wids, List.length_map, decide_eq_false (by omega), decide_eq_true (by omega)]
  rfl
end Sx
/-! Sx7: balls. -/
namespace Sx
open PySem PySem.Spec PyProof.Rows L2 Nd T
class F144 (P : Pr) : Prop where
  h : HasF P 144 b144_0 3 5
class F150 (P : Pr) : Prop where
  h : HasF P 150 b150_0 3 6
class F248 (P : Pr) : Prop where
  h : HasF P 248 b248_0 4 7
class F156 (P : Pr) : Prop where
  h : HasF P 156 b156_0 1 3
class F548 (P : Pr) : Prop where
  h : HasF P 548 b548_0 1 3
class F152 (P : Pr) : Prop where
  h : HasF P 152 b152_0 2 3
class F154 (P : Pr) : Prop where
  h : HasF P 154 b154_0 2 3
class F151 (P : Pr) : Prop where
  h : HasF P 151 b151_0 2 3
class F153 (P : Pr) : Prop where
  h : HasF P 153 b153_0 2 5
class F89 (P : Pr) : Prop where
  h : HasF P 89 b89_0 1 1
class F93 (P : Pr) : Prop where
  h : HasF P 93 b93_0 1 1
class F163 (P : Pr) : Prop where
  h : HasF P 163 b163_0 2 2
class F222 (P : Pr) : Prop where
  h : HasF P 222 b222_0 3 3
class F212 (P : Pr) : Prop where
  h : HasF P 212 b212_0 2 11
class F213 (P : Pr) : Prop where
  h : HasF P 213 b213_0 2 2
class F322 (P : Pr) : Prop where
  h : HasF P 322 b322_0 2 2
class F252 (P : Pr) : Prop where
  h : HasF P 252 b252_0 2 2
class F275 (P : Pr) : Prop where
  h : HasF P 275 b275_0 2 11
/-! ### distances -/
def wyS (t : Bool) : PySem.Str := if t then "taxi" else "chess"
def stps (ps qs : List Int) : List Int := (ps.zip qs).map fun p => if p.1 - p.2 < 0 then -(p.1 - p.2) else p.1 - p.2
def apD (t : Bool) (ps qs : List Int) : Int := if t then (stps ps qs).sum else hiZ (stps ps qs)
section
variable {P : Pr} {n : Nat} {h : HD} {t : Bool}
theorem length2_ok [F17 P] {ns : List Int} (hns : ns ≠ []) (hn : 1 ≤ n) : P.run n 17 [.str (wyS t), .kls (ns.map .int)] h = .ok (.v (.int (if t then ns.sum else hiZ ns))) h := by
  obtain ⟨m, rfl⟩ : ∃ m, n = m + 1 := ⟨n - 1, by omega⟩
  cases t with
  | true => exact length_ok (by omega)
  | false =>
    rw [run_of (F17.h (P := P)) rfl]
    simp! [b17_0, b17_1, b17_1a_0, wyS, show decide (PySem.Str.ofString "chess" = PySem.Str.ofString "taxi") = false from by decide +kernel, show decide (PySem.Str.ofString "chess" = PySem.Str.ofString "chess") = true from rfl, if_neg hns]
theorem stps_ne {ps qs : List Int} (hp : ps ≠ []) (hq : qs ≠ []) : stps ps qs ≠ [] := by
  cases ps with
  | nil => exact absurd rfl hp
  | cons _ _ => cases qs with
    | nil => exact absurd rfl hq
    | cons _ _ => exact fun z => by cases z
theorem apart2_ok [F17 P] [F15 P] {ps qs : List Int} (hp : ps ≠ []) (hq : qs ≠ []) (hn : 2 ≤ n) : P.run n 15 [.str (wyS t), ptD ps, ptD qs] h = .ok (.v (.int (apD t ps qs))) h := by
  obtain ⟨m, rfl⟩ : ∃ m, n = m + 1 := ⟨n - 1, by omega⟩
  rw [run_of (F15.h (P := P)) rfl]
  have z : zipL (ps.map .int) (qs.map .int) = (ps.zip qs).map fun p => .tup [.int p.1, .int p.2] := by
    unfold zipL
    rw [List.zip_map, List.map_map]
    rfl
  simp! [b15_0, ptD, z]
  rw [cmp_map (f := fun p : Int × Int => .tup [.int p.1, .int p.2]) (g := fun p => .int (if p.1 - p.2 < 0 then -(p.1 - p.2) else p.1 - p.2)) fun p hp => ⟨_, rfl, rfl, by simp! []⟩]
  have z2 : (ps.zip qs).map (fun p => D.int (if p.1 - p.2 < 0 then -(p.1 - p.2) else p.1 - p.2)) = (stps ps qs).map .int := by unfold stps; rw [List.map_map]; rfl
  rw [z2]
  simp! [length2_ok (stps_ne hp hq)]
  rfl
theorem lawApart_ok [F144 P] {ps qs : List Int} (hl : ps.length = qs.length) (hp : ps ≠ []) (hl2 : ps.length ≤ 1000) (hn : 1 ≤ n) : P.run n 144 [.str (wyS t), ptD ps, ptD qs] h = .ok (.v (.int (apD t ps qs))) h := by
  obtain ⟨m, rfl⟩ : ∃ m, n = m + 1 := ⟨n - 1, by omega⟩
  rw [run_of (F144.h (P := P)) rfl]
  simp! [b144_0, ptD, List.length_map, if_pos]
  have er : rngL 0 ((ps.length : Nat) : Int).toNat = (List.range ps.length).map fun i => .int (i : Nat) := by
    unfold rngL
    rw [Int.toNat_natCast]
    exact List.map_congr_left fun i _ => by rw [Int.zero_add]
  rw [er]
  rw [cmp_map (f := fun i : Nat => .int (i : Nat)) (g := fun i => .int (if ps.getD i 0 - qs.getD i 0 < 0 then -(ps.getD i 0 - qs.getD i 0) else ps.getD i 0 - qs.getD i 0)) fun i hi => by
    rw [List.mem_range] at hi
    have e1 : atD (ps.map D.int) (i : Int) = some (.int (ps.getD i 0)) := at_c (by omega) (by omega)
    have e2 : atD (qs.map D.int) (i : Int) = some (.int (qs.getD i 0)) := at_c (by omega) (by omega)
    exact ⟨_, rfl, rfl, by simp! [e1, e2]⟩]
  have z2 : (List.range ps.length).map (fun i => D.int (if ps.getD i 0 - qs.getD i 0 < 0 then -(ps.getD i 0 - qs.getD i 0) else ps.getD i 0 - qs.getD i 0)) = (stps ps qs).map .int := by
    apply List.ext_getElem
    · unfold stps; simp [hl]
    · intro i h1 h2
      have i1 : i < ps.length := by simpa using h1
      have i2 : i < qs.length := by omega
      simp only [List.getElem_map, List.getElem_range, stps, List.getElem_zip, List.getD_eq_getElem?_getD, List.getElem?_eq_getElem i1, List.getElem?_eq_getElem i2, Option.getD_some, List.map_map, Function.comp]
  rw [z2]
  cases t with
  | true => simp! [b144_1, wyS, show decide (PySem.Str.ofString "taxi" = PySem.Str.ofString "taxi") = true from rfl, apD]
  | false => simp! [b144_1, wyS, show decide (PySem.Str.ofString "chess" = PySem.Str.ofString "taxi") = false from by decide +kernel, apD, if_neg (stps_ne hp (show qs ≠ [] from fun z => hp (List.length_eq_zero_iff.mp (by rw [hl, z]; rfl))))]
/-! ### ends -/
def dsts (t : Bool) (m : Th) (l : List Th) : List Int := l.map fun p => apD t m.2 p.2
def nep (l : List Th) : Prop := ∀ p ∈ l, p.2 ≠ []
theorem ends_ok [F17 P] [F15 P] [F150 P] {m : Th} {l : List Th} (hm : m.2 ≠ []) (hl : nep l) (ne : l ≠ []) (hn : 3 ≤ n) : P.run n 150 [.str (wyS t), ptD m.2, .kls (l.map thD)] h = .ok (.v (.tup [.int (loZ (dsts t m l)), .int (hiZ (dsts t m l))])) h := by
  obtain ⟨k, rfl⟩ : ∃ m, n = m + 1 := ⟨n - 1, by omega⟩
  rw [run_of (F150.h (P := P)) rfl]
  simp! [b150_0]
  rw [cmp_map (f := thD) (g := fun p => .int (apD t m.2 p.2)) fun p hp => ⟨_, rfl, rfl, by simp! [apart2_ok (P := P) (t := t) hm (hl p hp), setsE]⟩]
  have e : l.map (fun p => D.int (apD t m.2 p.2)) = (dsts t m l).map .int := by unfold dsts; rw [List.map_map]; rfl
  have ne2 : dsts t m l ≠ [] := by unfold dsts; simpa using ne
  rw [e]
  simp! [b150_1, if_neg ne2]
theorem eqK_nil {α : Type} {l : List α} {f : α → D} (h : l ≠ []) : eqE (.kls (l.map f)) (.kls []) = some false := by
  cases l with
  | nil => exact absurd rfl h
  | cons a l => exact eq_nil
theorem eqK_nn : eqE (.kls []) (.kls []) = some true := rfl
theorem part_ok [F144 P] [F248 P] {m : Th} {l : List Th} {b : D} (hm : m.2 ≠ []) (hm2 : m.2.length ≤ 1000) (hl : ∀ p ∈ l, m.2.length = p.2.length) (hn : 2 ≤ n) : P.run n 248 [.str (wyS t), ptD m.2, .kls (l.map thD), b] h = .ok (.v (if l = [] then .non else .tup [.int (loZ (dsts t m l)), .int (hiZ (dsts t m l)), b])) h := by
  obtain ⟨k, rfl⟩ : ∃ m, n = m + 1 := ⟨n - 1, by omega⟩
  rw [run_of (F248.h (P := P)) rfl]
  by_cases ne : l = []
  · subst ne
    simp! [b248_0, b248_0a_0, eqK_nn]
  · simp! [b248_0, eqK_nil ne, b248_1]
    rw [cmp_map (f := thD) (g := fun p => .int (apD t m.2 p.2)) fun p hp => ⟨_, rfl, rfl, by simp! [lawApart_ok (P := P) (t := t) (hl p hp) hm hm2, setsE]⟩]
    have e : l.map (fun p => D.int (apD t m.2 p.2)) = (dsts t m l).map .int := by unfold dsts; rw [List.map_map]; rfl
    have ne2 : dsts t m l ≠ [] := by unfold dsts; simpa using ne
    rw [e]
    simp! [b248_2, if_neg ne2, if_neg ne]
end
/-! ### balls -/
inductive Bl where
  | nil
  | node (m : Th) (lo hi : Int) (a : Bl) (lo' hi' : Int) (b : Bl)
def Bl.isNil : Bl → Bool
  | .nil => true
  | _ => false
mutual
def blD : Bl → D
  | .nil => .non
  | .node m lo hi a lo' hi' b => .tup [.str "ball", .str m.1, ptD m.2, partD lo hi a, partD lo' hi' b]
def partD (lo hi : Int) : Bl → D
  | .nil => .non
  | .node m l0 h0 a l1 h1 b => .tup [.int lo, .int hi, .tup [.str "ball", .str m.1, ptD m.2, partD l0 h0 a, partD l1 h1 b]]
end
theorem part_nil {lo hi : Int} : partD lo hi .nil = .non := by rw [partD]
theorem part_node {lo hi : Int} {b : Bl} (h : b ≠ .nil) : partD lo hi b = .tup [.int lo, .int hi, blD b] := by
  cases b with
  | nil => exact absurd rfl h
  | node m l0 h0 a l1 h1 b => rw [partD, blD]
def Bl.things : Bl → List Th
  | .nil => []
  | .node m _ _ a _ _ b => m :: (a.things ++ b.things)
def Bl.deep : Bl → Nat
  | .nil => 0
  | .node _ _ _ a _ _ b => 1 + max a.deep b.deep
theorem Bl.things_ne {b : Bl} (h : b ≠ .nil) : b.things ≠ [] := by
  cases b with
  | nil => exact absurd rfl h
  | node => exact fun z => by cases z
section
variable {P : Pr} {n : Nat} {h : HD} {t : Bool}
theorem cut3 {a b c d e : D} : Nd.cutD [a, b, c, d, e] (some 3) none = [d, e] := by rw [cut_lo (by decide)]; rfl
theorem cut2 {a b c : D} : Nd.cutD [a, b, c] none (some 2) = [a, b] := by rw [cut_hi (by decide)]; rfl
theorem at5 {a b c d e : D} : atD [a, b, c, d, e] 0 = some a ∧ atD [a, b, c, d, e] 1 = some b ∧ atD [a, b, c, d, e] 2 = some c ∧ atD [a, b, c, d, e] 3 = some d ∧ atD [a, b, c, d, e] 4 = some e := ⟨rfl, rfl, rfl, rfl, rfl⟩
theorem at3 {a b c : D} : atD [a, b, c] 0 = some a ∧ atD [a, b, c] 1 = some b ∧ atD [a, b, c] 2 = some c := ⟨rfl, rfl, rfl⟩
/-- what a part adds -/
theorem around_part [F156 P] {k : Nat} {b : Bl} {lo hi : Int} {x : D} {L : List Th} {x2 : Option SV} (ih : P.run k 156 [blD b] h = .ok (.nl (b.things.map thD)) h) (hl : L.length + b.things.length ≤ 16000000) :
    evB (P.cvn k) b156_2a_0 [some (.v x), some (.l (L.map thD)), some (.v (partD lo hi b))] h = .nx [some (.v x), some (.l ((L ++ b.things).map thD)), some (.v (partD lo hi b))] h := by
  by_cases e : b = .nil
  · subst e
    rw [part_nil]
    have ih : P.run k 156 [.non] h = .ok (.nl []) h := by have := ih; rw [blD] at this; exact this
    simp! [b156_2a_0, ih, List.length_map, if_pos, Bl.things, List.append_nil]
  · rw [part_node e]
    simp! [b156_2a_0, at3, ih, List.length_map, if_pos]
    rw [List.map_append]
theorem around_ok [F156 P] : ∀ (b : Bl) {n : Nat}, b.things.length ≤ 1000000 → b.deep + 1 ≤ n → P.run n 156 [blD b] h = .ok (.nl (b.things.map thD)) h
  | .nil, n, hl, hn => by
    obtain ⟨k, rfl⟩ : ∃ m, n = m + 1 := ⟨n - 1, by omega⟩
    rw [run_of (F156.h (P := P)) rfl, blD]
    simp! [b156_0, b156_0a_0, Bl.things]
  | .node m lo hi a lo' hi' b, n, hl, hn => by
    obtain ⟨k, rfl⟩ : ∃ m, n = m + 1 := ⟨n - 1, by omega⟩
    have hl' : (a.things ++ b.things).length + 1 ≤ 1000000 := hl
    rw [List.length_append] at hl'
    have hd : 1 + max a.deep b.deep + 1 ≤ k + 1 := hn
    have e1 := around_ok a (n := k) (by omega) (by omega)
    have e2 := around_ok b (n := k) (by omega) (by omega)
    rw [run_of (F156.h (P := P)) rfl, blD]
    have s1 := around_part (P := P) (h := h) (k := k) (b := a) (lo := lo) (hi := hi) (x := .tup [.str "ball", .str m.1, ptD m.2, partD lo hi a, partD lo' hi' b]) (L := [m]) (x2 := none) e1 (by simp; omega)
    have s2 := around_part (P := P) (h := h) (k := k) (b := b) (lo := lo') (hi := hi') (x := .tup [.str "ball", .str m.1, ptD m.2, partD lo hi a, partD lo' hi' b]) (L := [m] ++ a.things) (x2 := none) e2 (by simp; omega)
    simp! [b156_0, b156_1, at5, b156_2, cut3]
    rw [for_step rfl s1, for_step rfl s2]
    simp! [b156_3, show forE (Tg.nm 2) (evB (P.cvn k) b156_2a_0) [] = fun σ h => O.nx σ h from rfl]
    rfl
theorem inside_part [F548 P] {k : Nat} {b : Bl} {lo hi : Int} {x : D} {L : List Th} (y : XV) (ih : P.run k 548 [blD b] h = .ok y h) (yr : y.r = .kls (b.things.map thD)) (hl : L.length + b.things.length ≤ 16000000) :
    evB (P.cvn k) b548_2a_0 [some (.v x), some (.v (.kls (L.map thD))), some (.v (partD lo hi b))] h = .nx [some (.v x), some (.v (.kls ((L ++ b.things).map thD))), some (.v (partD lo hi b))] h := by
  by_cases e : b = .nil
  · subst e
    rw [part_nil]
    simp! [b548_2a_0, Bl.things, List.append_nil]
  · rw [part_node e]
    simp! [b548_2a_0, b548_2a_0a_0, at3, ih, opE, addE, yr, List.length_map, if_pos]
    rw [List.map_append]
theorem inside_ok [F548 P] : ∀ (b : Bl) {n : Nat}, b.things.length ≤ 1000000 → b.deep + 1 ≤ n → ∃ x, P.run n 548 [blD b] h = .ok x h ∧ frzE x = some (.v (.kls (b.things.map thD))) ∧ x.r = .kls (b.things.map thD)
  | .nil, n, hl, hn => by
    obtain ⟨k, rfl⟩ : ∃ m, n = m + 1 := ⟨n - 1, by omega⟩
    rw [run_of (F548.h (P := P)) rfl, blD]
    refine ⟨.nl [], ?_, rfl, rfl⟩
    simp! [b548_0, b548_0a_0, Bl.things]
  | .node m lo hi a lo' hi' b, n, hl, hn => by
    obtain ⟨k, rfl⟩ : ∃ m, n = m + 1 := ⟨n - 1, by omega⟩
    have hl' : (a.things ++ b.things).length + 1 ≤ 1000000 := hl
    rw [List.length_append] at hl'
    have hd : 1 + max a.deep b.deep + 1 ≤ k + 1 := hn
    obtain ⟨x1, e1, f1, r1⟩ := inside_ok a (n := k) (by omega) (by omega)
    obtain ⟨x2, e2, f2, r2⟩ := inside_ok b (n := k) (by omega) (by omega)
    refine ⟨.v (.kls ((Bl.node m lo hi a lo' hi' b).things.map thD)), ?_, rfl, rfl⟩
    rw [run_of (F548.h (P := P)) rfl, blD]
    have s1 := inside_part (P := P) (h := h) (k := k) (b := a) (lo := lo) (hi := hi) (x := .tup [.str "ball", .str m.1, ptD m.2, partD lo hi a, partD lo' hi' b]) (L := [m]) x1 e1 r1 (by simp; omega)
    have s2 := inside_part (P := P) (h := h) (k := k) (b := b) (lo := lo') (hi := hi') (x := .tup [.str "ball", .str m.1, ptD m.2, partD lo hi a, partD lo' hi' b]) (L := [m] ++ a.things) x2 e2 r2 (by simp; omega)
    simp! [b548_0, b548_1, at5, b548_2, cut3]
    rw [for_step rfl s1, for_step rfl s2]
    simp! [b548_3, show forE (Tg.nm 2) (evB (P.cvn k) b548_2a_0) [] = fun σ h => O.nx σ h from rfl]
    rfl
theorem eqI2 {a b c d : Int} : eqE (.tup [.int a, .int b]) (.tup [.int c, .int d]) = some (decide (a = c) && decide (b = d)) := by
  show eqG (.tup [.int a, .int b]) (.tup [.int c, .int d]) = _
  unfold eqG
  rw [if_pos (show (pyB (.tup [.int a, .int b]) && deepB (.tup [.int a, .int b]) && (pyB (.tup [.int c, .int d]) && deepB (.tup [.int c, .int d]))) = true from rfl)]
  show some (PyData.eqv (.tuple [.int a, .int b]) (.tuple [.int c, .int d])) = _
  simp only [PyData.eqv, PyData.eqvAll, Bool.and_true]
  rfl
/-- whether a part tells its ends -/
def prB (t : Bool) (m : Th) (lo hi : Int) (b : Bl) : Bool := b.isNil || (decide (lo = loZ (dsts t m b.things)) && decide (hi = hiZ (dsts t m b.things)))
def endsB (t : Bool) : Bl → Bool
  | .nil => true
  | .node m lo hi a lo' hi' b => prB t m lo hi a && endsB t a && (prB t m lo' hi' b && endsB t b) && (a.isNil || b.isNil || decide (hi ≤ lo'))
/-- no point is empty -/
def Bl.fine : Bl → Prop
  | .nil => True
  | .node m _ _ a _ _ b => m.2 ≠ [] ∧ a.fine ∧ b.fine
theorem Bl.fine_nep : ∀ {b : Bl}, b.fine → nep b.things
  | .nil, _, p, hp => nomatch hp
  | .node m _ _ a _ _ b, ⟨h1, h2, h3⟩, p, hp => by
    rcases List.mem_cons.mp hp with rfl | hp
    · exact h1
    · rcases List.mem_append.mp hp with hp | hp
      · exact Bl.fine_nep h2 p hp
      · exact Bl.fine_nep h3 p hp
theorem true_part [F17 P] [F15 P] [F150 P] [F156 P] {k : Nat} {m : Th} {lo hi lo1 hi1 : Int} {b a1 b1 : Bl} {x2 : Option SV} (x : List D) (hx : atD x 2 = some (ptD m.2)) (hm : m.2 ≠ []) (hb : b.fine) (hl : b.things.length ≤ 1000000) (hd : b.deep + 1 ≤ k) (hk : 3 ≤ k) (ih : P.run k 152 [.str (wyS t), blD b] h = .ok (.v (.bl (endsB t b))) h) :
    evB (P.cvn k) b152_0a_0 [some (.v (.str (wyS t))), some (.v (.tup x)), some (.v (partD lo hi b))] h = if (prB t m lo hi b && endsB t b) = true then .nx [some (.v (.str (wyS t))), some (.v (.tup x)), some (.v (partD lo hi b))] h else .rt (.v (.bl false)) h := by
  by_cases e : b = .nil
  · subst e
    rw [part_nil, show prB t m lo hi .nil = true from rfl, show endsB t .nil = true from rfl]
    simp! [b152_0a_0, b152_0a_1]
  · have nn : b.isNil = false := by cases b <;> first | exact absurd rfl e | rfl
    have e1 := around_ok (P := P) (h := h) b (n := k) hl hd
    have e2 := ends_ok (P := P) (n := k) (h := h) (t := t) (m := m) (l := b.things) hm (Bl.fine_nep hb) (Bl.things_ne e) hk
    rw [part_node e]
    unfold prB
    rw [nn]
    cases c1 : (decide (lo = loZ (dsts t m b.things)) && decide (hi = hiZ (dsts t m b.things))) with
    | false => simp! [b152_0a_0, b152_0a_0a_0, at3, cut2, hx, e1, e2, eqI2, c1]
    | true =>
      cases c2 : endsB t b with
      | false => simp! [b152_0a_0, b152_0a_1, b152_0a_1a_0, at3, cut2, hx, e1, e2, eqI2, c1, ih, c2]
      | true => simp! [b152_0a_0, b152_0a_1, at3, cut2, hx, e1, e2, eqI2, c1, ih, c2]
theorem forE_nil {tg : Tg} {b : Sv → HD → O} {σ : Sv} {h : HD} : forE tg b [] σ h = .nx σ h := rfl
theorem for_rt {tg : Tg} {b : Sv → HD → O} {x : D} {xs : List D} {σ σ1 : Sv} {h h2 : HD} {r : XV} (e1 : tgE tg x σ = some σ1) (e2 : b σ1 h = .rt r h2) : forE tg b (x :: xs) σ h = .rt r h2 := by
  show (match tgE tg x σ with
    | none => O.no
    | some σ1 => match b σ1 h with
      | .nx σ2 h2 => forE tg b xs σ2 h2
      | .ct σ2 h2 => forE tg b xs σ2 h2
      | .bk σ2 h2 => .nx σ2 h2
      | o => o) = _
  rw [e1]
  dsimp only
  rw [e2]
theorem isNil_non {b : Bl} {lo hi : Int} : isNon (partD lo hi b) = b.isNil := by
  cases b with
  | nil => rw [part_nil]; rfl
  | node => rw [part_node (fun z => by cases z)]; rfl
theorem trueEnds_ok [F17 P] [F15 P] [F150 P] [F156 P] [F152 P] : ∀ (b : Bl) {n : Nat}, b ≠ .nil → b.fine → b.things.length ≤ 1000000 → b.deep + 3 ≤ n → P.run n 152 [.str (wyS t), blD b] h = .ok (.v (.bl (endsB t b))) h
  | .nil, n, e, _, _, _ => absurd rfl e
  | .node m lo hi a lo' hi' b, n, _, ⟨f1, f2, f3⟩, hl, hn => by
    obtain ⟨k, rfl⟩ : ∃ m, n = m + 1 := ⟨n - 1, by omega⟩
    have hl' : (a.things ++ b.things).length + 1 ≤ 1000000 := hl
    rw [List.length_append] at hl'
    have hd : 1 + max a.deep b.deep + 3 ≤ k + 1 := hn
    have sub : ∀ (c : Bl), c ≠ .nil ∨ c = .nil → True := fun _ _ => trivial
    have run1 : ∀ {lo hi : Int} (c : Bl), c.fine → c.things.length ≤ 1000000 → c.deep + 3 ≤ k → (c ≠ .nil → P.run k 152 [.str (wyS t), blD c] h = .ok (.v (.bl (endsB t c))) h) → ∀ (x : List D), atD x 2 = some (ptD m.2) → evB (P.cvn k) b152_0a_0 [some (.v (.str (wyS t))), some (.v (.tup x)), some (.v (partD lo hi c))] h = if (prB t m lo hi c && endsB t c) = true then .nx [some (.v (.str (wyS t))), some (.v (.tup x)), some (.v (partD lo hi c))] h else .rt (.v (.bl false)) h := fun {lo hi} c fc lc dc ih x hx => by
      by_cases e : c = .nil
      · subst e
        rw [part_nil, show prB t m lo hi .nil = true from rfl, show endsB t .nil = true from rfl]
        simp! [b152_0a_0, b152_0a_1]
      · exact true_part (P := P) (t := t) (h := h) (x2 := none) (a1 := c) (b1 := c) (lo1 := lo) (hi1 := hi) x hx f1 fc lc (by omega) (by omega) (ih e)
    have r1 := run1 (lo := lo) (hi := hi) a f2 (by omega) (by omega) (fun e => trueEnds_ok a e f2 (by omega) (by omega)) [.str "ball", .str m.1, ptD m.2, partD lo hi a, partD lo' hi' b] at5.2.2.1
    have r2 := run1 (lo := lo') (hi := hi') b f3 (by omega) (by omega) (fun e => trueEnds_ok b e f3 (by omega) (by omega)) [.str "ball", .str m.1, ptD m.2, partD lo hi a, partD lo' hi' b] at5.2.2.1
    rw [run_of (F152.h (P := P)) rfl, blD]
    simp! [b152_0, cut3]
    cases c1 : (prB t m lo hi a && endsB t a) with
    | false =>
      rw [c1, if_neg (by decide)] at r1
      rw [for_rt rfl r1]
      simp! [endsB, c1]
    | true =>
      rw [c1, if_pos rfl] at r1
      rw [for_step rfl r1]
      cases c2 : (prB t m lo' hi' b && endsB t b) with
      | false =>
        rw [c2, if_neg (by decide)] at r2
        have r2 : evB (P.cvn k) b152_0a_0 [some (.v (.str (wyS t))), some (.v (.tup [.str "ball", .str m.1, ptD m.2, partD lo hi a, partD lo' hi' b])), some (.v (partD lo' hi' b))] h = _ := r2
        rw [for_rt rfl r2]
        simp! [endsB, c1, c2]
      | true =>
        rw [c2, if_pos rfl] at r2
        rw [for_step rfl r2, forE_nil]
        simp! [b152_1, at5, isE, isNil_non]
        cases ea : a.isNil with
        | true => simp! [endsB, c1, c2, ea]
        | false =>
          cases eb : b.isNil with
          | true => simp! [endsB, c1, c2, ea, eb]
          | false =>
            have na : a ≠ .nil := fun z => by rw [z] at ea; cases ea
            have nb : b ≠ .nil := fun z => by rw [z] at eb; cases eb
            rw [part_node na, part_node nb]
            simp! [at3, endsB, c1, c2, ea, eb]
/-! ### the form -/
def Bl.fm : Int → Bl → Prop
  | _, .nil => True
  | d, .node m lo hi a lo' hi' b => d ≤ 40 ∧ nameD (.str m.1) = true ∧ pointD (ptD m.2) = true ∧ (a ≠ .nil → 0 ≤ lo ∧ lo ≤ 8000000000 ∧ 0 ≤ hi ∧ hi ≤ 8000000000) ∧ (b ≠ .nil → 0 ≤ lo' ∧ lo' ≤ 8000000000 ∧ 0 ≤ hi' ∧ hi' ≤ 8000000000) ∧ a.fm (d + 1) ∧ b.fm (d + 1)
theorem c3 : decide (((3 : Nat) : Int) = 3) = true := rfl
theorem c5 : decide (((5 : Nat) : Int) = 5) = true := rfl
theorem whole_in {x a b : Int} (h1 : a ≤ x) (h2 : x ≤ b) : wholeD (.int x) a b = true := by
  show (decide (a ≤ x) && decide (x ≤ b)) = true
  rw [decide_eq_true h1, decide_eq_true h2]; rfl
theorem partForm_ok [F2 P] [F154 P] {k : Nat} {d lo hi : Int} {b : Bl} (hk : 2 ≤ k) (he : b ≠ .nil → 0 ≤ lo ∧ lo ≤ 8000000000 ∧ 0 ≤ hi ∧ hi ≤ 8000000000) (ih : b ≠ .nil → P.run (k - 1) 151 [blD b, .int d] h = .ok (.v (.bl true)) h) : P.run k 154 [partD lo hi b, .int d] h = .ok (.v (.bl true)) h := by
  obtain ⟨k, rfl⟩ : ∃ m, k = m + 1 := ⟨k - 1, by omega⟩
  rw [run_of (F154.h (P := P)) rfl]
  by_cases e : b = .nil
  · subst e
    rw [part_nil]
    simp! [b154_0, b154_0a_0]
  · obtain ⟨l0, l1, h0, h1⟩ := he e
    have ih := ih e
    rw [Nat.add_sub_cancel] at ih
    rw [part_node e]
    have w1 := whole_ok (P := P) (n := k) (h := h) (d := .int lo) (a := 0) (b := 8000000000) ⟨_, rfl⟩ (by omega)
    have w2 := whole_ok (P := P) (n := k) (h := h) (d := .int hi) (a := 0) (b := 8000000000) ⟨_, rfl⟩ (by omega)
    rw [whole_in l0 l1] at w1
    rw [whole_in h0 h1] at w2
    simp! [b154_0, b154_1, cut2, c3]
    have cm : cmpE (.nm 2) [2] (evs (P.cvn k) .nil).an.t (ev (P.cvn k) (.frz (.call 2 (.cons (.var 2) (.cons (.cst (.int 0)) (.cons (.gl "FARTHEST" (.int 8000000000)) .nil)))))).v [some (.v (.tup [.int lo, .int hi, blD b])), some (.v (.int d)), none] [.int lo, .int hi] h = .ok [.bl true, .bl true] h := by
      have := cmp_map1 (tg := .nm 2) (own := [2]) (t := (evs (P.cvn k) .nil).an.t) (e := (ev (P.cvn k) (.frz (.call 2 (.cons (.var 2) (.cons (.cst (.int 0)) (.cons (.gl "FARTHEST" (.int 8000000000)) .nil)))))).v) (σ := [some (.v (.tup [.int lo, .int hi, blD b])), some (.v (.int d)), none]) (h := h) (g := fun _ => .bl true) (l := [.int lo, .int hi]) fun x hx => by
        rcases List.mem_cons.mp hx with rfl | hx
        · exact ⟨_, rfl, rfl, by simp! [w1]⟩
        · rw [List.mem_singleton] at hx; subst hx
          exact ⟨_, rfl, rfl, by simp! [w2]⟩
      exact this
    rw [cm]
    simp! [show blsE [.bl true, .bl true] = some [true, true] from rfl, show ([true, true].all id) = true from rfl, b154_2, at3, ih, c3]
theorem form_ok [F1 P] [F2 P] [F6 P] [F151 P] [F154 P] : ∀ (b : Bl) {n : Nat} {d : Int}, b ≠ .nil → b.fm d → 2 * b.deep + 4 ≤ n → P.run n 151 [blD b, .int d] h = .ok (.v (.bl true)) h
  | .nil, n, d, e, _, _ => absurd rfl e
  | .node m lo hi a lo' hi' b, n, d, _, ⟨f1, f2, f3, f4, f5, f6, f7⟩, hn => by
    obtain ⟨k, rfl⟩ : ∃ m, n = m + 1 := ⟨n - 1, by omega⟩
    have hd : 2 * (1 + max a.deep b.deep) + 4 ≤ k + 1 := hn
    have p1 := partForm_ok (P := P) (h := h) (k := k) (d := d + 1) (lo := lo) (hi := hi) (b := a) (by omega) f4 fun e => form_ok a e f6 (by omega)
    have p2 := partForm_ok (P := P) (h := h) (k := k) (d := d + 1) (lo := lo') (hi := hi') (b := b) (by omega) f5 fun e => form_ok b e f7 (by omega)
    have nm := name_ok (P := P) (n := k) (h := h) (d := .str m.1) ⟨_, rfl⟩ (by omega)
    have pt := isPoint_ok (P := P) (n := k) (h := h) (d := ptD m.2) ty_pt (by omega)
    rw [f2] at nm
    rw [f3] at pt
    rw [run_of (F151.h (P := P)) rfl, blD]
    have cm : cmpE (.nm 2) [2] (evs (P.cvn k) .nil).an.t (ev (P.cvn k) (.frz (.call 154 (.cons (.var 2) (.cons (.bin .Add (.var 1) (.cst (.int 1))) .nil))))).v [some (.v (.tup [.str "ball", .str m.1, ptD m.2, partD lo hi a, partD lo' hi' b])), some (.v (.int d)), none] [partD lo hi a, partD lo' hi' b] h = .ok [.bl true, .bl true] h := by
      have := cmp_map1 (tg := .nm 2) (own := [2]) (t := (evs (P.cvn k) .nil).an.t) (e := (ev (P.cvn k) (.frz (.call 154 (.cons (.var 2) (.cons (.bin .Add (.var 1) (.cst (.int 1))) .nil))))).v) (σ := [some (.v (.tup [.str "ball", .str m.1, ptD m.2, partD lo hi a, partD lo' hi' b])), some (.v (.int d)), none]) (h := h) (g := fun _ => .bl true) (l := [partD lo hi a, partD lo' hi' b]) fun x hx => by
        rcases List.mem_cons.mp hx with rfl | hx
        · exact ⟨_, rfl, rfl, by simp! [p1]⟩
        · rw [List.mem_singleton] at hx; subst hx
          exact ⟨_, rfl, rfl, by simp! [p2]⟩
      exact this
    simp! [b151_0, c5, decide_eq_false (show ¬ (40 : Int) < d by omega), b151_1, at5, show decide (PySem.Str.ofString "ball" = PySem.Str.ofString "ball") = true from rfl, nm, pt, b151_2, cut3, cm, show blsE [.bl true, .bl true] = some [true, true] from rfl, show ([true, true].all id) = true from rfl]
/-! ### is_ball -/
theorem ints_strs {l : List PySem.Str} (h : l ≠ []) : intsE (l.map .str) = none := by
  cases l with
  | nil => exact absurd rfl h
  | cons x l => rfl
theorem strs_map {l : List PySem.Str} : strsE (l.map .str) = some l := by
  induction l with
  | nil => rfl
  | cons x l ih => show (strsE (l.map .str)).map (x :: ·) = _; rw [ih]; rfl
theorem lset_strs {l : List PySem.Str} (h : l ≠ []) (hl : l.length < 4000) : lsetE (l.map .str) .L = some (.int (onceL l).length) := by
  unfold lsetE
  rw [if_pos (show Gk.l .L = true from rfl), ints_strs h]
  unfold lset2
  rw [strs_map]
  exact if_pos (by have : PySem.scanBound = 4096 := rfl; omega)
theorem dedup_rep1 {n : Nat} (w : Int) (h : 0 < n) : (dedupZ (List.replicate n w)).length = 1 := by
  have := dedup_rep n w
  have : dedupZ (List.replicate n w) ≠ [] := fun z => by
    have e := PyProof.Rows.firstMet_any (fun j => (List.replicate n w).getD j 0) (List.replicate n w).length w
    have z : PyProof.Rows.firstMet (fun j => (List.replicate n w).getD j 0) (List.replicate n w).length = [] := z
    rw [z, List.length_replicate] at e
    have q : ((List.range n).map fun j => (List.replicate n w).getD j 0).any (· == w) = true := by
      rw [List.any_eq_true]
      refine ⟨w, List.mem_map.mpr ⟨0, List.mem_range.mpr h, ?_⟩, by simp⟩
      rw [List.getD_eq_getElem?_getD, List.getElem?_replicate, if_pos h]; rfl
    rw [q] at e
    cases e
  have : 0 < (dedupZ (List.replicate n w)).length := List.length_pos_iff.mpr this
  omega
theorem bway_ok [F89 P] {t : Bool} (hn : 1 ≤ n) : P.run n 89 [.str (wyS t)] h = .ok (.v (.bl true)) h := by
  obtain ⟨k, rfl⟩ : ∃ m, n = m + 1 := ⟨n - 1, by omega⟩
  rw [run_of (F89.h (P := P)) rfl]
  have e : inSeq (.str (wyS t)) [.str "taxi", .str "chess"] false = some true := by cases t <;> decide +kernel
  simp! [b89_0, e]
theorem need_bway_ok [F89 P] [F93 P] {t : Bool} (hn : 2 ≤ n) : P.run n 93 [.str (wyS t)] h = .ok (.v .non) h := by
  obtain ⟨k, rfl⟩ : ∃ m, n = m + 1 := ⟨n - 1, by omega⟩
  rw [run_of (F93.h (P := P)) rfl]
  simp! [b93_0, bway_ok]
structure Ball (b : Bl) (w : Nat) : Prop where
  ne : b ≠ .nil
  fm : b.fm 0
  nd : (b.things.map (·.1)).Nodup
  pt : ∀ p ∈ b.things, p.2.length = w
  w1 : 1 ≤ w
  len : b.things.length ≤ 300
  dp : b.deep ≤ 45
  fine : b.fine
theorem isBall_ok [F1 P] [F2 P] [F6 P] [F151 P] [F154 P] [F89 P] [F17 P] [F15 P] [F150 P] [F156 P] [F152 P] [F153 P] {b : Bl} {w : Nat} (B : Ball b w) (hn : 100 ≤ n) : P.run n 153 [.str (wyS t), blD b] h = .ok (.v (.bl (endsB t b))) h := by
  obtain ⟨k, rfl⟩ : ∃ m, n = m + 1 := ⟨n - 1, by omega⟩
  rw [run_of (F153.h (P := P)) rfl]
  have e1 := bway_ok (P := P) (n := k) (h := h) (t := t) (by omega)
  have e2 := form_ok (P := P) (h := h) b (n := k) (d := 0) B.ne B.fm (by have := B.dp; omega)
  have e3 := around_ok (P := P) (h := h) b (n := k) (by have := B.len; omega) (by have := B.dp; omega)
  have e4 := trueEnds_ok (P := P) (h := h) (t := t) b (n := k) B.ne B.fine (by have := B.len; omega) (by have := B.dp; omega)
  have tn := Bl.things_ne B.ne
  have l3 := B.len
  have nn : b.things.map (·.1) ≠ [] := by simpa using tn
  have once : (onceL (b.things.map (·.1))).length = b.things.length := by rw [onceL_id B.nd, List.length_map]
  have n1 : b.things.map (fun p => D.str p.1) = (b.things.map (·.1)).map .str := by rw [List.map_map]; rfl
  have n2 : b.things.map (fun p => D.int (p.2.length : Nat)) = (List.replicate b.things.length (w : Int)).map .int := by
    rw [List.map_replicate]
    exact List.eq_replicate_iff.mpr ⟨by rw [List.length_map], fun x hx => by
      obtain ⟨p, hp, rfl⟩ := List.mem_map.mp hx
      rw [B.pt p hp]⟩
  have pos : 0 < b.things.length := List.length_pos_iff.mpr tn
  simp! [b153_0, e1, e2, b153_1, e3, b153_2, List.length_map, decide_eq_false (show ¬ (300 : Int) < (b.things.length : Int) by omega)]
  rw [cmp_map (f := thD) (g := fun p => .str p.1) fun p hp => ⟨_, rfl, rfl, by simp! [setsE]⟩, n1]
  simp! [lset_strs nn (by rw [List.length_map]; omega), once, decide_eq_false (Int.lt_irrefl _), b153_3]
  rw [cmp_map (f := thD) (g := fun p => .int (p.2.length : Nat)) fun p hp => ⟨_, rfl, rfl, by simp! [setsE, ptD, List.length_map]⟩, n2]
  simp! [List.length_replicate, dedup_rep1 (w : Int) pos, e4, show PySem.scanBound = 4096 from rfl, if_pos, show eqE (.int ((1 : Nat) : Int)) (.int 1) = some true from rfl]
theorem isBall_non [F151 P] [F89 P] [F153 P] {t : Bool} (hn : 3 ≤ n) : P.run n 153 [.str (wyS t), .non] h = .ok (.v (.bl false)) h := by
  obtain ⟨k, rfl⟩ : ∃ m, n = m + 1 := ⟨n - 1, by omega⟩
  obtain ⟨k, rfl⟩ : ∃ m, k = m + 1 := ⟨k - 1, by omega⟩
  rw [run_of (F153.h (P := P)) rfl]
  have e1 := bway_ok (P := P) (n := k + 1) (h := h) (t := t) (by omega)
  have e2 : P.run (k + 1) 151 [.non, .int 0] h = .ok (.v (.bl false)) h := by
    rw [run_of (F151.h (P := P)) rfl]
    simp! [b151_0, b151_0a_0]
  simp! [b153_0, e1, e2, b153_0a_0]
theorem need_ball_ok [F1 P] [F2 P] [F6 P] [F151 P] [F154 P] [F89 P] [F17 P] [F15 P] [F150 P] [F156 P] [F152 P] [F153 P] [F163 P] {b : Bl} {w : Nat} (B : b = .nil ∨ Ball b w ∧ endsB t b = true) (hn : 101 ≤ n) : P.run n 163 [.str (wyS t), blD b] h = .ok (.v .non) h := by
  obtain ⟨k, rfl⟩ : ∃ m, n = m + 1 := ⟨n - 1, by omega⟩
  rw [run_of (F163.h (P := P)) rfl]
  rcases B with rfl | ⟨B, eb⟩
  · rw [blD]
    simp! [b163_0]
  · have e := isBall_ok (P := P) (n := k) (h := h) (t := t) B (by omega)
    have nn : isNon (blD b) = false := by
      have := B.ne
      cases b with
      | nil => exact absurd rfl this
      | node => rw [blD]; rfl
    simp! [b163_0, isE, nn, e, eb]
end
/-! ### what is balled -/
def leT (a b : Th) : Bool := leD (thD a) (thD b)
def rkD (t : Bool) (m p : Th) : D := .tup [.int (apD t m.2 p.2), .str p.1, ptD p.2]
def leR (t : Bool) (m a b : Th) : Bool := leD (rkD t m a) (rkD t m b)
theorem leT_tot : PySem.W.TotalLe leT := ⟨fun _ _ _ => leD_tot.trans _ _ _, fun _ _ => leD_tot.total _ _⟩
theorem leR_tot {t : Bool} {m : Th} : PySem.W.TotalLe (leR t m) := ⟨fun _ _ _ => leD_tot.trans _ _ _, fun _ _ => leD_tot.total _ _⟩
def minT (l : List Th) : Option Th := (l.mergeSort leT).head?
def ranked (t : Bool) (m : Th) (l : List Th) : List Th := (l.filter fun p => !decide (p.1 = m.1)).mergeSort (leR t m)
def mkB (t : Bool) : Nat → List Th → Bl
  | 0, _ => .nil
  | n + 1, l => match minT l with
    | none => .nil
    | some m => .node m (loZ (dsts t m ((ranked t m l).take (((ranked t m l).length + 1) / 2)))) (hiZ (dsts t m ((ranked t m l).take (((ranked t m l).length + 1) / 2)))) (mkB t n ((ranked t m l).take (((ranked t m l).length + 1) / 2)))
        (loZ (dsts t m ((ranked t m l).drop (((ranked t m l).length + 1) / 2)))) (hiZ (dsts t m ((ranked t m l).drop (((ranked t m l).length + 1) / 2)))) (mkB t n ((ranked t m l).drop (((ranked t m l).length + 1) / 2)))
theorem minT_nil : minT [] = none := by unfold minT; rw [List.mergeSort_nil]; rfl
theorem minT_mem {l : List Th} {m : Th} (h : minT l = some m) : m ∈ l := by
  have : m ∈ l.mergeSort leT := List.mem_of_head? h
  exact (List.mergeSort_perm l leT).mem_iff.mp this
theorem minT_none {l : List Th} (h : minT l = none) : l = [] := by
  have : l.mergeSort leT = [] := by
    cases q : l.mergeSort leT with
    | nil => rfl
    | cons _ _ => unfold minT at h; rw [q] at h; cases h
  have p := List.mergeSort_perm l leT
  rw [this] at p
  exact p.symm.eq_nil
theorem ranked_mem {t : Bool} {m : Th} {l : List Th} {p : Th} : p ∈ ranked t m l ↔ p ∈ l ∧ p.1 ≠ m.1 := by
  unfold ranked
  rw [(List.mergeSort_perm _ _).mem_iff, List.mem_filter, Bool.not_eq_true', decide_eq_false_iff_not]
theorem ranked_len {t : Bool} {m : Th} {l : List Th} (h : m ∈ l) : (ranked t m l).length + 1 ≤ l.length := by
  unfold ranked
  rw [List.length_mergeSort]
  have : ((l.filter fun p => !decide (p.1 = m.1)).length < l.length) := by
    rw [List.length_filter_lt_length_iff_exists]
    exact ⟨m, h, by simp⟩
  omega
theorem ranked_perm {t : Bool} {m : Th} {l : List Th} (h : m ∈ l) (nd : (l.map (·.1)).Nodup) : (m :: ranked t m l).Perm l := by
  have e : (ranked t m l).Perm (l.filter fun p => !decide (p.1 = m.1)) := List.mergeSort_perm _ _
  refine (e.cons m).trans ?_
  clear e
  induction l with
  | nil => cases h
  | cons x l ih =>
    rw [List.map_cons, List.nodup_cons] at nd
    rcases List.mem_cons.mp h with rfl | h
    · have : l.filter (fun p => !decide (p.1 = m.1)) = l := by
        rw [List.filter_eq_self]
        intro p hp
        rw [Bool.not_eq_true', decide_eq_false_iff_not]
        exact fun e => nd.1 (e ▸ List.mem_map.mpr ⟨p, hp, rfl⟩)
      rw [List.filter_cons, if_neg (by simp), this]
    · have ne : x.1 ≠ m.1 := fun e => nd.1 (e ▸ List.mem_map.mpr ⟨m, h, rfl⟩)
      rw [List.filter_cons, if_pos (by simpa using ne)]
      exact (List.Perm.swap x m _).trans ((ih h nd.2).cons x)
theorem mkB_things {t : Bool} : ∀ (n : Nat) (l : List Th), l.length ≤ n → (l.map (·.1)).Nodup → (mkB t n l).things.Perm l
  | 0, l, hl, _ => by
    rw [List.length_eq_zero_iff.mp (Nat.le_zero.mp hl)]; exact .refl _
  | n + 1, l, hl, nd => by
    unfold mkB
    cases e : minT l with
    | none => rw [minT_none e]; exact .refl _
    | some m =>
      have hm := minT_mem e
      have rl := ranked_len (t := t) hm
      have rp := ranked_perm (t := t) hm nd
      have rn : ((ranked t m l).map (·.1)).Nodup := by
        have := (rp.map (·.1)).nodup_iff.mpr nd
        rw [List.map_cons, List.nodup_cons] at this
        exact this.2
      have n1 : (((ranked t m l).take (((ranked t m l).length + 1) / 2)).map (·.1)).Nodup := by rw [List.map_take]; exact rn.sublist (List.take_sublist _ _)
      have n2 : (((ranked t m l).drop (((ranked t m l).length + 1) / 2)).map (·.1)).Nodup := by rw [List.map_drop]; exact rn.sublist (List.drop_sublist _ _)
      have p1 := mkB_things (t := t) n ((ranked t m l).take (((ranked t m l).length + 1) / 2)) (by rw [List.length_take]; omega) n1
      have p2 := mkB_things (t := t) n ((ranked t m l).drop (((ranked t m l).length + 1) / 2)) (by rw [List.length_drop]; omega) n2
      dsimp only
      show (m :: (_ ++ _)).Perm l
      refine List.Perm.trans (List.Perm.cons m ((p1.append p2).trans ?_)) rp
      rw [List.take_append_drop]
/-- its depth: halves -/
theorem mkB_deep {t : Bool} : ∀ (k n : Nat) (l : List Th), l.length < 2 ^ k → (mkB t n l).deep ≤ k
  | 0, n, l, h => by
    have : l = [] := List.length_eq_zero_iff.mp (by omega)
    subst this
    cases n with
    | zero => exact Nat.zero_le _
    | succ n => unfold mkB; rw [minT_nil]; exact Nat.zero_le _
  | k + 1, 0, l, h => Nat.zero_le _
  | k + 1, n + 1, l, h => by
    unfold mkB
    cases e : minT l with
    | none => exact Nat.zero_le _
    | some m =>
      have rl := ranked_len (t := t) (minT_mem e)
      have hk : 2 ^ (k + 1) = 2 * 2 ^ k := by rw [Nat.pow_succ, Nat.mul_comm]
      have d1 := mkB_deep (t := t) k n ((ranked t m l).take (((ranked t m l).length + 1) / 2)) (by rw [List.length_take]; omega)
      have d2 := mkB_deep (t := t) k n ((ranked t m l).drop (((ranked t m l).length + 1) / 2)) (by rw [List.length_drop]; omega)
      show 1 + max _ _ ≤ k + 1
      omega
theorem mkB_nil {t : Bool} {n : Nat} {l : List Th} (hn : l.length ≤ n) : mkB t n l = .nil ↔ l = [] := by
  constructor
  · intro h
    cases n with
    | zero => exact List.length_eq_zero_iff.mp (by omega)
    | succ n =>
      unfold mkB at h
      cases e : minT l with
      | none => exact minT_none e
      | some m => rw [e] at h; cases h
  · rintro rfl
    cases n with
    | zero => rfl
    | succ n => unfold mkB; rw [minT_nil]
/-! ### its ends -/
theorem lo_le : ∀ {ns : List Int} {x : Int}, x ∈ ns → loZ ns ≤ x := fun {ns x} h => loZ_le x h
theorem le_hi : ∀ {ns : List Int} {x : Int}, x ∈ ns → x ≤ hiZ ns := fun {ns x} h => hiZ_ge x h
theorem lo_perm {a b : List Int} (p : a.Perm b) : loZ a = loZ b := by
  by_cases h : a = []
  · subst h; rw [p.symm.eq_nil]
  · have hb : b ≠ [] := fun z => h (by subst z; exact p.eq_nil)
    exact Int.le_antisymm (lo_le (p.mem_iff.mpr (loZ_mem hb))) (lo_le (p.mem_iff.mp (loZ_mem h)))
theorem hi_perm {a b : List Int} (p : a.Perm b) : hiZ a = hiZ b := by
  by_cases h : a = []
  · subst h; rw [p.symm.eq_nil]
  · have hb : b ≠ [] := fun z => h (by subst z; exact p.eq_nil)
    exact Int.le_antisymm (le_hi (p.mem_iff.mp (hiZ_mem h))) (le_hi (p.mem_iff.mpr (hiZ_mem hb)))
theorem rk_toks {t : Bool} {m p : Th} : ∃ r, PySem.W.keyToks (toP (rkD t m p)) = .inl 1 :: .inl (apD t m.2 p.2) :: .inl 1 :: .inr p.1.cps.toList :: r := by
  unfold rkD toP toPs
  exact ⟨_, by
    unfold PySem.W.keyToks PySem.W.keyToksAll
    rfl⟩
theorem leR_dist {t : Bool} {m a b : Th} (h : leR t m a b = true) : apD t m.2 a.2 ≤ apD t m.2 b.2 := by
  unfold leR leD PySem.W.dataLt at h
  obtain ⟨r1, e1⟩ := rk_toks (t := t) (m := m) (p := a)
  obtain ⟨r2, e2⟩ := rk_toks (t := t) (m := m) (p := b)
  rw [e1, e2, Bool.not_eq_true', lex_cons, lex_cons] at h
  have i1 : itemOrd.blt (.inl 1) (.inl 1) = false := rfl
  rw [i1] at h
  have h : (itemOrd.blt (.inl (apD t m.2 b.2)) (.inl (apD t m.2 a.2)) || (!itemOrd.blt (.inl (apD t m.2 a.2)) (.inl (apD t m.2 b.2)) && _)) = false := h
  have := (Bool.or_eq_false_iff.mp h).1
  have : decide (apD t m.2 b.2 < apD t m.2 a.2) = false := this
  have := of_decide_eq_false this
  omega
theorem endsB_mkB {t : Bool} : ∀ (n : Nat) (l : List Th), l.length ≤ n → (l.map (·.1)).Nodup → endsB t (mkB t n l) = true
  | 0, l, _, _ => rfl
  | n + 1, l, hl, nd => by
    unfold mkB
    cases e : minT l with
    | none => rfl
    | some m =>
      have hm := minT_mem e
      have rl := ranked_len (t := t) hm
      have rp := ranked_perm (t := t) hm nd
      have rn : ((ranked t m l).map (·.1)).Nodup := by
        have := (rp.map (·.1)).nodup_iff.mpr nd
        rw [List.map_cons, List.nodup_cons] at this
        exact this.2
      have srt : (ranked t m l).Pairwise (fun a b => leR t m a b = true) := PySem.W.sort_pairwise leR_tot _
      dsimp only
      generalize ranked t m l = o at rl rn srt ⊢
      have hc : (o.length + 1) / 2 ≤ n := by omega
      generalize (o.length + 1) / 2 = c at hc ⊢
      have n1 : ((o.take c).map (·.1)).Nodup := by rw [List.map_take]; exact rn.sublist (List.take_sublist _ _)
      have n2 : ((o.drop c).map (·.1)).Nodup := by rw [List.map_drop]; exact rn.sublist (List.drop_sublist _ _)
      have l1 : (o.take c).length ≤ n := by rw [List.length_take]; omega
      have l2 : (o.drop c).length ≤ n := by rw [List.length_drop]; omega
      have e1 := endsB_mkB (t := t) n (o.take c) l1 n1
      have e2 := endsB_mkB (t := t) n (o.drop c) l2 n2
      have p1 := mkB_things (t := t) n (o.take c) l1 n1
      have p2 := mkB_things (t := t) n (o.drop c) l2 n2
      have pr : ∀ (k : List Th) (b : Bl), b.things.Perm k → prB t m (loZ (dsts t m k)) (hiZ (dsts t m k)) b = true := fun k b p => by
        unfold prB
        have q : (dsts t m b.things).Perm (dsts t m k) := p.map _
        rw [lo_perm q, hi_perm q, decide_eq_true rfl, decide_eq_true rfl]
        simp
      show (prB t m _ _ _ && endsB t _ && (prB t m _ _ _ && endsB t _) && _) = true
      rw [e1, e2, pr _ _ p1, pr _ _ p2]
      cases c1 : (mkB t n (o.take c)).isNil with
      | true => rfl
      | false =>
        cases c2 : (mkB t n (o.drop c)).isNil with
        | true => rfl
        | false =>
          have ne1 : o.take c ≠ [] := fun z => by
            have := (mkB_nil (t := t) l1).mpr z
            rw [this] at c1; cases c1
          have ne2 : o.drop c ≠ [] := fun z => by
            have := (mkB_nil (t := t) l2).mpr z
            rw [this] at c2; cases c2
          have d1 : dsts t m (o.take c) ≠ [] := by unfold dsts; simpa using ne1
          have d2 : dsts t m (o.drop c) ≠ [] := by unfold dsts; simpa using ne2
          obtain ⟨a, ha, ea⟩ := List.mem_map.mp (hiZ_mem d1)
          obtain ⟨b, hb, eb⟩ := List.mem_map.mp (loZ_mem d2)
          have sp : (o.take c ++ o.drop c).Pairwise (fun a b => leR t m a b = true) := by rw [List.take_append_drop]; exact srt
          have := leR_dist ((List.pairwise_append.mp sp).2.2 a ha b hb)
          show (true && true && (true && true) && (false || false || decide (hiZ (dsts t m (o.take c)) ≤ loZ (dsts t m (o.drop c))))) = true
          rw [ea, eb] at this
          have this : hiZ (dsts t m (o.take c)) ≤ loZ (dsts t m (o.drop c)) := this
          rw [decide_eq_true this]
          rfl
/-- the distances of good points -/
theorem stps_bd {ps qs : List Int} {w : Nat} (hp : gp w ps) (hq : gp w qs) : (stps ps qs).length = w ∧ ∀ x ∈ stps ps qs, 0 ≤ x ∧ x ≤ 2000000000 := by
  refine ⟨by unfold stps; rw [List.length_map, List.length_zip, hp.1, hq.1, Nat.min_self], fun x hx => ?_⟩
  obtain ⟨p, hp', rfl⟩ := List.mem_map.mp hx
  have a := hp.2 p.1 (List.of_mem_zip hp').1
  have b := hq.2 p.2 (List.of_mem_zip hp').2
  split <;> omega
theorem sum_bd {b : Int} : ∀ {l : List Int}, (∀ x ∈ l, 0 ≤ x ∧ x ≤ b) → 0 ≤ l.sum ∧ l.sum ≤ l.length * b
  | [], _ => by simp
  | x :: l, h => by
    have h1 := h x List.mem_cons_self
    have h2 := sum_bd (l := l) fun y hy => h y (List.mem_cons_of_mem _ hy)
    rw [List.sum_cons, List.length_cons]
    have : ((l.length + 1 : Nat) : Int) * b = l.length * b + b := by rw [Int.natCast_add, Int.add_mul]; simp
    omega
theorem apD_bd {t : Bool} {ps qs : List Int} {w : Nat} (hp : gp w ps) (hq : gp w qs) (hw : 1 ≤ w ∧ w ≤ 4) : 0 ≤ apD t ps qs ∧ apD t ps qs ≤ 8000000000 := by
  obtain ⟨l, b⟩ := stps_bd hp hq
  unfold apD
  cases t with
  | true =>
    have := sum_bd b
    rw [l] at this
    have w4 : (w : Int) ≤ 4 := by omega
    simp only [if_true]
    omega
  | false =>
    have ne : stps ps qs ≠ [] := fun z => by rw [z] at l; simp at l; omega
    have := b _ (hiZ_mem ne)
    simp only [Bool.false_eq_true, if_false]
    omega
structure Ok (l : List Th) (w : Nat) : Prop where
  nm : ∀ p ∈ l, nameD (.str p.1) = true
  pt : ∀ p ∈ l, gp w p.2
  wd : 1 ≤ w ∧ w ≤ 4
theorem Ok.sub {l m : List Th} {w : Nat} (h : Ok l w) (s : ∀ p ∈ m, p ∈ l) : Ok m w := ⟨fun p hp => h.nm p (s p hp), fun p hp => h.pt p (s p hp), h.wd⟩
theorem Ok.ne {l : List Th} {w : Nat} (h : Ok l w) {p : Th} (hp : p ∈ l) : p.2 ≠ [] := fun z => by
  have := (h.pt p hp).1
  rw [z] at this
  have := h.wd
  simp at *
  omega
theorem fm_mkB {t : Bool} {w : Nat} : ∀ (k n : Nat) (l : List Th) (d : Int), Ok l w → l.length < 2 ^ k → d + k ≤ 41 → (mkB t n l).fm d ∧ (mkB t n l).fine
  | _, 0, _, _, _, _, _ => ⟨trivial, trivial⟩
  | 0, n + 1, l, d, _, h, _ => by
    have : l = [] := List.length_eq_zero_iff.mp (by omega)
    subst this
    unfold mkB; rw [minT_nil]; exact ⟨trivial, trivial⟩
  | k + 1, n + 1, l, d, ok, h, hd => by
    unfold mkB
    cases e : minT l with
    | none => exact ⟨trivial, trivial⟩
    | some m =>
      have hm := minT_mem e
      have rl := ranked_len (t := t) hm
      have hk : 2 ^ (k + 1) = 2 * 2 ^ k := by rw [Nat.pow_succ, Nat.mul_comm]
      have oko : Ok (ranked t m l) w := ok.sub fun p hp => (ranked_mem.mp hp).1
      dsimp only
      generalize ranked t m l = o at rl oko ⊢
      generalize hc : (o.length + 1) / 2 = c
      have ok1 : Ok (o.take c) w := oko.sub fun p hp => List.mem_of_mem_take hp
      have ok2 : Ok (o.drop c) w := oko.sub fun p hp => List.mem_of_mem_drop hp
      obtain ⟨f1, g1⟩ := fm_mkB (t := t) k n (o.take c) (d + 1) ok1 (by rw [List.length_take]; omega) (by omega)
      obtain ⟨f2, g2⟩ := fm_mkB (t := t) k n (o.drop c) (d + 1) ok2 (by rw [List.length_drop]; omega) (by omega)
      have en : ∀ (x : List Th), Ok x w → x ≠ [] → 0 ≤ loZ (dsts t m x) ∧ loZ (dsts t m x) ≤ 8000000000 ∧ 0 ≤ hiZ (dsts t m x) ∧ hiZ (dsts t m x) ≤ 8000000000 := fun x okx ne => by
        have d1 : dsts t m x ≠ [] := by unfold dsts; simpa using ne
        obtain ⟨a, ha, ea⟩ := List.mem_map.mp (hiZ_mem d1)
        obtain ⟨b, hb, eb⟩ := List.mem_map.mp (loZ_mem d1)
        have ba := apD_bd (t := t) (ok.pt m hm) (okx.pt a ha) ok.wd
        have bb := apD_bd (t := t) (ok.pt m hm) (okx.pt b hb) ok.wd
        rw [ea] at ba
        rw [eb] at bb
        exact ⟨bb.1, bb.2, ba.1, ba.2⟩
      have nz : ∀ (x : List Th), mkB t n x ≠ .nil → x ≠ [] := fun x hx z => hx (by
        subst z
        cases n with
        | zero => rfl
        | succ n => unfold mkB; rw [minT_nil])
      exact ⟨⟨by omega, ok.nm m hm, (ok.pt m hm).ok ok.wd, fun z => en _ ok1 (nz _ z), fun z => en _ ok2 (nz _ z), f1, f2⟩, ok.ne hm, g1, g2⟩
theorem Tab.Ok {l : List Th} {w : Nat} (h : Tab l w) : Ok l w := ⟨h.nm, h.pt, h.wd⟩
theorem mkB_ball {t : Bool} {l : List Th} {w n : Nat} (h : Tab l w) (ne : l ≠ []) (hn : l.length ≤ n) : Ball (mkB t n l) w where
  ne := fun z => ne ((mkB_nil hn).mp z)
  fm := (fm_mkB 9 n l 0 h.Ok (by have := h.len; omega) (by omega)).1
  nd := ((mkB_things n l hn h.nd).map (·.1)).nodup_iff.mpr h.nd
  pt := fun p hp => (h.pt p ((mkB_things n l hn h.nd).mem_iff.mp hp)).1
  w1 := h.wd.1
  len := by rw [(mkB_things n l hn h.nd).length_eq]; exact h.len
  dp := Nat.le_trans (mkB_deep 9 n l (by have := h.len; omega)) (by omega)
  fine := (fm_mkB 9 n l 0 h.Ok (by have := h.len; omega) (by omega)).2
end Sx
/-! Sx8: balls are built. -/
namespace Sx
open PySem PySem.Spec PyProof.Rows L2 Nd T
/-! ### rows that compare -/
theorem alike_ints : ∀ ps qs : List Int, PySem.W.alikeAll (toPs (ps.map .int)) (toPs (qs.map .int)) = true
  | [], _ => by simp [toPs, PySem.W.alikeAll]
  | _ :: _, [] => by simp [toPs, PySem.W.alikeAll]
  | p :: ps, q :: qs => by
    show PySem.W.alikeAll (.int p :: toPs (ps.map .int)) (.int q :: toPs (qs.map .int)) = true
    rw [PySem.W.alikeAll, alike_ints ps qs, PySem.W.alike]; rfl
theorem alike_pt (ps qs : List Int) : PySem.W.alike (toP (ptD ps)) (toP (ptD qs)) = true := by
  show PySem.W.alike (.tuple (toPs (ps.map .int))) (.tuple (toPs (qs.map .int))) = true
  rw [PySem.W.alike]; exact alike_ints ps qs
theorem alike_th (p q : Th) : PySem.W.alike (toP (thD p)) (toP (thD q)) = true := by
  show PySem.W.alike (.tuple [.str p.1, toP (ptD p.2)]) (.tuple [.str q.1, toP (ptD q.2)]) = true
  rw [PySem.W.alike, PySem.W.alikeAll, PySem.W.alikeAll, PySem.W.alikeAll, alike_pt, PySem.W.alike]; rfl
theorem alike_rk (t : Bool) (m p q : Th) : PySem.W.alike (toP (rkD t m p)) (toP (rkD t m q)) = true := by
  show PySem.W.alike (.tuple [.int _, .str p.1, toP (ptD p.2)]) (.tuple [.int _, .str q.1, toP (ptD q.2)]) = true
  rw [PySem.W.alike, PySem.W.alikeAll, PySem.W.alikeAll, PySem.W.alikeAll, PySem.W.alikeAll, alike_pt, PySem.W.alike, PySem.W.alike]; rfl
theorem py_ints : ∀ ps : List Int, pyBs (ps.map .int) = true
  | [] => rfl
  | _ :: ps => by show (true && pyBs (ps.map .int)) = true; rw [py_ints ps]; rfl
theorem py_th (p : Th) : pyB (thD p) = true := by
  show (true && (pyBs (p.2.map .int) && true)) = true
  rw [py_ints]; rfl
theorem py_rk (t : Bool) (m p : Th) : pyB (rkD t m p) = true := by
  show (true && (true && (pyBs (p.2.map .int) && true))) = true
  rw [py_ints]; rfl
theorem py_map {α : Type} {f : α → D} (h : ∀ a, pyB (f a) = true) : ∀ l : List α, pyBs (l.map f) = true
  | [] => rfl
  | a :: l => by show (pyB (f a) && pyBs (l.map f)) = true; rw [h a, py_map h l]; rfl
theorem dp_ints : ∀ ps : List Int, PyData.depthAll (toPs (ps.map .int)) = 0
  | [] => rfl
  | p :: ps => by
    show max (PyData.depth (.int p)) (PyData.depthAll (toPs (ps.map .int))) = 0
    rw [dp_ints ps]; rfl
theorem dp_pt (ps : List Int) : (toP (ptD ps)).depth = 1 := by
  show PyData.depth (.tuple (toPs (ps.map .int))) = 1
  rw [PyData.depth, dp_ints]
theorem dp_th (p : Th) : (toP (thD p)).depth = 2 := by
  show PyData.depth (.tuple [.str p.1, toP (ptD p.2)]) = 2
  rw [PyData.depth, PyData.depthAll, PyData.depthAll, PyData.depthAll, dp_pt, PyData.depth]; rfl
theorem dp_rk (t : Bool) (m p : Th) : (toP (rkD t m p)).depth = 2 := by
  show PyData.depth (.tuple [.int _, .str p.1, toP (ptD p.2)]) = 2
  rw [PyData.depth, PyData.depthAll, PyData.depthAll, PyData.depthAll, PyData.depthAll, dp_pt, PyData.depth, PyData.depth]; rfl
theorem dp_map {α : Type} {f : α → D} {n : Nat} (h : ∀ a, (toP (f a)).depth ≤ n) : ∀ l : List α, PyData.depthAll (toPs (l.map f)) ≤ n
  | [] => Nat.zero_le _
  | a :: l => by
    show max (toP (f a)).depth (PyData.depthAll (toPs (l.map f))) ≤ n
    exact Nat.max_le.mpr ⟨h a, dp_map h l⟩
theorem toPs_mem {α : Type} {f : α → D} {l : List α} {p : PyData} (h : p ∈ toPs (l.map f)) : ∃ a, p = toP (f a) := by
  rw [toPs_map', List.map_map] at h
  obtain ⟨a, _, e⟩ := List.mem_map.mp h
  exact ⟨a, e.symm⟩
theorem cmp_rows {α : Type} {f : α → D} (h1 : ∀ a, pyB (f a) = true) (h2 : ∀ a b, PySem.W.alike (toP (f a)) (toP (f b)) = true) (h3 : ∀ a, (toP (f a)).depth ≤ 64) (h4 : ∀ a, toP (f a) ≠ .none) (l : List α) : (pyBs (l.map f) && cmpB (toPs (l.map f))) = true := by
  rw [py_map h1, Bool.true_and]
  unfold cmpB
  have a1 : ((toPs (l.map f)).all fun d => (toPs (l.map f)).all fun e => PySem.W.alike d e) = true := by
    rw [List.all_eq_true]; intro d hd; rw [List.all_eq_true]; intro e he
    obtain ⟨a, rfl⟩ := toPs_mem hd
    obtain ⟨b, rfl⟩ := toPs_mem he
    exact h2 a b
  have a2 : ((toPs (l.map f)).all fun p => match p with | .none => false | _ => true) = true := by
    rw [List.all_eq_true]; intro d hd
    obtain ⟨a, rfl⟩ := toPs_mem hd
    have := h4 a
    cases q : toP (f a) <;> first | rfl | exact absurd q this
  rw [a1, Bool.true_and, decide_eq_true (dp_map h3 l), Bool.and_true]; exact a2
theorem srt_rows {α : Type} {f : α → D} (h1 : ∀ a, pyB (f a) = true) (h2 : ∀ a b, PySem.W.alike (toP (f a)) (toP (f b)) = true) (h3 : ∀ a, (toP (f a)).depth ≤ 64) (h4 : ∀ a, tupB (toP (f a)) = true) (l : List α) : (pyBs (l.map f) && srtB (toPs (l.map f))) = true := by
  rw [py_map h1, Bool.true_and]
  unfold srtB
  have a1 : ((toPs (l.map f)).all fun d => (toPs (l.map f)).all fun e => PySem.W.alike d e) = true := by
    rw [List.all_eq_true]; intro d hd; rw [List.all_eq_true]; intro e he
    obtain ⟨a, rfl⟩ := toPs_mem hd
    obtain ⟨b, rfl⟩ := toPs_mem he
    exact h2 a b
  have a2 : (toPs (l.map f)).all tupB = true := by
    rw [List.all_eq_true]; intro d hd
    obtain ⟨a, rfl⟩ := toPs_mem hd
    exact h4 a
  rw [a1, a2, decide_eq_true (dp_map h3 l)]; rfl
theorem cmp_ths (l : List Th) : (pyBs (l.map thD) && cmpB (toPs (l.map thD))) = true := cmp_rows py_th alike_th (fun p => by rw [dp_th]; decide) (fun p z => by cases z) l
theorem srt_ths (l : List Th) : (pyBs (l.map thD) && srtB (toPs (l.map thD))) = true := srt_rows py_th alike_th (fun p => by rw [dp_th]; decide) (fun p => rfl) l
theorem srt_rks (t : Bool) (m : Th) (l : List Th) : (pyBs (l.map (rkD t m)) && srtB (toPs (l.map (rkD t m)))) = true := srt_rows (py_rk t m) (alike_rk t m) (fun p => by rw [dp_rk]; decide) (fun p => rfl) l
theorem sorted_ths (l : List Th) : sortD (l.map thD) (toPs (l.map thD)) = (l.mergeSort leT).map thD := by
  rw [sortD_eq]; exact (PySem.W.sort_maps thD fun _ _ _ _ => rfl).symm
theorem sorted_rks (t : Bool) (m : Th) (l : List Th) : sortD (l.map (rkD t m)) (toPs (l.map (rkD t m))) = (l.mergeSort (leR t m)).map (rkD t m) := by
  rw [sortD_eq]; exact (PySem.W.sort_maps (rkD t m) fun _ _ _ _ => rfl).symm
theorem intsE_ths {l : List Th} (h : l ≠ []) : intsE (l.map thD) = none := by
  cases l with
  | nil => exact absurd rfl h
  | cons x l => rfl
theorem minD_ths (l : List Th) : minD (l.map thD) = (minT l).map fun p => .v (thD p) := by
  unfold minD
  rw [if_pos (cmp_ths l), bst_map]
  have : (bstL (fun a b => PySem.W.dataLt (toP (thD a)) (toP (thD b))) l) = minT l := by
    have e : (fun a b : Th => PySem.W.dataLt (toP (thD a)) (toP (thD b))) = fun x y => !leT y x := by
      funext a b; unfold leT leD; rw [Bool.not_not]
    rw [e]; exact bst_head leT_tot l
  rw [this, Option.map_map]; rfl
section
variable {P : Pr} {n : Nat} {h : HD} {t : Bool}
theorem head_min {l : List Th} {m : Th} (h : minT l = some m) : ∃ r, l.mergeSort leT = m :: r := by
  unfold minT at h
  cases q : l.mergeSort leT with
  | nil => rw [q] at h; cases h
  | cons a r => rw [q] at h; cases h; exact ⟨r, rfl⟩
/-- the things but one, by how far they are from it -/
theorem filt_map {m : Th} {l : List Th} : (l.filter fun p => !decide (p.1 = m.1)).map (rkD t m) = (l.filter fun p => !decide (p.1 = m.1)).map fun p => D.tup [.int (apD t m.2 p.2), .str p.1, ptD p.2] := rfl
/-- a ball's part, as the program makes it -/
theorem partAround_ok [F17 P] [F15 P] [F150 P] [F222 P] {k : Nat} {m : Th} {l : List Th} {b : Bl} {lo hi : Int} (hm : m.2 ≠ []) (hl : nep l) (hlo : lo = loZ (dsts t m l)) (hhi : hi = hiZ (dsts t m l)) (hb : b = .nil ↔ l = []) (hk : 4 ≤ k) (ih : l ≠ [] → P.run (k - 1) 212 [.str (wyS t), .kls (l.map thD)] h = .ok (.v (blD b)) h) :
    P.run k 222 [.str (wyS t), ptD m.2, .kls (l.map thD)] h = .ok (.v (partD lo hi b)) h := by
  obtain ⟨k, rfl⟩ : ∃ m, k = m + 1 := ⟨k - 1, by omega⟩
  rw [run_of (F222.h (P := P)) rfl]
  by_cases e : l = []
  · rw [hb.mpr e, part_nil, e]
    simp! [b222_0, b222_0a_0, eqK_nn]
  · have ih := ih e
    rw [Nat.add_sub_cancel] at ih
    have e2 := ends_ok (P := P) (n := k) (h := h) (t := t) (m := m) (l := l) hm hl e (by omega)
    rw [part_node (fun z => e (hb.mp z)), hlo, hhi]
    have nb : frzE (.v (blD b)) = some (.v (blD b)) := by
      cases b with
      | nil => rw [blD]; rfl
      | node => rw [blD]; rfl
    simp! [b222_0, eqK_nil e, b222_1, e2, ih, nb, if_pos]
theorem fr_part {lo hi : Int} {b : Bl} : frzE (.v (partD lo hi b)) = some (.v (partD lo hi b)) := by
  cases b with
  | nil => rw [part_nil]; rfl
  | node => rw [part_node (fun z => by cases z)]; rfl
theorem fr_ball {b : Bl} : frzE (.v (blD b)) = some (.v (blD b)) := by
  cases b with
  | nil => rw [blD]; rfl
  | node => rw [blD]; rfl
theorem ballAround_ok [F17 P] [F15 P] [F150 P] [F222 P] [F212 P] {w : Nat} : ∀ (j n c : Nat) (l : List Th), Ok l w → l.length < 2 ^ j → l.length ≤ c → l ≠ [] → 2 * j + 6 ≤ n → P.run n 212 [.str (wyS t), .kls (l.map thD)] h = .ok (.v (blD (mkB t c l))) h
  | 0, n, c, l, _, hl, _, ne, _ => absurd (List.length_eq_zero_iff.mp (by omega)) ne
  | j + 1, n, 0, l, _, _, hc, ne, _ => absurd (List.length_eq_zero_iff.mp (by omega)) ne
  | j + 1, n, c + 1, l, ok, hl, hc, ne, hn => by
    obtain ⟨k, rfl⟩ : ∃ m, n = m + 1 := ⟨n - 1, by omega⟩
    rw [run_of (F212.h (P := P)) rfl]
    unfold mkB
    cases e : minT l with
    | none => exact absurd (minT_none e) ne
    | some m =>
      have hm := minT_mem e
      have rl := ranked_len (t := t) hm
      have hk : 2 ^ (j + 1) = 2 * 2 ^ j := by rw [Nat.pow_succ, Nat.mul_comm]
      have oko : Ok (ranked t m l) w := ok.sub fun p hp => (ranked_mem.mp hp).1
      have mne := ok.ne hm
      have m1 := minD_ths l
      rw [e] at m1
      have m1 : minD (l.map thD) = some (.v (.tup [.str m.1, ptD m.2])) := m1
      simp! [b212_0, intsE_ths ne, m1, setsE, b212_1]
      rw [cmp_filter (f := thD) (g := rkD t m) (p := fun p => !decide (p.1 = m.1)) fun p hp => ⟨_, rfl, by simp! [setsE], fun _ => by simp! [apart2_ok (P := P) (t := t) mne (ok.ne hp), setsE]; rfl⟩]
      simp! [if_pos (srt_rks t m (l.filter fun p => !decide (p.1 = m.1))), sorted_rks]
      have er : (l.filter fun p => !decide (p.1 = m.1)).mergeSort (leR t m) = ranked t m l := rfl
      rw [er]
      generalize ranked t m l = o at rl oko ⊢
      simp! [b212_2]
      rw [cmp_map (f := rkD t m) (g := thD) fun p hp => ⟨_, rfl, rfl, by simp! [setsE]; rfl⟩]
      have hh : ((((o.map thD).length : Nat) : Int) + 1) / 2 = (((o.length + 1) / 2 : Nat) : Int) := by rw [List.length_map]; omega
      simp! [b212_3, hh, if_pos]
      generalize hcc : (o.length + 1) / 2 = q at *
      have c1 : Nd.cutD (o.map thD) none (some (q : Int)) = (o.take q).map thD := by rw [cut_hi (by omega), List.map_take]; rfl
      have c2 : Nd.cutD (o.map thD) (some (q : Int)) none = (o.drop q).map thD := by rw [cut_lo (by omega), List.map_drop]; rfl
      have ok1 : Ok (o.take q) w := oko.sub fun p hp => List.mem_of_mem_take hp
      have ok2 : Ok (o.drop q) w := oko.sub fun p hp => List.mem_of_mem_drop hp
      have l1 : (o.take q).length ≤ c := by rw [List.length_take]; omega
      have l2 : (o.drop q).length ≤ c := by rw [List.length_drop]; omega
      have p1 := partAround_ok (P := P) (h := h) (t := t) (k := k) (m := m) (l := o.take q) (b := mkB t c (o.take q)) mne (fun p hp => ok1.ne hp) rfl rfl (mkB_nil l1) (by omega) fun z => ballAround_ok j (k - 1) c (o.take q) ok1 (by rw [List.length_take]; omega) l1 z (by omega)
      have p2 := partAround_ok (P := P) (h := h) (t := t) (k := k) (m := m) (l := o.drop q) (b := mkB t c (o.drop q)) mne (fun p hp => ok2.ne hp) rfl rfl (mkB_nil l2) (by omega) fun z => ballAround_ok j (k - 1) c (o.drop q) ok2 (by rw [List.length_drop]; omega) l2 z (by omega)
      simp! [b212_4, c1, p1, fr_part, b212_5, c2, p2, blD]
theorem blD_node {m : Th} {lo hi : Int} {a : Bl} {lo' hi' : Int} {b : Bl} : blD (.node m lo hi a lo' hi' b) = .tup [.str "ball", .str m.1, ptD m.2, partD lo hi a, partD lo' hi' b] := by rw [blD]
theorem balled_ok [F1 P] [F2 P] [F6 P] [F10 P] [F12 P] [F89 P] [F93 P] [F17 P] [F15 P] [F150 P] [F222 P] [F212 P] [F213 P] {w : Nat} {l : List Th} (T : Tab l w) (hn : 40 ≤ n) : P.run n 213 [tabD l, .str (wyS t)] h = .ok (.v (blD (mkB t l.length l))) h := by
  obtain ⟨k, rfl⟩ : ∃ m, n = m + 1 := ⟨n - 1, by omega⟩
  rw [run_of (F213.h (P := P)) rfl]
  have e1 := need_table_ok (P := P) (n := k) (h := h) (d := tabD l) tyT_tab (by omega)
  rw [if_pos T.ok] at e1
  have e2 := need_bway_ok (P := P) (n := k) (h := h) (t := t) (by omega)
  have ld : lenE (tabD l) = some (.int l.length) := by show some (D.int ((l.map fun p => ptD p.2).length : Nat)) = _; rw [List.length_map]
  have it : itmE (.v (tabD l)) = some (.nl (l.map thD)) := by show some (XV.nl (((l.map fun p => (Sum.inr p.1 : Key)).zip (l.map fun p => ptD p.2)).map fun p => .tup [kD p.1, p.2])) = _; rw [tab_items]
  cases l with
  | nil =>
    simp! [b213_0, e1, b213_1, e2, b213_2, ld, show decide (0 < ((0 : Nat) : Int)) = false from rfl, mkB, blD]
  | cons p l =>
    have e3 := ballAround_ok (P := P) (h := h) (t := t) 9 k (p :: l).length (p :: l) T.Ok (by have := T.len; omega) (Nat.le_refl _) (fun z => by cases z) (by omega)
    have pos : decide (0 < (((p :: l).length : Nat) : Int)) = true := decide_eq_true (by rw [List.length_cons]; omega)
    simp! [b213_0, e1, b213_1, e2, b213_2, ld, show decide (0 < (((l.length + 1 : Nat)) : Int)) = true from decide_eq_true (by omega), it]
    have e3 : P.run k 212 [.str (wyS t), .kls (thD p :: l.map thD)] h = _ := e3
    simp! [e3, fr_ball]
/-- the law's own ball -/
theorem lawBall_ok [F144 P] [F248 P] [F275 P] {w : Nat} : ∀ (j n c : Nat) (l : List Th), Ok l w → l.length < 2 ^ j → l.length ≤ c → 2 * j + 6 ≤ n → P.run n 275 [.str (wyS t), .kls (l.map thD)] h = .ok (.v (blD (mkB t c l))) h
  | j, n, c, [], _, _, _, hn => by
    obtain ⟨k, rfl⟩ : ∃ m, n = m + 1 := ⟨n - 1, by omega⟩
    rw [run_of (F275.h (P := P)) rfl, (mkB_nil (t := t) (l := []) (n := c) (Nat.zero_le _)).mpr rfl, blD]
    simp! [b275_0, b275_0a_0, eqK_nn]
  | 0, n, c, x :: l, _, hl, _, _ => by simp at hl
  | j + 1, n, 0, x :: l, _, _, hc, _ => by simp at hc
  | j + 1, n, c + 1, x :: l', ok, hl, hc, hn => by
    have ne : x :: l' ≠ [] := fun z => by cases z
    generalize x :: l' = l at *
    obtain ⟨k, rfl⟩ : ∃ m, n = m + 1 := ⟨n - 1, by omega⟩
    rw [run_of (F275.h (P := P)) rfl]
    unfold mkB
    cases e : minT l with
    | none => exact absurd (minT_none e) ne
    | some m =>
      have hm := minT_mem e
      have rl := ranked_len (t := t) hm
      have hk : 2 ^ (j + 1) = 2 * 2 ^ j := by rw [Nat.pow_succ, Nat.mul_comm]
      have oko : Ok (ranked t m l) w := ok.sub fun p hp => (ranked_mem.mp hp).1
      have mne := ok.ne hm
      have ml : ∀ {p}, p ∈ l → m.2.length = p.2.length := fun {p} hp => by rw [(ok.pt m hm).1, (ok.pt p hp).1]
      have m4 : m.2.length ≤ 1000 := by rw [(ok.pt m hm).1]; have := ok.wd; omega
      obtain ⟨r, hr⟩ := head_min e
      simp! [b275_0, eqK_nil ne, b275_1, if_pos (srt_ths l), sorted_ths, hr, at_0, thD, setsE, b275_2]
      have tf : (fun p : Th => D.tup [.str p.1, ptD p.2]) = thD := rfl
      simp! [tf]
      rw [cmp_filter (f := thD) (g := rkD t m) (p := fun p => !decide (p.1 = m.1)) fun p hp => ⟨_, rfl, by simp! [setsE], fun _ => by simp! [lawApart_ok (P := P) (t := t) (ml hp) mne m4, setsE]; rfl⟩]
      simp! [if_pos (srt_rks t m (l.filter fun p => !decide (p.1 = m.1))), sorted_rks]
      have er : (l.filter fun p => !decide (p.1 = m.1)).mergeSort (leR t m) = ranked t m l := rfl
      rw [er]
      have os : ∀ p ∈ ranked t m l, p ∈ l := fun p hp => (ranked_mem.mp hp).1
      generalize ranked t m l = o at rl oko os ⊢
      simp! [b275_3]
      rw [cmp_map (f := rkD t m) (g := thD) fun p hp => ⟨_, rfl, rfl, by simp! [setsE]; rfl⟩]
      have hh : (((o.map thD).length : Nat) : Int) - (((o.map thD).length : Nat) : Int) / 2 = (((o.length + 1) / 2 : Nat) : Int) := by rw [List.length_map]; omega
      simp! [b275_4, hh, if_pos]
      generalize hcc : (o.length + 1) / 2 = q at *
      have c1 : Nd.cutD (o.map thD) none (some (q : Int)) = (o.take q).map thD := by rw [cut_hi (by omega), List.map_take]; rfl
      have c2 : Nd.cutD (o.map thD) (some (q : Int)) none = (o.drop q).map thD := by rw [cut_lo (by omega), List.map_drop]; rfl
      have ok1 : Ok (o.take q) w := oko.sub fun p hp => List.mem_of_mem_take hp
      have ok2 : Ok (o.drop q) w := oko.sub fun p hp => List.mem_of_mem_drop hp
      have l1 : (o.take q).length ≤ c := by rw [List.length_take]; omega
      have l2 : (o.drop q).length ≤ c := by rw [List.length_drop]; omega
      have q1 := lawBall_ok j k c (o.take q) ok1 (by rw [List.length_take]; omega) l1 (by omega)
      have q2 := lawBall_ok j k c (o.drop q) ok2 (by rw [List.length_drop]; omega) l2 (by omega)
      have p1 := part_ok (P := P) (h := h) (t := t) (n := k) (m := m) (l := o.take q) (b := blD (mkB t c (o.take q))) mne m4 (fun p hp => ml (os p (List.mem_of_mem_take hp))) (by omega)
      have p2 := part_ok (P := P) (h := h) (t := t) (n := k) (m := m) (l := o.drop q) (b := blD (mkB t c (o.drop q))) mne m4 (fun p hp => ml (os p (List.mem_of_mem_drop hp))) (by omega)
      have pe : ∀ (x : List Th), x.length ≤ c → (if x = [] then D.non else .tup [.int (loZ (dsts t m x)), .int (hiZ (dsts t m x)), blD (mkB t c x)]) = partD (loZ (dsts t m x)) (hiZ (dsts t m x)) (mkB t c x) := fun x hx => by
        by_cases z : x = []
        · rw [if_pos z, (mkB_nil hx).mpr z, part_nil]
        · rw [if_neg z, part_node (fun y => z ((mkB_nil hx).mp y))]
      rw [pe _ l1] at p1
      rw [pe _ l2] at p2
      simp! [b275_5, c1, q1, fr_ball, p1, fr_part, b275_6, c2, q2, p2, blD_node]
theorem dictT {l : List Th} (nd : (l.map (·.1)).Nodup) : mergeD (l.map fun p => ((.inr p.1 : Key), ptD p.2)) = l.map fun p => ((.inr p.1 : Key), ptD p.2) := merge_nodup (keys_nd nd)
theorem ballTable_ok [F1 P] [F2 P] [F6 P] [F151 P] [F154 P] [F89 P] [F93 P] [F17 P] [F15 P] [F150 P] [F156 P] [F152 P] [F153 P] [F163 P] [F322 P] {b : Bl} {w : Nat} (B : b = .nil ∨ Ball b w ∧ endsB t b = true) (hn : 102 ≤ n) :
    P.run n 322 [.str (wyS t), blD b] h = .ok (.nd ((b.things.mergeSort leT).map fun p => ((.inr p.1 : Key), ptD p.2))) h := by
  obtain ⟨k, rfl⟩ : ∃ m, n = m + 1 := ⟨n - 1, by omega⟩
  rw [run_of (F322.h (P := P)) rfl]
  have e1 := need_bway_ok (P := P) (n := k) (h := h) (t := t) (by omega)
  have e2 := need_ball_ok (P := P) (n := k) (h := h) (t := t) B (by omega)
  have bl : b.things.length ≤ 300 ∧ b.deep ≤ 45 ∧ (b.things.map (·.1)).Nodup := by
    rcases B with rfl | ⟨B, _⟩
    · exact ⟨Nat.zero_le _, Nat.zero_le _, List.nodup_nil⟩
    · exact ⟨B.len, B.dp, B.nd⟩
  have e3 := around_ok (P := P) (h := h) b (n := k) (by omega) (by omega)
  have nd : ((b.things.mergeSort leT).map (·.1)).Nodup := ((List.mergeSort_perm b.things leT).map (·.1)).nodup_iff.mpr bl.2.2
  simp! [b322_0, e1, b322_1, e2, b322_2, e3, if_pos (srt_ths b.things), sorted_ths, prs_tab, dictT nd]
theorem truth_ok [F252 P] {b c : Bool} (hn : 1 ≤ n) : P.run n 252 [.bl b, .bl c] h = .ok (.v (.bl (decide (b = c)))) h := by
  obtain ⟨k, rfl⟩ : ∃ m, n = m + 1 := ⟨n - 1, by omega⟩
  rw [run_of (F252.h (P := P)) rfl]
  simp! [b252_0]
end
end Sx
/-! Sx9: what is told as a text; equal to itself. -/
namespace Sx
open PySem PySem.Spec PyProof.Rows L2 Nd T
mutual
theorem eqv_D : ∀ d : D, pyB d = true → PyData.eqv (toP d) (toP d) = true
  | .non, _ => by simp [toP, PyData.eqv]
  | .bl b, _ => by simp [toP, PyData.eqv]
  | .int i, _ => by simp [toP, PyData.eqv]
  | .str s, _ => by simp [toP, PyData.eqv]
  | .tup xs, h => by
    show PyData.eqv (.tuple (toPs xs)) (.tuple (toPs xs)) = true
    rw [PyData.eqv]; exact eqv_Ds xs h
  | .kls xs, h => by
    show PyData.eqv (.list (toPs xs)) (.list (toPs xs)) = true
    rw [PyData.eqv]; exact eqv_Ds xs h
  | .ref _, h => by cases h
  | .ty _, h => by cases h
  | .glo _, h => by cases h
  | .exc _, h => by cases h
  | .kdc _ _, h => by cases h
theorem eqv_Ds : ∀ xs : List D, pyBs xs = true → PyData.eqvAll (toPs xs) (toPs xs) = true
  | [], _ => by simp [toPs, PyData.eqvAll]
  | x :: xs, h => by
    obtain ⟨h1, h2⟩ := Bool.and_eq_true_iff.mp (show (pyB x && pyBs xs) = true from h)
    show PyData.eqvAll (toP x :: toPs xs) (toP x :: toPs xs) = true
    rw [PyData.eqvAll, eqv_D x h1, eqv_Ds xs h2]; rfl
end
theorem eqG_self {d : D} (h : pyB d = true) (hd : deepB d = true) : eqG d d = some true := by
  unfold eqG
  rw [if_pos (by rw [h, hd]; rfl), eqv_D d h]
/-- what repr asks -/
def rpB (d : D) : Bool := pyB d && rpP (toP d) && smP (toP d) && (decide ((toP d).weight ≤ 300000) && deepB d)
theorem repr_ok {ex : Nat → Nat → Option Bool} {d : D} (h : rpB d = true) : biE ex .repr1 [d] = some (.str (toP d).shown) := if_pos h
theorem name_len {x : PySem.Str} (h : nameD (.str x) = true) : x.cps.size ≤ 6 := by
  have h := (Bool.and_eq_true_iff.mp (Bool.and_eq_true_iff.mp h).1).2
  have : (x.length : Int) ≤ 6 := of_decide_eq_true h
  have e : x.length = x.cps.size := rfl
  omega
theorem pt_bd {ps : List Int} (h : pointD (ptD ps) = true) : ps.length ≤ 4 ∧ ∀ x ∈ ps, -1000000000 ≤ x ∧ x ≤ 1000000000 := by
  have h : ((decide (1 ≤ ((ps.map D.int).length : Int)) && decide (((ps.map D.int).length : Int) ≤ 4)) && (ps.map D.int).all fun x => wholeD x (-1000000000) 1000000000) = true := h
  obtain ⟨h1, h2⟩ := Bool.and_eq_true_iff.mp h
  have l := of_decide_eq_true (Bool.and_eq_true_iff.mp h1).2
  rw [List.length_map] at l
  refine ⟨by omega, fun x hx => ?_⟩
  have := List.all_eq_true.mp h2 _ (List.mem_map.mpr ⟨x, hx, rfl⟩)
  have : (decide ((-1000000000 : Int) ≤ x) && decide (x ≤ 1000000000)) = true := this
  obtain ⟨a, b⟩ := Bool.and_eq_true_iff.mp this
  exact ⟨of_decide_eq_true a, of_decide_eq_true b⟩
theorem int_w {i : Int} (h : i.natAbs < 2 ^ 33) : PyData.weight (.int i) ≤ 33 := by
  rw [PyData.weight]
  split
  · omega
  · rename_i c
    have : i.natAbs ≠ 0 := fun z => c (by simpa using Int.natAbs_eq_zero.mp z)
    have := (Nat.log2_lt this).mpr h
    omega
theorem ints_w : ∀ {ps : List Int}, (∀ x ∈ ps, x.natAbs < 2 ^ 33) → PyData.weightAll (toPs (ps.map .int)) ≤ 34 * ps.length
  | [], _ => Nat.zero_le _
  | p :: ps, h => by
    show PyData.weightAll (.int p :: toPs (ps.map .int)) ≤ _
    rw [PyData.weightAll, List.length_cons]
    have := int_w (h p List.mem_cons_self)
    have := ints_w (ps := ps) fun x hx => h x (List.mem_cons_of_mem _ hx)
    omega
theorem ints_sm : ∀ {ps : List Int}, (∀ x ∈ ps, x.natAbs < 2 ^ 33) → smPs (toPs (ps.map .int)) = true
  | [], _ => rfl
  | p :: ps, h => by
    show (decide (p.natAbs < 10 ^ 40) && smPs (toPs (ps.map .int))) = true
    rw [ints_sm fun x hx => h x (List.mem_cons_of_mem _ hx), decide_eq_true (Nat.lt_trans (h p List.mem_cons_self) (by decide))]; rfl
theorem pt_w {ps : List Int} (h : pointD (ptD ps) = true) : (toP (ptD ps)).weight ≤ 136 ∧ smP (toP (ptD ps)) = true := by
  obtain ⟨l, b⟩ := pt_bd h
  have hb : ∀ x ∈ ps, x.natAbs < 2 ^ 33 := fun x hx => by have := b x hx; omega
  have := ints_w hb
  refine ⟨?_, ints_sm hb⟩
  show PyData.weight (.tuple (toPs (ps.map .int))) ≤ 136
  rw [PyData.weight]; omega
theorem th_w {p : Th} (h1 : nameD (.str p.1) = true) (h2 : pointD (ptD p.2) = true) : (toP (thD p)).weight ≤ 144 ∧ smP (toP (thD p)) = true := by
  obtain ⟨a, b⟩ := pt_w h2
  have := name_len h1
  constructor
  · show PyData.weight (.tuple [.str p.1, toP (ptD p.2)]) ≤ 144
    rw [PyData.weight, PyData.weightAll, PyData.weightAll, PyData.weightAll, PyData.weight]; omega
  · show (true && (smP (toP (ptD p.2)) && true)) = true
    rw [b]; rfl
theorem ths_rp {l : List Th} {w : Nat} (T : Tab l w) : rpB (.kls (l.map thD)) = true := by
  have all : ∀ m : List Th, (∀ p ∈ m, nameD (.str p.1) = true ∧ pointD (ptD p.2) = true) → PyData.weightAll (toPs (m.map thD)) ≤ 145 * m.length ∧ smPs (toPs (m.map thD)) = true := by
    intro m
    induction m with
    | nil => exact fun _ => ⟨Nat.zero_le _, rfl⟩
    | cons p m ih =>
      intro h
      obtain ⟨a, b⟩ := ih fun q hq => h q (List.mem_cons_of_mem _ hq)
      obtain ⟨c, d⟩ := th_w (h p List.mem_cons_self).1 (h p List.mem_cons_self).2
      constructor
      · show PyData.weightAll (toP (thD p) :: toPs (m.map thD)) ≤ _
        rw [PyData.weightAll, List.length_cons]; omega
      · show (smP (toP (thD p)) && smPs (toPs (m.map thD))) = true
        rw [d, b]; rfl
  obtain ⟨a, b⟩ := all l fun p hp => ⟨T.nm p hp, (T.pt p hp).ok T.wd⟩
  have hd : (toP (.kls (l.map thD))).depth ≤ 64 := by
    show PyData.depth (.list (toPs (l.map thD))) ≤ 64
    rw [PyData.depth]
    have := dp_map (f := thD) (n := 2) (fun p => by rw [dp_th]; decide) l
    omega
  have hw : (toP (.kls (l.map thD))).weight ≤ 300000 := by
    show PyData.weight (.list (toPs (l.map thD))) ≤ 300000
    rw [PyData.weight]
    have := T.len
    omega
  have hp : pyB (.kls (l.map thD)) = true := py_map py_th l
  unfold rpB deepB
  rw [hp, show smP (toP (.kls (l.map thD))) = true from b, decide_eq_true hw, decide_eq_true hd, show rpP (toP (.kls (l.map thD))) = true from rfl]; rfl
/-! ### balls -/
theorem ball_data : ∀ (b : Bl) {d : Int}, b.fm d → pyB (blD b) = true ∧ smP (toP (blD b)) = true ∧ (toP (blD b)).weight ≤ 300 * b.things.length ∧ (toP (blD b)).depth ≤ 2 * b.deep
  | .nil, _, _ => ⟨by rw [blD]; rfl, by rw [blD]; rfl, by rw [blD]; exact Nat.zero_le _, by rw [blD]; exact Nat.zero_le _⟩
  | .node m lo hi a lo' hi' b, d, ⟨f1, f2, f3, f4, f5, f6, f7⟩ => by
    obtain ⟨a1, a2, a3, a4⟩ := ball_data a f6
    obtain ⟨b1, b2, b3, b4⟩ := ball_data b f7
    obtain ⟨w1, w2⟩ := pt_w f3
    have nl := name_len f2
    have part : ∀ (lo hi : Int) (c : Bl), (c ≠ .nil → 0 ≤ lo ∧ lo ≤ 8000000000 ∧ 0 ≤ hi ∧ hi ≤ 8000000000) → pyB (blD c) = true → smP (toP (blD c)) = true → pyB (partD lo hi c) = true ∧ smP (toP (partD lo hi c)) = true ∧ (toP (partD lo hi c)).weight ≤ 69 + (toP (blD c)).weight ∧ (toP (partD lo hi c)).depth ≤ 1 + (toP (blD c)).depth := fun lo hi c hc p1 p2 => by
      by_cases e : c = .nil
      · subst e; rw [part_nil]; exact ⟨rfl, rfl, Nat.zero_le _, Nat.zero_le _⟩
      · obtain ⟨l0, l1, h0, h1⟩ := hc e
        rw [part_node e]
        have i1 := int_w (i := lo) (by omega)
        have i2 := int_w (i := hi) (by omega)
        refine ⟨?_, ?_, ?_, ?_⟩
        · show (true && (true && (pyB (blD c) && true))) = true
          rw [p1]; rfl
        · show (decide (lo.natAbs < 10 ^ 40) && (decide (hi.natAbs < 10 ^ 40) && (smP (toP (blD c)) && true))) = true
          rw [p2, decide_eq_true (by omega), decide_eq_true (by omega)]; rfl
        · show PyData.weight (.tuple [.int lo, .int hi, toP (blD c)]) ≤ _
          rw [PyData.weight, PyData.weightAll, PyData.weightAll, PyData.weightAll, PyData.weightAll]; omega
        · show PyData.depth (.tuple [.int lo, .int hi, toP (blD c)]) ≤ _
          rw [PyData.depth, PyData.depthAll, PyData.depthAll, PyData.depthAll, PyData.depthAll, PyData.depth, PyData.depth]; omega
    obtain ⟨x1, x2, x3, x4⟩ := part lo hi a f4 a1 a2
    obtain ⟨y1, y2, y3, y4⟩ := part lo' hi' b f5 b1 b2
    rw [blD_node]
    refine ⟨?_, ?_, ?_, ?_⟩
    · show (true && (true && (pyB (ptD m.2) && (pyB (partD lo hi a) && (pyB (partD lo' hi' b) && true))))) = true
      rw [x1, y1, show pyB (ptD m.2) = true from py_ints m.2]; rfl
    · show (true && (true && (smP (toP (ptD m.2)) && (smP (toP (partD lo hi a)) && (smP (toP (partD lo' hi' b)) && true))))) = true
      rw [x2, y2, w2]; rfl
    · show PyData.weight (.tuple [.str "ball", .str m.1, toP (ptD m.2), toP (partD lo hi a), toP (partD lo' hi' b)]) ≤ 300 * (m :: (a.things ++ b.things)).length
      rw [PyData.weight, PyData.weightAll, PyData.weightAll, PyData.weightAll, PyData.weightAll, PyData.weightAll, PyData.weightAll, PyData.weight, PyData.weight, List.length_cons, List.length_append]
      have : (PySem.Str.ofString "ball").cps.size = 4 := by decide +kernel
      omega
    · show PyData.depth (.tuple [.str "ball", .str m.1, toP (ptD m.2), toP (partD lo hi a), toP (partD lo' hi' b)]) ≤ 2 * (1 + max a.deep b.deep)
      rw [PyData.depth, PyData.depthAll, PyData.depthAll, PyData.depthAll, PyData.depthAll, PyData.depthAll, PyData.depthAll, PyData.depth, PyData.depth, dp_pt]
      omega
theorem ball_rp {b : Bl} {d : Int} (f : b.fm d) (hl : b.things.length ≤ 300) (hd : b.deep ≤ 31) : rpB (blD b) = true := by
  obtain ⟨a1, a2, a3, a4⟩ := ball_data b f
  unfold rpB deepB
  rw [a1, a2, decide_eq_true (show (toP (blD b)).weight ≤ 300000 by omega), decide_eq_true (show (toP (blD b)).depth ≤ 64 by omega), show rpP (toP (blD b)) = true from rfl]; rfl
end Sx
namespace T
open PySem PySem.Spec PyProof.Rows L2 Nd
/-! _law_ends_so(_law_way, _law_ball_here) | 0:_law_way 1:_law_ball_here 2:_law_part_here -/
def b513_0a_0a_0 : B := .cons (.ret (.cst (.bl false))) .nil
def b513_0a_1a_0 : B := .cons (.ret (.cst (.bl false))) .nil
def b513_0a_1 : B := .cons (.ite (.nt (.call 513 (.cons (.var 0) (.cons (.sub (.var 2) (.cst (.int 2))) .nil)))) b513_0a_1a_0 .nil) .nil
def b513_0a_0 : B := .cons (.ite (.cmp .NotEq (.var 2) (.call 248 (.cons (.var 0) (.cons (.sub (.var 1) (.cst (.int 2))) (.cons (.frz (.call 548 (.cons (.sub (.var 2) (.cst (.int 2))) .nil))) (.cons (.sub (.var 2) (.cst (.int 2))) .nil)))))) b513_0a_0a_0 .nil) b513_0a_1
def b513_1 : B := .cons (.ret (.or (.cons (.cmp .Is (.sub (.var 1) (.cst (.int 3))) (.cst .non)) (.cons (.cmp .Is (.sub (.var 1) (.cst (.int 4))) (.cst .non)) (.cons (.cmp .LtE (.sub (.sub (.var 1) (.cst (.int 3))) (.cst (.int 1))) (.sub (.sub (.var 1) (.cst (.int 4))) (.cst (.int 0)))) .nil))))) .nil
def b513_0 : B := .cons (.for_ .seq (.cons (.comp .seq (.cons (.slL (.var 1) (.cst (.int 3))) .nil) (.nm 2) [2] (.cons (.cmp .IsNot (.var 2) (.cst .non)) .nil) (.var 2)) .nil) (.nm 2) b513_0a_0) b513_1
/-! _law_right(_law_way, _law_things_here) | 0:_law_way 1:_law_things_here 2:_law_found 3:_law_other 4:_law_due 5:_law_table_here -/
def b711_1a_0 : B := .cons (.ret (.cst (.bl false))) .nil
def b711_2a_0 : B := .cons (.ret (.cst (.bl false))) .nil
def b711_5a_0 : B := .cons (.ret (.cst (.bl false))) .nil
def b711_7a_0 : B := .cons (.ret (.cst (.bl false))) .nil
def b711_9 : B := .cons (.ret (.cmp .Eq (.bi .repr1 (.cons (.itm (.frz (.call 322 (.cons (.var 0) (.cons (.var 2) .nil))))) .nil)) (.bi .repr1 (.cons (.bl .sorted (.var 1)) .nil)))) .nil
def b711_8 : B := .cons (.ex (.bm .clearD (.var 5) .nil)) b711_9
def b711_7 : B := .cons (.ite (.or (.cons (.nt (.bi .isi (.cons (.var 5) (.cons (.ty "dict") .nil)))) (.cons (.cmp .NotEq (.bi .repr1 (.cons (.itm (.var 5)) .nil)) (.bi .repr1 (.cons (.bl .sorted (.var 1)) .nil))) .nil))) b711_7a_0 .nil) b711_8
def b711_6 : B := .cons (.set 5 (.call 322 (.cons (.var 0) (.cons (.var 2) .nil)))) b711_7
def b711_5 : B := .cons (.ite (.nt (.call 252 (.cons (.frz (.call 153 (.cons (.var 3) (.cons (.var 2) .nil)))) (.cons (.var 4) .nil)))) b711_5a_0 .nil) b711_6
def b711_4 : B := .cons (.set 4 (.an (.cons (.cmp .IsNot (.var 2) (.cst .non)) (.cons (.call 513 (.cons (.var 3) (.cons (.var 2) .nil))) .nil)))) b711_5
def b711_3 : B := .cons (.set 3 (.sub (.lst (.cons (.cst (.str "taxi")) (.cons (.cst (.str "chess")) .nil))) (.bi .int1 (.cons (.cmp .Eq (.var 0) (.cst (.str "taxi"))) .nil)))) b711_4
def b711_2 : B := .cons (.ite (.nt (.call 252 (.cons (.frz (.call 153 (.cons (.var 0) (.cons (.var 2) .nil)))) (.cons (.cmp .IsNot (.var 2) (.cst .non)) .nil)))) b711_2a_0 .nil) b711_3
def b711_1 : B := .cons (.ite (.cmp .NotEq (.bi .repr1 (.cons (.var 2) .nil)) (.bi .repr1 (.cons (.call 275 (.cons (.var 0) (.cons (.var 1) .nil))) .nil))) b711_1a_0 .nil) b711_2
def b711_0 : B := .cons (.set 2 (.frz (.call 213 (.cons (.frz (.bl .dict (.var 1))) (.cons (.var 0) .nil))))) b711_1
/-! _law_many() | 0:_law_signs 1:_law_found 2:_law_k -/
def b596_2a_0 : B := .cons (.ex (.bm .append (.var 1) (.cons (.tup (.cons (.bin .Add (.bin .Add (.cst (.str "q")) (.sub (.var 0) (.bin .FloorDiv (.var 2) (.cst (.int 26))))) (.sub (.var 0) (.bin .Mod (.var 2) (.cst (.int 26))))) (.cons (.tup (.cons (.bin .Sub (.bin .Mod (.bin .Mult (.var 2) (.cst (.int 37))) (.cst (.int 300))) (.cst (.int 150))) .nil)) .nil))) .nil))) .nil
def b596_3 : B := .cons (.ret (.var 1)) .nil
def b596_2 : B := .cons (.for_ .rng1 (.cons (.cst (.int 300)) .nil) (.nm 2) b596_2a_0) b596_3
def b596_1 : B := .cons (.set 1 (.lst .nil)) b596_2
def b596_0 : B := .cons (.set 0 (.cst (.str "abcdefghijklmnopqrstuvwxyz"))) b596_1
/-! law(_law_script) | 0:_law_script 1:_law_state 2:_law_ways 3:_law_tables 4:_law_handed 5:_law_first 6:_law_turn -/
def b839_3a_0 : B := .cons (.ret (.cst (.bl false))) .nil
def b839_6a_0 : B := .cons (.ret (.cst (.bl false))) .nil
def b839_7a_0a_0 : B := .cons (.ret (.cst (.bl false))) .nil
def b839_7a_0 : B := .cons (.ite (.nt (.call 711 (.cons (.sub (.var 2) (.var 6)) (.cons (.sub (.var 3) (.var 6)) .nil)))) b839_7a_0a_0 .nil) .nil
def b839_8 : B := .cons (.ret (.cmp .Eq (.bi .repr1 (.cons (.call 213 (.cons (.var 4) (.cons (.sub (.var 2) (.cst (.int 0))) .nil))) .nil)) (.var 5))) .nil
def b839_7 : B := .cons (.for_ .rng1 (.cons (.cst (.int 2)) .nil) (.nm 6) b839_7a_0) b839_8
def b839_6 : B := .cons (.ite (.cmp .NotEq (.itm (.var 4)) (.sub (.var 3) (.cst (.int 0)))) b839_6a_0 .nil) b839_7
def b839_5 : B := .cons (.set 5 (.bi .repr1 (.cons (.call 213 (.cons (.var 4) (.cons (.sub (.var 2) (.cst (.int 0))) .nil))) .nil))) b839_6
def b839_4 : B := .cons (.set 4 (.frz (.bl .dict (.sub (.var 3) (.cst (.int 0)))))) b839_5
def b839_3 : B := .cons (.ite (.an (.cons (.cmp .Eq (.call 3 (.cons (.var 1) (.cons (.cst (.int 16)) .nil))) (.cst (.int 1))) (.cons (.nt (.call 711 (.cons (.sub (.var 2) (.cst (.int 0))) (.cons (.frz (.call 596 .nil)) .nil)))) .nil))) b839_3a_0 .nil) b839_4
def b839_2 : B := .cons (.set 3 (.comp .rng1 (.cons (.cst (.int 2)) .nil) (.nm 6) [6] .nil (.frz (.call 133 (.cons (.var 1) (.cons (.cst (.int 40)) .nil)))))) (.cons (.fz 3) b839_3)
def b839_1 : B := .cons (.set 2 (.comp .rng1 (.cons (.cst (.int 2)) .nil) (.nm 6) [6] .nil (.frz (.call 0 (.cons (.var 1) (.cons (.frz (.lst (.cons (.cst (.str "taxi")) (.cons (.cst (.str "chess")) .nil)))) .nil)))))) (.cons (.fz 2) b839_2)
def b839_0 : B := .cons (.set 1 (.call 8 (.cons (.var 0) .nil))) b839_1
end T
namespace k51
open PySem PySem.Spec PyProof.Rows L2 Nd T
abbrev PW : Program := PySem.Challenge.pw_nigh_k51_balled
abbrev LW : PySem.W.OpenLaw := PySem.Challenge.rw_nigh_k51_balled
def top (i : Nat) : Stmt := PW.main.body.getD i (.Pass ⟨0, 0, 0, 0⟩)
def f2 : Fd := { at_ := ("is_whole", none), name := "is_whole", qual := "is_whole", params := defArgs (top 8), stmts := defBody (top 8), scope := defScope (top 8), ps := ["thing", "least", "most"], N := ["thing", "least", "most"], body := b2_0 }
def f1 : Fd := { at_ := ("is_point", none), name := "is_point", qual := "is_point", params := defArgs (top 9), stmts := defBody (top 9), scope := defScope (top 9), ps := ["thing"], N := ["thing", "number"], body := b1_0 }
def f17 : Fd := { at_ := ("length", none), name := "length", qual := "length", params := defArgs (top 10), stmts := defBody (top 10), scope := defScope (top 10), ps := ["way", "steps"], N := ["way", "steps", "step"], body := b17_0 }
def f15 : Fd := { at_ := ("apart_by", none), name := "apart_by", qual := "apart_by", params := defArgs (top 11), stmts := defBody (top 11), scope := defScope (top 11), ps := ["way", "one", "other"], N := ["way", "one", "other", "first", "second"], body := b15_0 }
def f6 : Fd := { at_ := ("is_name", none), name := "is_name", qual := "is_name", params := defArgs (top 17), stmts := defBody (top 17), scope := defScope (top 17), ps := ["thing"], N := ["thing", "sign"], body := b6_0 }
def f10 : Fd := { at_ := ("is_table", none), name := "is_table", qual := "is_table", params := defArgs (top 18), stmts := defBody (top 18), scope := defScope (top 18), ps := ["thing"], N := ["thing", "name", "point"], body := b10_0 }
def f12 : Fd := { at_ := ("need_table", none), name := "need_table", qual := "need_table", params := defArgs (top 19), stmts := defBody (top 19), scope := defScope (top 19), ps := ["table"], N := ["table"], body := b12_0 }
def f89 : Fd := { at_ := ("is_ball_way", none), name := "is_ball_way", qual := "is_ball_way", params := defArgs (top 24), stmts := defBody (top 24), scope := defScope (top 24), ps := ["way"], N := ["way"], body := b89_0 }
def f93 : Fd := { at_ := ("need_ball_way", none), name := "need_ball_way", qual := "need_ball_way", params := defArgs (top 25), stmts := defBody (top 25), scope := defScope (top 25), ps := ["way"], N := ["way"], body := b93_0 }
def f154 : Fd := { at_ := ("part_has_form", none), name := "part_has_form", qual := "part_has_form", params := defArgs (top 26), stmts := defBody (top 26), scope := defScope (top 26), ps := ["part", "deep"], N := ["part", "deep", "end"], body := b154_0 }
def f151 : Fd := { at_ := ("has_ball_form", none), name := "has_ball_form", qual := "has_ball_form", params := defArgs (top 27), stmts := defBody (top 27), scope := defScope (top 27), ps := ["thing", "deep"], N := ["thing", "deep", "part"], body := b151_0 }
def f156 : Fd := { at_ := ("things_around", none), name := "things_around", qual := "things_around", params := defArgs (top 28), stmts := defBody (top 28), scope := defScope (top 28), ps := ["ball"], N := ["ball", "found", "part"], body := b156_0 }
def f150 : Fd := { at_ := ("ends_from", none), name := "ends_from", qual := "ends_from", params := defArgs (top 29), stmts := defBody (top 29), scope := defScope (top 29), ps := ["way", "middle", "things"], N := ["way", "middle", "things", "numbers", "name", "point"], body := b150_0 }
def f152 : Fd := { at_ := ("has_true_ends", none), name := "has_true_ends", qual := "has_true_ends", params := defArgs (top 30), stmts := defBody (top 30), scope := defScope (top 30), ps := ["way", "ball"], N := ["way", "ball", "part"], body := b152_0 }
def f153 : Fd := { at_ := ("is_ball", none), name := "is_ball", qual := "is_ball", params := defArgs (top 31), stmts := defBody (top 31), scope := defScope (top 31), ps := ["way", "thing"], N := ["way", "thing", "things", "name", "point"], body := b153_0 }
def f163 : Fd := { at_ := ("need_ball", none), name := "need_ball", qual := "need_ball", params := defArgs (top 32), stmts := defBody (top 32), scope := defScope (top 32), ps := ["way", "ball"], N := ["way", "ball"], body := b163_0 }
def f222 : Fd := { at_ := ("part_around", none), name := "part_around", qual := "part_around", params := defArgs (top 33), stmts := defBody (top 33), scope := defScope (top 33), ps := ["way", "middle", "things"], N := ["way", "middle", "things"], body := b222_0 }
def f212 : Fd := { at_ := ("ball_around", none), name := "ball_around", qual := "ball_around", params := defArgs (top 34), stmts := defBody (top 34), scope := defScope (top 34), ps := ["way", "things"], N := ["way", "things", "ranks", "others", "half", "inner", "name", "middle", "number", "other", "point"], body := b212_0 }
def f213 : Fd := { at_ := ("balled", none), name := "balled", qual := "balled", params := defArgs (top 35), stmts := defBody (top 35), scope := defScope (top 35), ps := ["table", "way"], N := ["table", "way"], body := b213_0 }
def f322 : Fd := { at_ := ("ball_table", none), name := "ball_table", qual := "ball_table", params := defArgs (top 36), stmts := defBody (top 36), scope := defScope (top 36), ps := ["way", "ball"], N := ["way", "ball"], body := b322_0 }
def f8 : Fd := { at_ := ("_law_begun", none), name := "_law_begun", qual := "_law_begun", params := defArgs (top 38), stmts := defBody (top 38), scope := defScope (top 38), ps := ["_law_script"], N := ["_law_script", "_law_cell"], body := b8_0 }
def f3 : Fd := { at_ := ("_law_take", none), name := "_law_take", qual := "_law_take", params := defArgs (top 39), stmts := defBody (top 39), scope := defScope (top 39), ps := ["_law_state", "_law_many_here"], N := ["_law_state", "_law_many_here", "_law_cells", "_law_cell", "_law_found"], body := b3_0 }
def f0 : Fd := { at_ := ("_law_pick", none), name := "_law_pick", qual := "_law_pick", params := defArgs (top 40), stmts := defBody (top 40), scope := defScope (top 40), ps := ["_law_state", "_law_some"], N := ["_law_state", "_law_some"], body := b0_0 }
def f39 : Fd := { at_ := ("_law_names", none), name := "_law_names", qual := "_law_names", params := defArgs (top 41), stmts := defBody (top 41), scope := defScope (top 41), ps := ["_law_state", "_law_many_here"], N := ["_law_state", "_law_many_here", "_law_found", "_law_k", "_law_shift", "_law_step", "_law_number_here"], body := b39_0 }
def f5 : Fd := { at_ := ("_law_number", none), name := "_law_number", qual := "_law_number", params := defArgs (top 42), stmts := defBody (top 42), scope := defScope (top 42), ps := ["_law_state", "_law_kind"], N := ["_law_state", "_law_kind"], body := b5_0 }
def f9 : Fd := { at_ := ("_law_point", none), name := "_law_point", qual := "_law_point", params := defArgs (top 43), stmts := defBody (top 43), scope := defScope (top 43), ps := ["_law_state", "_law_width", "_law_kind"], N := ["_law_state", "_law_width", "_law_kind", "_law_axis"], body := b9_0 }
def f54 : Fd := { at_ := ("_law_things", none), name := "_law_things", qual := "_law_things", params := defArgs (top 44), stmts := defBody (top 44), scope := defScope (top 44), ps := ["_law_state", "_law_width", "_law_many_here"], N := ["_law_state", "_law_width", "_law_many_here", "_law_kind", "_law_way", "_law_some", "_law_found", "_law_name", "_law_point_here", "_law_number_here"], body := b54_0 }
def f56 : Fd := { at_ := ("_law_size", none), name := "_law_size", qual := "_law_size", params := defArgs (top 45), stmts := defBody (top 45), scope := defScope (top 45), ps := ["_law_state", "_law_bound"], N := ["_law_state", "_law_bound", "_law_some"], body := b56_0 }
def f133 : Fd := { at_ := ("_law_table", none), name := "_law_table", qual := "_law_table", params := defArgs (top 46), stmts := defBody (top 46), scope := defScope (top 46), ps := ["_law_state", "_law_bound"], N := ["_law_state", "_law_bound"], body := b133_0 }
def f252 : Fd := { at_ := ("_law_truth", none), name := "_law_truth", qual := "_law_truth", params := defArgs (top 47), stmts := defBody (top 47), scope := defScope (top 47), ps := ["_law_found", "_law_due"], N := ["_law_found", "_law_due"], body := b252_0 }
def f144 : Fd := { at_ := ("_law_apart", none), name := "_law_apart", qual := "_law_apart", params := defArgs (top 48), stmts := defBody (top 48), scope := defScope (top 48), ps := ["_law_way", "_law_one", "_law_other"], N := ["_law_way", "_law_one", "_law_other", "_law_steps", "_law_axis"], body := b144_0 }
def f248 : Fd := { at_ := ("_law_part", none), name := "_law_part", qual := "_law_part", params := defArgs (top 49), stmts := defBody (top 49), scope := defScope (top 49), ps := ["_law_way", "_law_middle", "_law_things_here", "_law_ball_here"], N := ["_law_way", "_law_middle", "_law_things_here", "_law_ball_here", "_law_numbers", "_law_name", "_law_point_here"], body := b248_0 }
def f275 : Fd := { at_ := ("_law_ball", none), name := "_law_ball", qual := "_law_ball", params := defArgs (top 50), stmts := defBody (top 50), scope := defScope (top 50), ps := ["_law_way", "_law_things_here"], N := ["_law_way", "_law_things_here", "_law_ranks", "_law_others", "_law_half", "_law_inner", "_law_name", "_law_middle", "_law_number_here", "_law_other", "_law_point_here"], body := b275_0 }
def f548 : Fd := { at_ := ("_law_inside", none), name := "_law_inside", qual := "_law_inside", params := defArgs (top 51), stmts := defBody (top 51), scope := defScope (top 51), ps := ["_law_ball_here"], N := ["_law_ball_here", "_law_found", "_law_part_here"], body := b548_0 }
def f513 : Fd := { at_ := ("_law_ends_so", none), name := "_law_ends_so", qual := "_law_ends_so", params := defArgs (top 52), stmts := defBody (top 52), scope := defScope (top 52), ps := ["_law_way", "_law_ball_here"], N := ["_law_way", "_law_ball_here", "_law_part_here"], body := b513_0 }
def f711 : Fd := { at_ := ("_law_right", none), name := "_law_right", qual := "_law_right", params := defArgs (top 53), stmts := defBody (top 53), scope := defScope (top 53), ps := ["_law_way", "_law_things_here"], N := ["_law_way", "_law_things_here", "_law_found", "_law_other", "_law_due", "_law_table_here"], body := b711_0 }
def f596 : Fd := { at_ := ("_law_many", none), name := "_law_many", qual := "_law_many", params := defArgs (top 54), stmts := defBody (top 54), scope := defScope (top 54), ps := [], N := ["_law_signs", "_law_found", "_law_k"], body := b596_0 }
def f839 : Fd := { at_ := ("law", none), name := "law", qual := "law", params := defArgs (top 55), stmts := defBody (top 55), scope := defScope (top 55), ps := ["_law_script"], N := ["_law_script", "_law_state", "_law_ways", "_law_tables", "_law_handed", "_law_first", "_law_turn"], body := b839_0 }
abbrev nE (x : PySem.Str) (i : Nat) : PySem.Str × Nat := (x, i)
abbrev gE (i : Nat) (x : PySem.Str) : Nat × (PySem.Str × Option PySem.Str) := (i, (x, none))
abbrev cE (x : PySem.Str) (d : D) : PySem.Str × D := (x, d)
abbrev eE (c g : Nat) (b : Bool) : (Nat × Nat) × Bool := ((c, g), b)
abbrev sE (x : PySem.Str) : PySem.Str := x
abbrev pE (i : Nat) (f : Fd) : Nat × Fd := (i, f)
def P : Pr := { fns := [pE 2 f2, pE 1 f1, pE 17 f17, pE 15 f15, pE 6 f6, pE 10 f10, pE 12 f12, pE 89 f89, pE 93 f93, pE 154 f154, pE 151 f151, pE 156 f156, pE 150 f150, pE 152 f152, pE 153 f153, pE 163 f163, pE 222 f222, pE 212 f212, pE 213 f213, pE 322 f322, pE 8 f8, pE 3 f3, pE 0 f0, pE 39 f39, pE 5 f5, pE 9 f9, pE 54 f54, pE 56 f56, pE 133 f133, pE 252 f252, pE 144 f144, pE 248 f248, pE 275 f275, pE 548 f548, pE 513 f513, pE 711 f711, pE 596 f596, pE 839 f839], consts := [cE "MOST_WIDE" (.int 4), cE "GREATEST" (.int 1000000000), cE "KEPT" (.tup [(.str "at"), (.str "by"), (.str "or"), (.str "none")]), cE "MOST_LETTERS" (.int 6), cE "LETTERS" (.str "abcdefghijklmnopqrstuvwxyz"), cE "MOST_THINGS" (.int 300), cE "BALL_WAYS" (.tup [(.str "taxi"), (.str "chess")]), cE "FARTHEST" (.int 8000000000), cE "DEEPEST" (.int 40)], names := [nE "is_whole" 2, nE "is_point" 1, nE "length" 17, nE "apart_by" 15, nE "is_name" 6, nE "is_table" 10, nE "need_table" 12, nE "is_ball_way" 89, nE "need_ball_way" 93, nE "part_has_form" 154, nE "has_ball_form" 151, nE "things_around" 156, nE "ends_from" 150, nE "has_true_ends" 152, nE "is_ball" 153, nE "need_ball" 163, nE "part_around" 222, nE "ball_around" 212, nE "balled" 213, nE "ball_table" 322, nE "_law_begun" 8, nE "_law_take" 3, nE "_law_pick" 0, nE "_law_names" 39, nE "_law_number" 5, nE "_law_point" 9, nE "_law_things" 54, nE "_law_size" 56, nE "_law_table" 133, nE "_law_truth" 252, nE "_law_apart" 144, nE "_law_part" 248, nE "_law_ball" 275, nE "_law_inside" 548, nE "_law_ends_so" 513, nE "_law_right" 711, nE "_law_many" 596, nE "law" 839], cls := [nE "NoBall" 81, nE "NoTable" 7, nE "NoWay" 11], blt := [sE "abs", sE "all", sE "bool", sE "dict", sE "int", sE "isinstance", sE "len", sE "list", sE "max", sE "min", sE "range", sE "repr", sE "set", sE "sorted", sE "str", sE "sum", sE "tuple", sE "zip"], gl := [gE 2 "is_whole", gE 1 "is_point", gE 17 "length", gE 15 "apart_by", gE 6 "is_name", gE 10 "is_table", gE 12 "need_table", gE 89 "is_ball_way", gE 93 "need_ball_way", gE 154 "part_has_form", gE 151 "has_ball_form", gE 156 "things_around", gE 150 "ends_from", gE 152 "has_true_ends", gE 153 "is_ball", gE 163 "need_ball", gE 222 "part_around", gE 212 "ball_around", gE 213 "balled", gE 322 "ball_table", gE 8 "_law_begun", gE 3 "_law_take", gE 0 "_law_pick", gE 39 "_law_names", gE 5 "_law_number", gE 9 "_law_point", gE 54 "_law_things", gE 56 "_law_size", gE 133 "_law_table", gE 252 "_law_truth", gE 144 "_law_apart", gE 248 "_law_part", gE 275 "_law_ball", gE 548 "_law_inside", gE 513 "_law_ends_so", gE 711 "_law_right", gE 596 "_law_many", gE 839 "law", gE 4 "NighError", gE 11 "NoWay", gE 7 "NoTable", gE 81 "NoBall"], exl := [] }
theorem okP : P.okB = true := by decide +kernel
theorem h2 : HasF P 2 b2_0 3 3 := ⟨f2, rfl, rfl, rfl, rfl⟩
theorem h1 : HasF P 1 b1_0 1 2 := ⟨f1, rfl, rfl, rfl, rfl⟩
theorem h17 : HasF P 17 b17_0 2 3 := ⟨f17, rfl, rfl, rfl, rfl⟩
theorem h15 : HasF P 15 b15_0 3 5 := ⟨f15, rfl, rfl, rfl, rfl⟩
theorem h6 : HasF P 6 b6_0 1 2 := ⟨f6, rfl, rfl, rfl, rfl⟩
theorem h10 : HasF P 10 b10_0 1 3 := ⟨f10, rfl, rfl, rfl, rfl⟩
theorem h12 : HasF P 12 b12_0 1 1 := ⟨f12, rfl, rfl, rfl, rfl⟩
theorem h89 : HasF P 89 b89_0 1 1 := ⟨f89, rfl, rfl, rfl, rfl⟩
theorem h93 : HasF P 93 b93_0 1 1 := ⟨f93, rfl, rfl, rfl, rfl⟩
theorem h154 : HasF P 154 b154_0 2 3 := ⟨f154, rfl, rfl, rfl, rfl⟩
theorem h151 : HasF P 151 b151_0 2 3 := ⟨f151, rfl, rfl, rfl, rfl⟩
theorem h156 : HasF P 156 b156_0 1 3 := ⟨f156, rfl, rfl, rfl, rfl⟩
theorem h150 : HasF P 150 b150_0 3 6 := ⟨f150, rfl, rfl, rfl, rfl⟩
theorem h152 : HasF P 152 b152_0 2 3 := ⟨f152, rfl, rfl, rfl, rfl⟩
theorem h153 : HasF P 153 b153_0 2 5 := ⟨f153, rfl, rfl, rfl, rfl⟩
theorem h163 : HasF P 163 b163_0 2 2 := ⟨f163, rfl, rfl, rfl, rfl⟩
theorem h222 : HasF P 222 b222_0 3 3 := ⟨f222, rfl, rfl, rfl, rfl⟩
theorem h212 : HasF P 212 b212_0 2 11 := ⟨f212, rfl, rfl, rfl, rfl⟩
theorem h213 : HasF P 213 b213_0 2 2 := ⟨f213, rfl, rfl, rfl, rfl⟩
theorem h322 : HasF P 322 b322_0 2 2 := ⟨f322, rfl, rfl, rfl, rfl⟩
theorem h8 : HasF P 8 b8_0 1 2 := ⟨f8, rfl, rfl, rfl, rfl⟩
theorem h3 : HasF P 3 b3_0 2 5 := ⟨f3, rfl, rfl, rfl, rfl⟩
theorem h0 : HasF P 0 b0_0 2 2 := ⟨f0, rfl, rfl, rfl, rfl⟩
theorem h39 : HasF P 39 b39_0 2 7 := ⟨f39, rfl, rfl, rfl, rfl⟩
theorem h5 : HasF P 5 b5_0 2 2 := ⟨f5, rfl, rfl, rfl, rfl⟩
theorem h9 : HasF P 9 b9_0 3 4 := ⟨f9, rfl, rfl, rfl, rfl⟩
theorem h54 : HasF P 54 b54_0 3 10 := ⟨f54, rfl, rfl, rfl, rfl⟩
theorem h56 : HasF P 56 b56_0 2 3 := ⟨f56, rfl, rfl, rfl, rfl⟩
theorem h133 : HasF P 133 b133_0 2 2 := ⟨f133, rfl, rfl, rfl, rfl⟩
theorem h252 : HasF P 252 b252_0 2 2 := ⟨f252, rfl, rfl, rfl, rfl⟩
theorem h144 : HasF P 144 b144_0 3 5 := ⟨f144, rfl, rfl, rfl, rfl⟩
theorem h248 : HasF P 248 b248_0 4 7 := ⟨f248, rfl, rfl, rfl, rfl⟩
theorem h275 : HasF P 275 b275_0 2 11 := ⟨f275, rfl, rfl, rfl, rfl⟩
theorem h548 : HasF P 548 b548_0 1 3 := ⟨f548, rfl, rfl, rfl, rfl⟩
theorem h513 : HasF P 513 b513_0 2 3 := ⟨f513, rfl, rfl, rfl, rfl⟩
theorem h711 : HasF P 711 b711_0 2 6 := ⟨f711, rfl, rfl, rfl, rfl⟩
theorem h596 : HasF P 596 b596_0 0 3 := ⟨f596, rfl, rfl, rfl, rfl⟩
theorem h839 : HasF P 839 b839_0 1 7 := ⟨f839, rfl, rfl, rfl, rfl⟩
abbrev loose : List PySem.Str := [sE "NighError", sE "NoWay", sE "NoTable", sE "NoBall", sE "GREATEST", sE "MOST_WIDE", sE "is_whole", sE "is_point", sE "length", sE "apart_by", sE "LETTERS", sE "KEPT", sE "MOST_LETTERS", sE "MOST_THINGS", sE "is_name", sE "is_table", sE "need_table", sE "BALL_WAYS", sE "DEEPEST", sE "FARTHEST", sE "is_ball_way", sE "need_ball_way", sE "part_has_form", sE "has_ball_form", sE "things_around", sE "ends_from", sE "has_true_ends", sE "is_ball", sE "need_ball", sE "part_around", sE "ball_around", sE "balled", sE "ball_table", sE "_law_begun", sE "_law_take", sE "_law_pick", sE "_law_names", sE "_law_number", sE "_law_point", sE "_law_things", sE "_law_size", sE "_law_table", sE "_law_truth", sE "_law_apart", sE "_law_part", sE "_law_ball", sE "_law_inside", sE "_law_ends_so", sE "_law_right", sE "_law_many"]
theorem run (w : World) : HandSHeadRun.RunEq (PySem.W.OpenLaw.row LW) (PySem.W.view PW [55]) (hookN 4 P) (obN 4 P) 15200 loose w := by
  intro os
  kernel_rfl
theorem law_end (k : Nat) (hk : Room k callerA) (hlaw : ∀ ns : List Int, ns.length ≤ 63 → P.call k 839 [.kls (ns.map .int)] (fun _ => none) (fun d _ => d = .bl true) fun _ _ => False) : LW.Holds := by
  w_on; o_law
  refine HandSHeadRun.head_any (r := PySem.W.OpenLaw.row LW) (q := PySem.W.view (PySem.W.OpenLaw.row LW).prog [55]) (H := Nd.hookN 4 P) (ob := Nd.obN 4 P) (M := 15200) (loose := loose) (d := HandSHeadRun.topDef (PySem.W.OpenLaw.row LW).prog 55) (kwd := []) Nd.obN_eq
    (by kernel_rfl) (fun s => by kernel_rfl) run (by kernel_rfl) (by kernel_rfl) (by kernel_rfl) (by rfl) (by first | assumption | decide +kernel) (by decide +kernel) ⟨rfl, rfl, rfl, rfl, rfl, by decide +kernel⟩ ?hw ?hc
  case hw => w_witness2
  case hc => exact Nd.walk (l := LW) (n := 63) (k := k) (x := "_law_script") (nm := "law") (i := 839) (f := f839) rfl (by decide) (by kernel_rfl) hk (by kernel_rfl) okP (by kernel_rfl) rfl rfl hlaw
end k51
/-! Lk51 -/
namespace k51
open PySem PySem.Spec PyProof.Rows L2 Nd T Sx
instance : Sx.F0 P := ⟨h0⟩
instance : Sx.F1 P := ⟨h1⟩
instance : Sx.F2 P := ⟨h2⟩
instance : Sx.F3 P := ⟨h3⟩
instance : Sx.F5 P := ⟨h5⟩
instance : Sx.F6 P := ⟨h6⟩
instance : Sx.F8 P := ⟨h8⟩
instance : Sx.F9 P := ⟨h9⟩
instance : Sx.F10 P := ⟨h10⟩
instance : Sx.F12 P := ⟨h12⟩
instance : Sx.F15 P := ⟨h15⟩
instance : Sx.F17 P := ⟨h17⟩
instance : Sx.F39 P := ⟨h39⟩
instance : Sx.F54 P := ⟨h54⟩
instance : Sx.F56 P := ⟨h56⟩
instance : Sx.F89 P := ⟨h89⟩
instance : Sx.F93 P := ⟨h93⟩
instance : Sx.F133 P := ⟨h133⟩
instance : Sx.F144 P := ⟨h144⟩
instance : Sx.F150 P := ⟨h150⟩
instance : Sx.F151 P := ⟨h151⟩
instance : Sx.F152 P := ⟨h152⟩
instance : Sx.F153 P := ⟨h153⟩
instance : Sx.F154 P := ⟨h154⟩
instance : Sx.F156 P := ⟨h156⟩
instance : Sx.F163 P := ⟨h163⟩
instance : Sx.F212 P := ⟨h212⟩
instance : Sx.F213 P := ⟨h213⟩
instance : Sx.F222 P := ⟨h222⟩
instance : Sx.F248 P := ⟨h248⟩
instance : Sx.F252 P := ⟨h252⟩
instance : Sx.F275 P := ⟨h275⟩
instance : Sx.F322 P := ⟨h322⟩
instance : Sx.F548 P := ⟨h548⟩
/-! ### the ends, as the law asks them -/
theorem eqPart {b : Bl} {d a c a' c' : Int} (f : b.fm d) (hd : b.deep ≤ 31) : eqE (.tup [.int a, .int c, blD b]) (.tup [.int a', .int c', blD b]) = some (decide (a = a') && decide (c = c')) := by
  obtain ⟨p1, _, _, p4⟩ := ball_data b f
  have py : ∀ {x y : Int}, pyB (.tup [.int x, .int y, blD b]) = true := fun {x y} => by
    show (true && (true && (pyB (blD b) && true))) = true
    rw [p1]; rfl
  have dp : ∀ {x y : Int}, deepB (.tup [.int x, .int y, blD b]) = true := fun {x y} => by
    unfold deepB
    have : (toP (.tup [.int x, .int y, blD b])).depth ≤ 64 := by
      show PyData.depth (.tuple [.int x, .int y, toP (blD b)]) ≤ 64
      rw [PyData.depth, PyData.depthAll, PyData.depthAll, PyData.depthAll, PyData.depthAll, PyData.depth, PyData.depth]; omega
    exact decide_eq_true this
  show eqG _ _ = _
  unfold eqG
  rw [py, dp, py, dp]
  show some (PyData.eqv (.tuple [.int a, .int c, toP (blD b)]) (.tuple [.int a', .int c', toP (blD b)])) = _
  rw [PyData.eqv, PyData.eqvAll, PyData.eqvAll, PyData.eqvAll, PyData.eqvAll, eqv_D _ p1, PyData.eqv, PyData.eqv]
  rw [Bool.and_true, Bool.and_true]
  rfl
section
variable {n : Nat} {h : HD} {t : Bool}
theorem so_part {k : Nat} {m : Th} {lo hi : Int} {b : Bl} {d : Int} (x : List D) (hx : atD x 2 = some (ptD m.2)) (hm : m.2 ≠ []) (hm2 : m.2.length ≤ 1000) (hw : ∀ p ∈ b.things, m.2.length = p.2.length) (e : b ≠ .nil) (hf : b.fm d) (hl : b.things.length ≤ 1000000) (hd : b.deep + 1 ≤ k) (hd2 : b.deep ≤ 31) (hk : 2 ≤ k) (ih : P.run k 513 [.str (wyS t), blD b] h = .ok (.v (.bl (endsB t b))) h) :
    evB (P.cvn k) b513_0a_0 [some (.v (.str (wyS t))), some (.v (.tup x)), some (.v (partD lo hi b))] h = if (prB t m lo hi b && endsB t b) = true then .nx [some (.v (.str (wyS t))), some (.v (.tup x)), some (.v (partD lo hi b))] h else .rt (.v (.bl false)) h := by
  have nn : b.isNil = false := by cases b <;> first | exact absurd rfl e | rfl
  obtain ⟨y, e1, e1f, _⟩ := inside_ok (P := P) (h := h) b (n := k) hl hd
  have e2 := part_ok (P := P) (n := k) (h := h) (t := t) (m := m) (l := b.things) (b := blD b) hm hm2 hw hk
  rw [if_neg (Bl.things_ne e)] at e2
  rw [part_node e]
  unfold prB
  rw [nn]
  have q : ∀ {a c : Int}, eqE (.tup [.int lo, .int hi, blD b]) (.tup [.int a, .int c, blD b]) = some (decide (lo = a) && decide (hi = c)) := fun {a c} => eqPart hf hd2
  cases c1 : (decide (lo = loZ (dsts t m b.things)) && decide (hi = hiZ (dsts t m b.things))) with
  | false => simp! [b513_0a_0, b513_0a_0a_0, at3, hx, e1, e1f, e2, q, c1]
  | true =>
    cases c2 : endsB t b with
    | false => simp! [b513_0a_0, b513_0a_1, b513_0a_1a_0, at3, hx, e1, e1f, e2, q, c1, ih, c2]
    | true => simp! [b513_0a_0, b513_0a_1, at3, hx, e1, e1f, e2, q, c1, ih, c2]
def one (lo hi : Int) (b : Bl) : List D := if b.isNil = true then [] else [partD lo hi b]
theorem so_loop {k : Nat} {m : Th} {lo hi : Int} {b : Bl} {x : List D} {x2 : Option SV} {rest : List D} (H : b ≠ .nil → evB (P.cvn k) b513_0a_0 [some (.v (.str (wyS t))), some (.v (.tup x)), some (.v (partD lo hi b))] h = if (prB t m lo hi b && endsB t b) = true then .nx [some (.v (.str (wyS t))), some (.v (.tup x)), some (.v (partD lo hi b))] h else .rt (.v (.bl false)) h) :
    ∃ z2, forE (.nm 2) (evB (P.cvn k) b513_0a_0) (one lo hi b ++ rest) [some (.v (.str (wyS t))), some (.v (.tup x)), x2] h = if (prB t m lo hi b && endsB t b) = true then forE (.nm 2) (evB (P.cvn k) b513_0a_0) rest [some (.v (.str (wyS t))), some (.v (.tup x)), z2] h else .rt (.v (.bl false)) h := by
  by_cases e : b = .nil
  · subst e
    exact ⟨x2, rfl⟩
  · have nn : b.isNil = false := by cases b <;> first | exact absurd rfl e | rfl
    have H := H e
    refine ⟨some (.v (partD lo hi b)), ?_⟩
    unfold one
    rw [nn]
    show forE (.nm 2) (evB (P.cvn k) b513_0a_0) (partD lo hi b :: rest) _ h = _
    cases c : (prB t m lo hi b && endsB t b) with
    | false =>
      rw [c, if_neg (by decide)] at H
      rw [for_rt rfl H]; rfl
    | true =>
      rw [c, if_pos rfl] at H
      rw [for_step rfl H]; rfl
theorem filt_one {lo hi lo' hi' : Int} {a b : Bl} : ([partD lo hi a, partD lo' hi' b].filter fun x => !Nd.isNon x) = one lo hi a ++ (one lo' hi' b ++ []) := by
  unfold one
  rw [List.filter_cons, List.filter_cons, isNil_non, isNil_non]
  cases a.isNil <;> cases b.isNil <;> rfl
theorem endsSo_ok : ∀ (b : Bl) {n w : Nat} {d : Int}, b ≠ .nil → b.fm d → (∀ p ∈ b.things, p.2.length = w) → 1 ≤ w → w ≤ 1000 → b.things.length ≤ 1000000 → b.deep ≤ 31 → b.deep + 4 ≤ n → P.run n 513 [.str (wyS t), blD b] h = .ok (.v (.bl (endsB t b))) h
  | .nil, n, w, d, e, _, _, _, _, _, _, _ => absurd rfl e
  | .node m lo hi a lo' hi' b, n, w, d, _, ⟨f1, f2, f3, f4, f5, f6, f7⟩, hw, w1, w2, hl, hdp, hn => by
    obtain ⟨k, rfl⟩ : ∃ m, n = m + 1 := ⟨n - 1, by omega⟩
    have hl' : (a.things ++ b.things).length + 1 ≤ 1000000 := hl
    rw [List.length_append] at hl'
    have hd : 1 + max a.deep b.deep + 4 ≤ k + 1 := hn
    have hd2 : 1 + max a.deep b.deep ≤ 31 := hdp
    have wm : m.2.length = w := hw m List.mem_cons_self
    have wa : ∀ p ∈ a.things, p.2.length = w := fun p hp => hw p (List.mem_cons_of_mem _ (List.mem_append_left _ hp))
    have wb : ∀ p ∈ b.things, p.2.length = w := fun p hp => hw p (List.mem_cons_of_mem _ (List.mem_append_right _ hp))
    have hm : m.2 ≠ [] := fun z => by rw [z] at wm; simp at wm; omega
    have r1 : a ≠ .nil → _ := fun e => so_part (t := t) (h := h) (k := k) (m := m) (lo := lo) (hi := hi) (b := a) [.str "ball", .str m.1, ptD m.2, partD lo hi a, partD lo' hi' b] at5.2.2.1 hm (by omega) (fun p hp => by rw [wm, wa p hp]) e f6 (by omega) (by omega) (by omega) (by omega) (endsSo_ok a e f6 wa w1 w2 (by omega) (by omega) (by omega))
    have r2 : b ≠ .nil → _ := fun e => so_part (t := t) (h := h) (k := k) (m := m) (lo := lo') (hi := hi') (b := b) [.str "ball", .str m.1, ptD m.2, partD lo hi a, partD lo' hi' b] at5.2.2.1 hm (by omega) (fun p hp => by rw [wm, wb p hp]) e f7 (by omega) (by omega) (by omega) (by omega) (endsSo_ok b e f7 wb w1 w2 (by omega) (by omega) (by omega))
    obtain ⟨z1, l1⟩ := so_loop (x2 := none) (rest := one lo' hi' b ++ []) r1
    obtain ⟨z2, l2⟩ := so_loop (x2 := z1) (rest := []) r2
    rw [run_of h513 rfl, blD_node]
    simp! [b513_0, cut3]
    rw [cmp_filter1 (g := fun x => x) (p := fun x => !Nd.isNon x) fun x hx => by
      rcases List.mem_cons.mp hx with rfl | hx
      · exact ⟨_, rfl, by simp! [setsE, isE], fun _ => by simp! [setsE]⟩
      · rw [List.mem_singleton] at hx; subst hx
        exact ⟨_, rfl, by simp! [setsE, isE], fun _ => by simp! [setsE]⟩]
    simp! [List.map_id', filt_one, l1]
    cases c1 : (prB t m lo hi a && endsB t a) with
    | false => simp! [endsB, c1]
    | true =>
      simp! [l2]
      cases c2 : (prB t m lo' hi' b && endsB t b) with
      | false => simp! [endsB, c1, c2]
      | true =>
        simp! [forE_nil, b513_1, at5, isE, isNil_non]
        cases ea : a.isNil with
        | true => simp! [endsB, c1, c2, ea]
        | false =>
          cases eb : b.isNil with
          | true => simp! [endsB, c1, c2, ea, eb]
          | false =>
            have na : a ≠ .nil := fun z => by rw [z] at ea; cases ea
            have nb : b ≠ .nil := fun z => by rw [z] at eb; cases eb
            rw [part_node na, part_node nb]
            simp! [at3, endsB, c1, c2, ea, eb]
/-! ### what is right -/
theorem isNonB {b : Bl} : Nd.isNon (blD b) = b.isNil := by
  cases b with
  | nil => rw [blD]; rfl
  | node => rw [blD]; rfl
theorem wy_is : decide (wyS t = PySem.Str.ofString "taxi") = t := by cases t <;> decide +kernel
theorem wy_at : atD [.str "taxi", .str "chess"] (if t then 1 else 0) = some (.str (wyS (!t))) := by cases t <;> rfl
theorem th_toks {p : Th} : ∃ r, PySem.W.keyToks (toP (thD p)) = .inl 1 :: .inr p.1.cps.toList :: r := by
  show ∃ r, PySem.W.keyToks (.tuple [.str p.1, toP (ptD p.2)]) = _
  rw [PySem.W.keyToks, PySem.W.keyToksAll, PySem.W.keyToks]
  exact ⟨_, rfl⟩
theorem leT_anti {a b : Th} (h1 : leT a b = true) (h2 : leT b a = true) : a.1 = b.1 := by
  have e := leD_anti h1 h2
  obtain ⟨r1, e1⟩ := th_toks (p := a)
  obtain ⟨r2, e2⟩ := th_toks (p := b)
  rw [e1, e2] at e
  injection e with _ e
  injection e with e _
  have e := Sum.inr.inj e
  cases ha : a.1 with
  | mk x => cases hb : b.1 with
    | mk y =>
      rw [ha, hb] at e
      exact congrArg PySem.Str.mk (Array.toList_inj.mp e)
theorem nd_inj {l : List Th} (nd : (l.map (·.1)).Nodup) {a b : Th} (ha : a ∈ l) (hb : b ∈ l) (e : a.1 = b.1) : a = b := by
  induction l with
  | nil => cases ha
  | cons x l ih =>
    rw [List.map_cons, List.nodup_cons] at nd
    rcases List.mem_cons.mp ha with ea | ha'
    · rcases List.mem_cons.mp hb with eb | hb'
      · rw [ea, eb]
      · exact absurd (List.mem_map.mpr ⟨b, hb', by rw [← ea, e]⟩) nd.1
    · rcases List.mem_cons.mp hb with eb | hb'
      · exact absurd (List.mem_map.mpr ⟨a, ha', by rw [← eb, e]⟩) nd.1
      · exact ih nd.2 ha' hb'
theorem srt_mkB {l : List Th} {n : Nat} (hl : l.length ≤ n) (nd : (l.map (·.1)).Nodup) : (mkB t n l).things.mergeSort leT = l.mergeSort leT := by
  have p := mkB_things (t := t) n l hl nd
  refine sort_perm leT_tot p fun a ha b hb h1 h2 => ?_
  exact nd_inj nd (p.mem_iff.mp ha) (p.mem_iff.mp hb) (leT_anti h1 h2)
theorem Tab.perm {l m : List Th} {w : Nat} (T : Tab l w) (p : m.Perm l) : Tab m w :=
  ⟨(p.map (·.1)).nodup_iff.mpr T.nd, fun q hq => T.nm q (p.mem_iff.mp hq), fun q hq => T.pt q (p.mem_iff.mp hq), T.wd, by rw [p.length_eq]; exact T.len⟩
theorem itm_srt {m : List Th} : (m.map fun p => ((.inr p.1 : Key), ptD p.2)).map (fun p => D.tup [kD p.1, p.2]) = m.map thD := by
  rw [List.map_map]; rfl
theorem itm_k {m : List Th} : (((m.map fun p => ((.inr p.1 : Key), ptD p.2)).map (·.1)).zip ((m.map fun p => ((.inr p.1 : Key), ptD p.2)).map (·.2))).map (fun p => D.tup [kD p.1, p.2]) = m.map thD := by
  rw [List.map_map, List.map_map, List.zip_map', List.map_map]; rfl
theorem fr_tab {l : List Th} : frzE (.v (tabD l)) = some (.v (tabD l)) := rfl
theorem right_ok {l : List Th} {w : Nat} (T : Tab l w) (hn : 110 ≤ n) : P.run n 711 [.str (wyS t), .kls (l.map thD)] h = .ok (.v (.bl true)) h := by
  obtain ⟨k, rfl⟩ : ∃ m, n = m + 1 := ⟨n - 1, by omega⟩
  have e1 := balled_ok (P := P) (n := k) (h := h) (t := t) T (by omega)
  have e2 := lawBall_ok (P := P) (h := h) (t := t) 9 k l.length l T.Ok (by have := T.len; omega) (Nat.le_refl _) (by omega)
  have deep : (mkB t l.length l).deep ≤ 9 := mkB_deep 9 _ l (by have := T.len; omega)
  have pm := mkB_things (t := t) l.length l (Nat.le_refl _) T.nd
  have fm : (mkB t l.length l).fm 0 := (fm_mkB 9 l.length l 0 T.Ok (by have := T.len; omega) (by omega)).1
  have rp := ball_rp fm (by rw [pm.length_eq]; exact T.len) (by omega)
  have ends := endsB_mkB (t := t) l.length l (Nat.le_refl _) T.nd
  have B : mkB t l.length l = .nil ∨ Ball (mkB t l.length l) w ∧ endsB t (mkB t l.length l) = true := by
    by_cases ne : l = []
    · exact .inl ((mkB_nil (Nat.le_refl _)).mpr ne)
    · exact .inr ⟨mkB_ball T ne (Nat.le_refl _), ends⟩
  have e3 := ballTable_ok (P := P) (n := k) (h := h) (t := t) B (by omega)
  rw [srt_mkB (Nat.le_refl _) T.nd] at e3
  have Ts : Tab (l.mergeSort leT) w := Tab.perm T (List.mergeSort_perm l leT)
  have rs := ths_rp Ts
  have wp : ∀ p ∈ (mkB t l.length l).things, p.2.length = w := fun p hp => (T.pt p (pm.mem_iff.mp hp)).1
  have hw := T.wd
  have hl := T.len
  have tl : (mkB t l.length l).things.length ≤ 300 := by rw [pm.length_eq]; exact hl
  generalize mkB t l.length l = b at *
  have e4 : ∀ {s : Bool}, P.run k 153 [.str (wyS s), blD b] h = .ok (.v (.bl (!b.isNil && endsB s b))) h := fun {s} => by
    rcases B with rfl | ⟨B, _⟩
    · rw [blD]; exact isBall_non (by omega)
    · have nn : b.isNil = false := by have := B.ne; cases b <;> first | exact absurd rfl this | rfl
      rw [nn]; exact isBall_ok B (by omega)
  have e5 : b ≠ .nil → P.run k 513 [.str (wyS (!t)), blD b] h = .ok (.v (.bl (endsB (!t) b))) h := fun ne => endsSo_ok b ne fm wp (by omega) (by omega) (by omega) (by omega) (by omega)
  have e6 : ∀ {c : Bool}, P.run k 252 [.bl c, .bl c] h = .ok (.v (.bl true)) h := fun {c} => by
    have := truth_ok (P := P) (n := k) (h := h) (b := c) (c := c) (by omega)
    rw [decide_eq_true rfl] at this; exact this
  have f1 : ∀ {c : Bool}, frzE (.v (.bl c)) = some (.v (.bl c)) := rfl
  rw [run_of h711 rfl]
  simp! [b711_0, prs_tab, dictT T.nd, kdc_tab, fr_tab, e1, fr_ball]
  simp! [b711_1, e2, repr_ok rp, eq_self]
  simp! [b711_2, e4, f1, ends, isE, isNonB, e6]
  simp! [b711_3, wy_is, wy_at]
  cases z : b.isNil with
  | true =>
    simp! [b711_4, isE, isNonB, z]
    simp! [b711_5, e4, z, f1, e6]
    simp! [b711_6, e3]
    simp! [b711_7, itm_srt, repr_ok rs, if_pos (srt_ths l), sorted_ths, eq_self]
    simp! [b711_8]
    simp! [b711_9, e3, itm_k, repr_ok rs, if_pos (srt_ths l), sorted_ths, eq_self]
  | false =>
    have ne : b ≠ .nil := fun q => by rw [q] at z; cases z
    simp! [b711_4, isE, isNonB, z, e5 ne]
    simp! [b711_5, e4, z, f1, e6]
    simp! [b711_6, e3]
    simp! [b711_7, itm_srt, repr_ok rs, if_pos (srt_ths l), sorted_ths, eq_self]
    simp! [b711_8]
    simp! [b711_9, e3, itm_k, repr_ok rs, if_pos (srt_ths l), sorted_ths, eq_self]
end
end k51
namespace k51
open PySem PySem.Spec PyProof.Rows L2 Nd T Sx
/-! ### three hundred things -/
def manyN (k : Nat) : PySem.Str := ⟨#[113, 97 + k / 26, 97 + k % 26]⟩
def manyT : List Th := (List.range 300).map fun k => (manyN k, [((k * 37 % 300 : Nat) : Int) - 150])
theorem many_tab : Tab manyT 1 where
  nd := by decide +kernel
  nm := by
    have : (manyT.all fun p => nameD (.str p.1)) = true := by decide +kernel
    exact List.all_eq_true.mp this
  pt := fun p hp => by
    obtain ⟨k, hk, rfl⟩ := List.mem_map.mp hp
    refine ⟨rfl, fun x hx => ?_⟩
    rw [List.mem_singleton] at hx
    subst hx
    omega
  wd := by decide
  len := by unfold manyT; rw [List.length_map, List.length_range]; decide
variable {n : Nat} {h : HD}
theorem many_ok (hn : 1 ≤ n) : P.run n 596 [] h = .ok (.nl (manyT.map thD)) h := by
  obtain ⟨k, rfl⟩ : ∃ m, n = m + 1 := ⟨n - 1, by omega⟩
  rw [run_of h596 rfl]
  have loop : forE (.nm 2) (evB (P.cvn k) b596_2a_0) (rngL 0 300) [some (.v (.str "abcdefghijklmnopqrstuvwxyz")), some (.l []), none] h = .nx [some (.v (.str "abcdefghijklmnopqrstuvwxyz")), some (.l (manyT.map thD)), some (.v (.int 299))] h := by kernel_rfl
  simp! [b596_0, b596_1, b596_2, loop, b596_3]
end k51
namespace k51
open PySem PySem.Spec PyProof.Rows L2 Nd T Sx
/-! ### the law -/
section
variable {n : Nat} {h : HD}
/-- one step of a comprehension that may change what is known -/
theorem cmp_go {tg : Tg} {own : List Nat} {t : Sv → HD → R Bool} {e : Sv → HD → R XV} {σ σ2 : Sv} {x d : D} {xs ds : List D} {h h2 h3 : HD} (e1 : tgE tg x (wipeE σ own) = some σ2) (e2 : t σ2 h = .ok true h) (e3 : e σ2 h = .ok (.v d) h2) (e4 : cmpE tg own t e σ xs h2 = .ok ds h3) : cmpE tg own t e σ (x :: xs) h = .ok (d :: ds) h3 := by
  show (R.op (tgE tg x (wipeE σ own)) h).bind _ = _
  rw [e1, R.op_some, R.bind_ok, e2]
  show ((if true = true then ((e σ2 h).d.nx.bind fun y h3 => (cmpE tg own t e σ xs h3).bind fun ys h4 => .ok (y :: ys) h4) else cmpE tg own t e σ xs h) : R (List D)) = _
  rw [if_pos rfl, e3]
  show (cmpE tg own t e σ xs h2).bind _ = _
  rw [e4]
  rfl
theorem way_of {x : D} (hx : x ∈ [D.str "taxi", .str "chess"]) : ∃ t, x = .str (wyS t) := by
  rcases List.mem_cons.mp hx with rfl | hx
  · exact ⟨true, rfl⟩
  · rw [List.mem_singleton] at hx; subst hx
    exact ⟨false, rfl⟩
theorem two_0 {a b : D} : atD [a, b] 0 = some a := rfl
theorem two_1 {a b : D} : atD [a, b] 1 = some b := rfl
theorem fr_ways {l : List Th} : frzE (.v (.kls (l.map thD))) = some (.v (.kls (l.map thD))) := rfl
theorem eq_ths {l : List Th} {w : Nat} (T : Tab l w) : eqE (.kls (l.map thD)) (.kls (l.map thD)) = some true := by
  have r := ths_rp T
  unfold rpB at r
  obtain ⟨r1, r2⟩ := Bool.and_eq_true_iff.mp r
  obtain ⟨r3, _⟩ := Bool.and_eq_true_iff.mp r1
  obtain ⟨r4, _⟩ := Bool.and_eq_true_iff.mp r3
  exact eqG_self r4 (Bool.and_eq_true_iff.mp r2).2
theorem itm_tab {l : List Th} : itmE (.v (tabD l)) = some (.nl (l.map thD)) := by
  show some (XV.nl (((l.map fun p => (Sum.inr p.1 : Key)).zip (l.map fun p => ptD p.2)).map fun p => .tup [kD p.1, p.2])) = _
  rw [tab_items]
theorem body_ok {s : Addr} {S0 : DS} {ns : List Int} (g0 : S0.ok) (hn : 140 ≤ n) {lm : List Th} (Tm : Tab lm 1) (qm : ∀ {h : HD}, P.run n 596 [] h = .ok (.nl (lm.map thD)) h) : ∃ h1, (evB (P.cvn n) b839_1 [some (.v (.kls (ns.map .int))), some (.v (.ref s)), none, none, none, none, none] (hS s S0)).re = .ok (.v (.bl true)) h1 := by
  obtain ⟨x1, S1, e1, m1, g1⟩ := pick_ok (P := P) (s := s) (n := n) (xs := [.str "taxi", .str "chess"]) h0 h3 g0 (by simp) (by simp) (by omega)
  obtain ⟨t1, rfl⟩ := way_of m1
  obtain ⟨x2, S2, e2, m2, g2⟩ := pick_ok (P := P) (s := s) (n := n) (xs := [.str "taxi", .str "chess"]) h0 h3 g1 (by simp) (by simp) (by omega)
  obtain ⟨t2, rfl⟩ := way_of m2
  obtain ⟨l1, w1, S3, e3, tg1, wd1, len1, g3⟩ := table_drawn (P := P) (s := s) (n := n) (b := 40) g2 (by omega) (by omega) (by omega)
  obtain ⟨l2, w2, S4, e4, tg2, wd2, len2, g4⟩ := table_drawn (P := P) (s := s) (n := n) (b := 40) g3 (by omega) (by omega) (by omega)
  obtain ⟨r, S5, e5, _, _, g5⟩ := take_ok (P := P) (s := s) (n := n) (m := 16) h3 g4 (by omega) (by omega) (by omega)
  have T1 := tg1.tab wd1 (by omega)
  have T2 := tg2.tab wd2 (by omega)
  have q0 := right_ok (n := n) (h := hS s S5) (t := t1) Tm (by omega)
  have q1 := right_ok (n := n) (h := hS s S5) (t := t1) T1 (by omega)
  have q2 := right_ok (n := n) (h := hS s S5) (t := t2) T2 (by omega)
  have q3 := balled_ok (P := P) (n := n) (h := hS s S5) (t := t1) T1 (by omega)
  have qm := qm (h := hS s S5)
  have pm := mkB_things (t := t1) l1.length l1 (Nat.le_refl _) T1.nd
  have rp := ball_rp (fm_mkB (t := t1) 9 l1.length l1 0 T1.Ok (by have := T1.len; omega) (by omega)).1 (by rw [pm.length_eq]; exact T1.len) (by have := mkB_deep (t := t1) 9 l1.length l1 (by have := T1.len; omega); omega)
  have r2 : rngL 0 2 = [.int 0, .int 1] := rfl
  have fw : ∀ {t : Bool}, frzE (.v (.str (wyS t))) = some (.v (.str (wyS t))) := rfl
  have fl : ∀ {l : List Th}, frzE (.nl (l.map thD)) = some (.v (.kls (l.map thD))) := rfl
  refine ⟨hS s S5, ?_⟩
  simp! [b839_1, r2]
  rw [cmp_go (d := .str (wyS t1)) (h2 := hS s S1) rfl rfl (by simp! [setsE, e1, fw]) (cmp_go (d := .str (wyS t2)) (h2 := hS s S2) rfl rfl (by simp! [setsE, e2, fw]) rfl)]
  simp! [b839_2, r2]
  rw [cmp_go (d := .kls (l1.map thD)) (h2 := hS s S3) rfl rfl (by simp! [setsE, e3, fl]) (cmp_go (d := .kls (l2.map thD)) (h2 := hS s S4) rfl rfl (by simp! [setsE, e4, fl]) rfl)]
  have tail : ∀ {h' : HD}, h' = hS s S5 → (evB (P.cvn n) b839_4 [some (.v (.kls (ns.map .int))), some (.v (.ref s)), some (.v (.kls [.str (wyS t1), .str (wyS t2)])), some (.v (.kls [.kls (l1.map thD), .kls (l2.map thD)])), none, none, none] (hS s S5)).re = .ok (.v (.bl true)) (hS s S5) := by
    rintro _ rfl
    have loop : forE (.nm 6) (evB (P.cvn n) b839_7a_0) [.int 0, .int 1] [some (.v (.kls (ns.map .int))), some (.v (.ref s)), some (.v (.kls [.str (wyS t1), .str (wyS t2)])), some (.v (.kls [.kls (l1.map thD), .kls (l2.map thD)])), some (.v (tabD l1)), some (.v (.str (toP (blD (mkB t1 l1.length l1))).shown)), none] (hS s S5) = .nx [some (.v (.kls (ns.map .int))), some (.v (.ref s)), some (.v (.kls [.str (wyS t1), .str (wyS t2)])), some (.v (.kls [.kls (l1.map thD), .kls (l2.map thD)])), some (.v (tabD l1)), some (.v (.str (toP (blD (mkB t1 l1.length l1))).shown)), some (.v (.int 1))] (hS s S5) := by
      rw [for_step rfl (σ2 := [some (.v (.kls (ns.map .int))), some (.v (.ref s)), some (.v (.kls [.str (wyS t1), .str (wyS t2)])), some (.v (.kls [.kls (l1.map thD), .kls (l2.map thD)])), some (.v (tabD l1)), some (.v (.str (toP (blD (mkB t1 l1.length l1))).shown)), some (.v (.int 0))]) (h2 := hS s S5) (by simp! [b839_7a_0, two_0, two_1, q1, setsE]), for_step rfl (σ2 := [some (.v (.kls (ns.map .int))), some (.v (.ref s)), some (.v (.kls [.str (wyS t1), .str (wyS t2)])), some (.v (.kls [.kls (l1.map thD), .kls (l2.map thD)])), some (.v (tabD l1)), some (.v (.str (toP (blD (mkB t1 l1.length l1))).shown)), some (.v (.int 1))]) (h2 := hS s S5) (by simp! [b839_7a_0, two_0, two_1, q2, setsE])]
      rfl
    simp! [b839_4, two_0, prs_tab, dictT T1.nd, kdc_tab, fr_tab]
    simp! [b839_5, two_0, q3, repr_ok rp]
    simp! [b839_6, two_0, itm_tab, eq_ths T1]
    simp! [b839_7, r2, loop]
    simp! [b839_8, two_0, q3, repr_ok rp, eq_self]
  by_cases z : r = 1
  · subst z
    simp! [b839_3, two_0, e5, qm, fl, q0]
    exact tail rfl
  · simp! [b839_3, two_0, e5, decide_eq_false z]
    exact tail rfl
theorem law_ok (ns : List Int) (hns : ns.length ≤ 63) : P.call 150 839 [.kls (ns.map .int)] (fun _ => none) (fun d _ => d = .bl true) fun _ _ => False := by
  obtain ⟨S0, e0, g0⟩ := begun_ok (P := P) (h := hE) (n := 148) h8 hns
  refine law_start (n := 149) (nn := 5) h839 e0 fun s => ?_
  exact body_ok (n := 149) (s := s) (S0 := S0) (ns := ns) g0 (by omega) many_tab (many_ok (by omega))
end
theorem holds : LW.Holds := law_end 150 ⟨rfl, by decide, by decide⟩ law_ok
end k51
theorem PySem.Challenge.cw_nigh_k51_balled_holds : PySem.Challenge.rw_nigh_k51_balled.Holds :=
  k51.holds
