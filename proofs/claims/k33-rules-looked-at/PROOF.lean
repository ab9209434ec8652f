import PyProof.Rows.All
import Wide.All
import OpenK.AllK
import Wide.FinOn
import HandS.ForMost
import HandS.Exc
import HandS.WordsExc
import HandS.Walk
import HandS.RaiseMore
import HandS.Replace
import HandS.CallSlots
import HandS.Flow
import KE.GoesEnumKw
import HandS.TupAny
import HandS.Lambda
import HandS.Ends
import HandS.IsInst
import HandS.Style
import HandS.Text
import HandS.Steps
import HandS.SetKeys
import KE.GoesEnum
import HandS.FStrTup
import HandS.SortInts
import HandS.More
import HandS.Defaults
import HandS.Zip
import HandS.Iter
import HandS.DictComp
import HandS.Conv
import PyProof.FactsAll.list_3
import HandS.ExcIs
import HandS.ExcValue
import HandS.ExcInit
import KE.KUnpackStar
import HandS.SortOrd
import PyProof.DictMoreH
import HandS.Deep
import KE.KEqDict
import PyProof.ExcBaseAll.LookupError
import PyProof.ExcBaseAll.IndexError
import PyProof.ExcBaseAll.RuntimeError
import KE.KSortTupAny
import KE.KNestM
import HandS.Nested
import KE.DataMinKey
import PySem.Challenge.RW_roadbundle_k33_rules_looked_at
set_option Elab.async false
set_option linter.all false
set_option maxRecDepth 100000
set_option maxHeartbeats 4000000
namespace Mi
open PySem PySem.Spec PyProof.Rows L2

/-! the mini values -/
inductive MV where
  | non | bl (b : Bool) | int (i : Int) | str (s : List Nat)
  | tup (xs : List MV) | lst (xs : List MV) | dct (ks vs : List MV)
  | ref (n : Nat)
  deriving Inhabited
/-- a container's content -/
inductive C where
  | lst (xs : List MV) | dict (kvs : List (MV × MV)) | lock (kvs : List (MV × MV))
  deriving Inhabited
/-- a dict that is being walked: read, not written -/
def isLk : C → Bool
  | .lock _ => true
  | _ => false
@[simp] theorem isLk_lst {xs : List MV} : isLk (.lst xs) = false := rfl
@[simp] theorem isLk_dict {kvs : List (MV × MV)} : isLk (.dict kvs) = false := rfl
@[simp] theorem isLk_lock {kvs : List (MV × MV)} : isLk (.lock kvs) = true := rfl
inductive SV where
  | v (x : MV) | own (c : C)
  deriving Inhabited
inductive RV where
  | v (x : MV) | own (c : C) | loc (i : Nat) | fld (n f : Nat)
  deriving Inhabited
inductive MO where
  | inst (c : Nat) (fs : List (Option SV)) | box (c : C) | exc (c : Nat) | dt (l : Bool) (kvs : List (MV × MV))
  deriving Inhabited
/-- a caught exception, tracked: of the class cls, its dict d -/
def ExK (cls : Value) (d : Option Addr) (a : Addr) : HO := .ext fun h => ∃ (oe : Obj) (vs : Array Value), h.get? a = some oe ∧ Zc cls d oe ∧ oe.data = .fields vs
structure MS where
  env : List (Option SV)
  hp : List MO
  base : Nat
inductive Out (α : Type) where
  | ok (a : α) (s : MS) | exc (c : Nat) (xs : List MV) (s : MS) | bad
namespace Out
def bind {α β : Type} (o : Out α) (k : α → MS → Out β) : Out β := match o with
  | .ok a s => k a s | .exc c xs s => .exc c xs s | .bad => .bad
@[simp] theorem bind_ok {α β : Type} (a : α) (s : MS) (k : α → MS → Out β) : (Out.ok a s).bind k = k a s := rfl
@[simp] theorem bind_exc {α β : Type} (c : Nat) (xs : List MV) (s : MS) (k : α → MS → Out β) : (Out.exc c xs s : Out α).bind k = .exc c xs s := rfl
@[simp] theorem bind_bad {α β : Type} (k : α → MS → Out β) : (Out.bad : Out α).bind k = .bad := rfl
end Out
/-- what a function gives -/
inductive FR where
  | v (x : MV) | own (c : C)
  deriving Inhabited
inductive FOut where
  | ok (r : FR) (hp : List MO) | exc (c : Nat) (xs : List MV) (hp : List MO) | bad
abbrev ME := MS → Out RV
abbrev Fn := List MV → List MO → FOut

/-! roles -/
inductive Role where
  | frz | obj (n : Nat) | fld (n f : Nat) | loc (i : Nat) | tab
  deriving DecidableEq
abbrev Gh := Addr → Option Role
def setG (G : Gh) (a : Addr) (r : Option Role) : Gh := fun b => if b = a then r else G b
theorem setG_same {G : Gh} {a : Addr} {r : Option Role} : setG G a r a = r := if_pos rfl
theorem setG_ne {G : Gh} {a b : Addr} {r : Option Role} (h : b ≠ a) : setG G a r b = G b := if_neg h

structure RC where
  K : PySem.W.Frag
  cls : Nat → Addr
  flds : Nat → List Str
  exA : Nat → Addr
  exF : Nat → List Str
  tabs : List (Addr × Str)

/-! relations of values -/
def KtT (K : PySem.W.Frag) (a : Addr) (xs : List V) : Prop :=
  ∃ (o : Obj) (its : Array Value) (n : Nat), K.lookup a = some o ∧ o.cls = .type "tuple" ∧ o.data = .seq its n ∧ its.size ≤ sizeLine ∧ Vals xs its.toList
def KtL (K : PySem.W.Frag) (a : Addr) (xs : List V) : Prop :=
  ∃ (o : Obj) (its : Array Value) (n : Nat), K.lookup a = some o ∧ o.cls = .type "list" ∧ o.dict = none ∧ o.data = .seq its n ∧ its.size ≤ sizeLine ∧ Vals xs its.toList
def FzL (K : PySem.W.Frag) (G : Gh) (H : Hp) (a : Addr) (xs : List V) : Prop := (G a = some .frz ∧ Rd H a (.lst xs)) ∨ KtL K a xs
def FzT (K : PySem.W.Frag) (G : Gh) (H : Hp) (a : Addr) (xs : List V) : Prop := H a = some (.tup xs)
def keyMV : Key → MV
  | .inl i => .int i
  | .inr x => .str x.cps.toList
def DRx (ks : List MV) (P : List V → Prop) (ho : HO) : Prop :=
  ∃ dk, ho = .dK dk ∧ ks = dk.map (fun q => keyMV q.1) ∧ P (dk.map (·.2))
/-- a dict whose keys are tuples -/
def DTx (ks : List MV) (P : List V → Prop) (ho : HO) : Prop :=
  ∃ dk : List (List Key × V), ho = .dT dk ∧ ks = dk.map (fun q => MV.tup (q.1.map keyMV)) ∧ P (dk.map (·.2))
mutual
def VR (K : PySem.W.Frag) (G : Gh) (H : Hp) : MV → V → Prop
  | .non, v => v = .non
  | .bl b, v => v = .bl b
  | .int i, v => v = .int i
  | .str s, v => v = .str ⟨s.toArray⟩
  | .tup xs, v => ∃ a vs, v = .ref a ∧ FzT K G H a vs ∧ VRs K G H xs vs
  | .lst xs, v => ∃ a vs, v = .ref a ∧ FzL K G H a vs ∧ VRs K G H xs vs
  | .dct ks vs, v => ∃ a ho, v = .ref a ∧ G a = some .frz ∧ H a = some ho ∧ DRx ks (VRs K G H vs) ho
  | .ref n, v => ∃ a, v = .ref a ∧ G a = some (.obj n)
def VRs (K : PySem.W.Frag) (G : Gh) (H : Hp) : List MV → List V → Prop
  | [], vs => vs = []
  | x :: xs, vs => ∃ v r, vs = v :: r ∧ VR K G H x v ∧ VRs K G H xs r
end
def CR (K : PySem.W.Frag) (G : Gh) (H : Hp) : C → Addr → Prop
  | .lst xs, a => ∃ vs, H a = some (.lst vs) ∧ VRs K G H xs vs
  | .dict kvs, a => ∃ ho, H a = some ho ∧ DRx (kvs.map (·.1)) (VRs K G H (kvs.map (·.2))) ho
  | .lock kvs, a => ∃ od ho, H a = some (.frz od ho) ∧ DRx (kvs.map (·.1)) (VRs K G H (kvs.map (·.2))) ho

/-- what never changes: what is locked, tuples -/
def Fixd (o : HO) : Prop := (∃ x u, o = .frz x u) ∨ ∃ xs, o = .tup xs
abbrev NT (H : Hp) (a : Addr) : Prop := ∀ xs, H a ≠ some (.tup xs)
theorem ntN {H : Hp} {a : Addr} (h : H a = none) : NT H a := fun xs z => by rw [h] at z; cases z
theorem ntO {H : Hp} {a : Addr} {o : HO} (h : H a = some o) (k : ∀ xs, o ≠ .tup xs := by intro xs z; cases z) : NT H a := fun xs z => by rw [h] at z; exact k xs (Option.some.inj z)
def DTR (K : PySem.W.Frag) (G : Gh) (H : Hp) (kvs : List (MV × MV)) (a : Addr) : Bool → Prop
  | false => ∃ ho, H a = some ho ∧ DTx (kvs.map (·.1)) (VRs K G H (kvs.map (·.2))) ho
  | true => ∃ od ho, H a = some (.frz od ho) ∧ DTx (kvs.map (·.1)) (VRs K G H (kvs.map (·.2))) ho
structure Evo (P : Nat → Prop) (G : Gh) (H : Hp) (G' : Gh) (H' : Hp) : Prop where
  un : ∀ a o, H a = some o → G a = none → H' a = some o ∧ G' a = none
  fz : ∀ a, G a = some .frz → G' a = some .frz ∧ H' a = H a
  ob : ∀ a n, G a = some (.obj n) → G' a = some (.obj n)
  fl : ∀ a n f, P n → G a = some (.fld n f) → G' a = some (.fld n f)
  tk : ∀ a o, H a = some o → ∃ o', H' a = some o' ∧ (Fixd o → o' = o)
abbrev EvT : Nat → Prop := fun _ => True
theorem Evo.refl {P : Nat → Prop} {G : Gh} {H : Hp} : Evo P G H G H := ⟨fun _ _ h g => ⟨h, g⟩, fun _ g => ⟨g, rfl⟩, fun _ _ g => g, fun _ _ _ _ g => g, fun _ _ h => ⟨_, h, fun _ => rfl⟩⟩
theorem Evo.trans {P : Nat → Prop} {G G1 G2 : Gh} {H H1 H2 : Hp} (a : Evo P G H G1 H1) (b : Evo P G1 H1 G2 H2) : Evo P G H G2 H2 :=
  ⟨fun c o h g => let ⟨h1, g1⟩ := a.un c o h g; b.un c o h1 g1, fun c g => let ⟨g1, h1⟩ := a.fz c g; let ⟨g2, h2⟩ := b.fz c g1; ⟨g2, h2.trans h1⟩, fun c n g => b.ob c n (a.ob c n g),
   fun c n f p g => b.fl c n f p (a.fl c n f p g), fun c o h => let ⟨o1, h1, k1⟩ := a.tk c o h; let ⟨o2, h2, k2⟩ := b.tk c o1 h1; ⟨o2, h2, fun e => (k2 ((k1 e).symm ▸ e)).trans (k1 e)⟩⟩
theorem Evo.weak {P P' : Nat → Prop} {G G' : Gh} {H H' : Hp} (a : Evo P G H G' H') (h : ∀ n, P' n → P n) : Evo P' G H G' H' := ⟨a.un, a.fz, a.ob, fun c n f p g => a.fl c n f (h n p) g, a.tk⟩

/-- what values lean on -/
structure Mo (G : Gh) (H : Hp) (G' : Gh) (H' : Hp) : Prop where
  fz : ∀ a, G a = some .frz → G' a = some .frz ∧ H' a = H a
  ob : ∀ a n, G a = some (.obj n) → G' a = some (.obj n)
  tp : ∀ a xs, H a = some (.tup xs) → H' a = some (.tup xs)
theorem Evo.mo {P : Nat → Prop} {G G' : Gh} {H H' : Hp} (e : Evo P G H G' H') : Mo G H G' H' := ⟨e.fz, e.ob, fun a xs h => by obtain ⟨o', h1, k⟩ := e.tk a _ h; rw [k (.inr ⟨xs, rfl⟩)] at h1; exact h1⟩
theorem FzL.mono {K : PySem.W.Frag} {G G' : Gh} {H H' : Hp} {a : Addr} {xs : List V} (e : Mo G H G' H') (h : FzL K G H a xs) : FzL K G' H' a xs := by
  rcases h with ⟨g, r⟩ | k
  · obtain ⟨g1, h1⟩ := e.fz a g
    refine .inl ⟨g1, ?_⟩
    unfold Rd at *; rw [h1]; exact r
  · exact .inr k
theorem FzT.mono {K : PySem.W.Frag} {G G' : Gh} {H H' : Hp} {a : Addr} {xs : List V} (e : Mo G H G' H') (h : FzT K G H a xs) : FzT K G' H' a xs := e.tp a xs h
theorem DRx.mono {ks : List MV} {P P' : List V → Prop} {ho : HO} (h : DRx ks P ho) (m : ∀ l, P l → P' l) : DRx ks P' ho := by
  obtain ⟨dk, e, k, p⟩ := h
  exact ⟨dk, e, k, m _ p⟩
theorem DTx.mono {ks : List MV} {P P' : List V → Prop} {ho : HO} (h : DTx ks P ho) (m : ∀ l, P l → P' l) : DTx ks P' ho := by
  obtain ⟨dk, e, k, p⟩ := h
  exact ⟨dk, e, k, m _ p⟩
mutual
theorem VR.mono {K : PySem.W.Frag} {G G' : Gh} {H H' : Hp} (e : Mo G H G' H') : ∀ (x : MV) (v : V), VR K G H x v → VR K G' H' x v
  | .non, _, h => by unfold VR at *; exact h
  | .bl _, _, h => by unfold VR at *; exact h
  | .int _, _, h => by unfold VR at *; exact h
  | .str _, _, h => by unfold VR at *; exact h
  | .tup xs, _, h => by
    unfold VR at *
    obtain ⟨a, vs, r, f, q⟩ := h
    exact ⟨a, vs, r, f.mono e, VRs.mono e xs vs q⟩
  | .lst xs, _, h => by
    unfold VR at *
    obtain ⟨a, vs, r, f, q⟩ := h
    exact ⟨a, vs, r, f.mono e, VRs.mono e xs vs q⟩
  | .dct ks vs, _, h => by
    unfold VR at *
    obtain ⟨a, ho, r, g, rd, q⟩ := h
    obtain ⟨g1, h1⟩ := e.fz a g
    exact ⟨a, ho, r, g1, h1.trans rd, q.mono fun l => VRs.mono e vs l⟩
  | .ref n, _, h => by
    unfold VR at *
    obtain ⟨a, r, g⟩ := h
    exact ⟨a, r, e.ob a n g⟩
theorem VRs.mono {K : PySem.W.Frag} {G G' : Gh} {H H' : Hp} (e : Mo G H G' H') : ∀ (xs : List MV) (vs : List V), VRs K G H xs vs → VRs K G' H' xs vs
  | [], _, h => by unfold VRs at *; exact h
  | x :: xs, _, h => by
    unfold VRs at *
    obtain ⟨v, r, q, p, t⟩ := h
    exact ⟨v, r, q, VR.mono e x v p, VRs.mono e xs r t⟩
end
theorem DTR.mono {K : PySem.W.Frag} {G G' : Gh} {H H' : Hp} {kvs : List (MV × MV)} {a : Addr} (e : Mo G H G' H') (ha : H' a = H a) : ∀ {l : Bool}, DTR K G H kvs a l → DTR K G' H' kvs a l
  | false, ⟨ho, q, r⟩ => ⟨ho, ha.trans q, r.mono fun l => VRs.mono e _ l⟩
  | true, ⟨od, ho, q, r⟩ => ⟨od, ho, ha.trans q, r.mono fun l => VRs.mono e _ l⟩
theorem DTR.nt {K : PySem.W.Frag} {G : Gh} {H : Hp} {kvs : List (MV × MV)} {a : Addr} : ∀ {l : Bool}, DTR K G H kvs a l → NT H a
  | false, ⟨ho, h1, dk, e, _⟩ => ntO h1 (by intro xs z; rw [e] at z; cases z)
  | true, ⟨_, _, h1, _⟩ => ntO h1
end Mi
set_option Elab.async false
set_option linter.all false
set_option maxRecDepth 100000
set_option maxHeartbeats 4000000
namespace Mi
open PySem PySem.Spec PyProof.Rows L2
/-! rooms in which no repr is under way; a def's promise in such a room -/
structure Room (k : Nat) (A : Around) : Prop where
  old : L2.Room k A
  gd : A.guards = some []
variable {k j : Nat} {A : Around}
theorem Room.hd (r : Room k A) : A.handled = none := r.old.hd
theorem Room.un (r : Room k A) : A.units + 16 * k + 200 < cLine := r.old.un
theorem Room.depth (r : Room k A) : A.depth < recursionLimit := r.old.depth
theorem Room.mono (r : Room j A) (h : k ≤ j) : Room k A := ⟨r.old.mono h, r.gd⟩
theorem Room.deeper (r : Room (k + 1) A) (env : Env) : Room k (A.deeper env) := ⟨r.old.deeper env, r.gd⟩
theorem Room.make (r : Room (k + 1) A) (C : Addr) (us : List Value) (kw : List (Str × Value)) : Room k (A.under (.builtin "type.__call__" ⟨.ref C :: us, kw⟩)) :=
  ⟨r.old.make C us kw, by
    have := r.gd
    first | exact this | (simp [Around.under, Code.guards, Code.isGuard, guardIds, pushGuards, this])⟩
structure FnOk (P : Program) (w : World) (K : PySem.W.Frag) (mg : Str → Option Value) (base : Heap) (CX : CXT) (k : Nat) (f : Addr) (fd : FuncData) (ps : List Str) (sp : Sp) : Prop where
  len : ∀ vs H Q E, sp vs H Q E → vs.length = ps.length
  run : ∀ (A : Around) (outer : List Env) (s : Shared) (H : Hp) (args : Args) (us : List Value) (vs : List V) (Q : VK) (E : XK), Room k A → Env0 P w K mg base A outer s H →
    BindsTo s fd args (ps.zip us) → Vals vs us → sp vs H Q E → codeAny (model P w) A (.call (.ref f) args) (L2.CR CX outer P w H s Q E) s
section
variable {P : Program} {w : World} {K : PySem.W.Frag} {mg : Str → Option Value} {base : Heap} {CX : CXT} {f : Addr} {fd : FuncData} {ps : List Str} {sp : Sp}
theorem FnOk.mono (F : FnOk P w K mg base CX j f fd ps sp) (h : j ≤ k) : FnOk P w K mg base CX k f fd ps sp where
  len := F.len
  run := fun A outer s H args us vs Q E r => F.run A outer s H args us vs Q E (r.mono h)
theorem FnOk.imp {sp' : Sp} (F : FnOk P w K mg base CX k f fd ps sp) (h : ∀ vs H Q E, sp' vs H Q E → sp vs H Q E) : FnOk P w K mg base CX k f fd ps sp' where
  len := fun vs H Q E q => F.len vs H Q E (h vs H Q E q)
  run := fun A outer s H args us vs Q E r e b v q => F.run A outer s H args us vs Q E r e b v (h vs H Q E q)
end
section
variable {X : Cx} {CX : CXT} {f : Addr} {fd : FuncData} {ps : List Str} {sp : Sp} {E : L2.St → XK} {σ : L2.St} {pins : List (Addr × Obj)} {H : Hp} {s : Shared} {Q : VK} {us : List Value} {vs : List V}
/-- a call with arguments that are bound so -/
theorem run_args {args : Args} (F : FnOk X.prog X.w X.K X.mg X.base CX k f fd ps sp) (hr : Room k X.A) (hb : BindsTo s fd args (ps.zip us)) (hx : PassesAt CX X σ (E σ)) (I : Inv X pins σ H s) (r : Vals vs us) (h : sp vs H Q (E σ)) :
    wpAny (model X.prog X.w) X.A (call (.ref f) args.pos args.kw) (EP X pins σ Q) X.xe s :=
  wpAny_call (codeAny_mono (F.run _ _ _ _ args us vs Q (E σ) hr I.env0 hb r h) fun res s' q => by
    match res, q with
    | .error e, q => exact hx pins H s e s' I q
    | .ok (.ret u), q => exact I.after q
    | .ok .next, q => exact q.elim
    | .ok .brk, q => exact q.elim
    | .ok .cont, q => exact q.elim)
theorem run_all (F : FnOk X.prog X.w X.K X.mg X.base CX k f fd ps sp) (hr : Room k X.A) (hb : Binds X.K fd ps []) (hx : PassesAt CX X σ (E σ)) (I : Inv X pins σ H s) (r : Vals vs us) (h : sp vs H Q (E σ)) :
    wpAny (model X.prog X.w) X.A (call (.ref f) us) (EP X pins σ Q) X.xe s := by
  have hl : (us ++ ([] : List Value)).length = ps.length := by rw [List.append_nil, ← r.length]; exact F.len vs H Q (E σ) h
  have b := hb s us I.kIn hl
  rw [List.append_nil] at b
  exact run_args (args := ⟨us, []⟩) F hr b hx I r h
end
section
variable {P : Program} {w : World} {K : PySem.W.Frag} {mg : Str → Option Value} {base : Heap}
/-- a def of the text, from its body -/
theorem fn_body {CX : CXT} {x qual : Str} {st : Stmt} {f : Addr} {fd : FuncData} {N ps : List Str} {sp : Sp} (Fu : Fun K x qual st f fd) (S : FnScope N ps (defScope st)) (len : ∀ vs H Q E, sp vs H Q E → vs.length = ps.length)
    (hb : ∀ (cdv : Value) (A : Around) (outer : List Env) (s : Shared) (H : Hp) (vs : List V) (Q : VK) (E : XK), Room k (A.deeper (envOfC qual (defScope st) s.heap.objs.size f cdv)) → sp vs H Q E →
      ∃ t, PSs (cxOf CX P w K mg base N qual (defScope st) f cdv A outer s H E) (defBody st) t ∧ t { nx := fun _ H' => Q .non H', rt := Q } (L2.start N vs) H) : FnOk P w K mg base CX (k + 1) f fd ps sp where
  len := len
  run := fun A outer s H args us vs Q E room e0 hbind rel hsp => by
    obtain ⟨oc, od, kV, doc, pm, an, cdv, ct, osl, rfl, lk, hcode⟩ := Fu.ex
    have old : ∀ {a : Addr} {o : Obj}, base.get? a = some o → s.heap.get? a = some o := fun z => (e0.bs _ _ z).1
    have KI : K.In s.heap := e0.mod.kin.keeps fun _ _ z => old z
    have kinds : ∀ y ∈ ps.zip us, (defScope st).names.lookup y.1 = some .local ∨ ((defScope st).names.lookup y.1 = some .cell ∧ ((cellsFrom (s.heap.objs.size + 1) (defScope st).names []).lookup y.1).isSome = true) := by
      rintro ⟨nm, v⟩ hy
      exact (S.par nm (List.of_mem_zip hy).1).imp id fun z => ⟨z, PySem.W.cellsFrom_some _ _ _ (.inl z)⟩
    refine codeAny_call_function room.depth (KI _ _ lk) rfl S.co S.gen rfl (PySem.W.codeRec_of KI hcode) (hbind _ _ _ _ (wpAny_newFunctionEnv_cells S.kind kinds ?_))
    rintro env rfl t x
    refine ⟨(e0.mod.nolimit.keeps fun _ _ z => old z).keeps x.toInCall.keep, codeAny_func ?_⟩
    obtain ⟨tt, run, wish⟩ := hb cdv A outer s H vs Q E (room.deeper _) hsp
    have start := inv_start (CX := CX) (cd := cdv) (E := E) S room.hd e0 (len vs H Q E hsp) rel x
    refine wpAny_mono (run.run [] t _ H _ start wish) (fun fl t' h => ?_) fun _ _ h => h
    have done : ∀ {σ' : L2.St} {H' : Hp} {v : V} {u : Value}, Inv (cxOf CX P w K mg base N qual (defScope st) f cdv A outer s H E) [] σ' H' t' → RelV v u → Q v H' → L2.CE outer P w H s Q u t' := fun J rv q => ⟨_, _, J.os, J.bare, J.base, J.hok, rv, q⟩
    match fl, h with
    | .ret u, ⟨v, σ', H', J, rv, q⟩ => exact done J rv q
    | .next, ⟨σ', H', J, q⟩ => exact done (v := .non) (u := .none) J rfl q
    | .brk, ⟨_, _, _, q⟩ => exact q.elim
    | .cont, ⟨_, _, _, q⟩ => exact q.elim
end
end Mi
set_option Elab.async false
set_option linter.all false
set_option maxRecDepth 100000
set_option maxHeartbeats 4000000
namespace Mi
open PySem PySem.Spec PyProof.Rows L2

/-! facts of VRs -/
section
variable {K : PySem.W.Frag} {G : Gh} {H : Hp}
theorem VRs.length : ∀ {xs : List MV} {vs : List V}, VRs K G H xs vs → xs.length = vs.length
  | [], _, h => by unfold VRs at h; subst h; rfl
  | x :: xs, _, h => by
    unfold VRs at h
    obtain ⟨v, r, rfl, _, t⟩ := h
    simp [VRs.length t]
theorem VRs.nil : VRs K G H [] [] := by unfold VRs; rfl
theorem VRs.cons {x : MV} {v : V} {xs : List MV} {vs : List V} (h : VR K G H x v) (t : VRs K G H xs vs) : VRs K G H (x :: xs) (v :: vs) := by
  unfold VRs; exact ⟨v, vs, rfl, h, t⟩
theorem VRs.inv {x : MV} {xs : List MV} {vs : List V} (h : VRs K G H (x :: xs) vs) : ∃ v r, vs = v :: r ∧ VR K G H x v ∧ VRs K G H xs r := by
  unfold VRs at h; exact h
theorem VRs.append : ∀ {xs ys : List MV} {vs ws : List V}, VRs K G H xs vs → VRs K G H ys ws → VRs K G H (xs ++ ys) (vs ++ ws)
  | [], _, _, _, h, t => by unfold VRs at h; subst h; exact t
  | x :: xs, _, _, _, h, t => by
    obtain ⟨v, r, rfl, p, q⟩ := h.inv
    exact .cons p (VRs.append q t)
theorem VRs.get : ∀ {xs : List MV} {vs : List V} {i : Nat} {x : MV}, VRs K G H xs vs → xs[i]? = some x → ∃ v, vs[i]? = some v ∧ VR K G H x v
  | [], _, _, _, _, e => by simp at e
  | x :: xs, _, 0, _, h, e => by
    obtain ⟨v, r, rfl, p, q⟩ := h.inv
    simp at e; subst e; exact ⟨v, rfl, p⟩
  | x :: xs, _, i + 1, y, h, e => by
    obtain ⟨v, r, rfl, p, q⟩ := h.inv
    obtain ⟨u, a, b⟩ := VRs.get (i := i) (x := y) q (by simpa using e)
    exact ⟨u, by simpa using a, b⟩
theorem VRs.get' : ∀ {xs : List MV} {vs : List V} {i : Nat} {v : V}, VRs K G H xs vs → vs[i]? = some v → ∃ x, xs[i]? = some x ∧ VR K G H x v := by
  intro xs vs i v h e
  have hl := h.length
  have hi : i < vs.length := (List.getElem?_eq_some_iff.mp e).1
  have hx : xs[i]? = some xs[i] := List.getElem?_eq_getElem (by omega)
  obtain ⟨u, a, b⟩ := h.get hx
  rw [e] at a; cases a
  exact ⟨_, hx, b⟩
theorem VRs.take : ∀ {xs : List MV} {vs : List V} (n : Nat), VRs K G H xs vs → VRs K G H (xs.take n) (vs.take n)
  | _, _, 0, _ => by simp [VRs.nil]
  | [], _, _ + 1, h => by unfold VRs at h; subst h; simp [VRs.nil]
  | x :: xs, _, n + 1, h => by
    obtain ⟨v, r, rfl, p, q⟩ := h.inv
    simpa using VRs.cons p (VRs.take n q)
theorem VRs.drop : ∀ {xs : List MV} {vs : List V} (n : Nat), VRs K G H xs vs → VRs K G H (xs.drop n) (vs.drop n)
  | _, _, 0, h => by simpa using h
  | [], _, _ + 1, h => by unfold VRs at h; subst h; simp [VRs.nil]
  | x :: xs, _, n + 1, h => by
    obtain ⟨v, r, rfl, p, q⟩ := h.inv
    simpa using VRs.drop n q
theorem VRs.set {y : MV} {w : V} (hy : VR K G H y w) : ∀ {xs : List MV} {vs : List V} (i : Nat), VRs K G H xs vs → VRs K G H (xs.set i y) (vs.set i w)
  | [], _, _, h => by unfold VRs at h; subst h; simp [VRs.nil]
  | x :: xs, _, 0, h => by
    obtain ⟨v, r, rfl, p, q⟩ := h.inv
    simpa using VRs.cons hy q
  | x :: xs, _, n + 1, h => by
    obtain ⟨v, r, rfl, p, q⟩ := h.inv
    simpa using VRs.cons p (VRs.set hy n q)
theorem VRs.reverse : ∀ {xs : List MV} {vs : List V}, VRs K G H xs vs → VRs K G H xs.reverse vs.reverse
  | [], _, h => by unfold VRs at h; subst h; simp [VRs.nil]
  | x :: xs, _, h => by
    obtain ⟨v, r, rfl, p, q⟩ := h.inv
    simpa using (VRs.reverse q).append (.cons p .nil)
theorem CR.mono {G' : Gh} {H' : Hp} {a : Addr} (e : Mo G H G' H') (h : H' a = H a) : ∀ {c : C}, CR K G H c a → CR K G' H' c a
  | .lst xs, ⟨vs, q, r⟩ => ⟨vs, h.trans q, VRs.mono e _ _ r⟩
  | .dict kvs, ⟨ho, q, r⟩ => ⟨ho, h.trans q, r.mono fun l => VRs.mono e _ l⟩
  | .lock kvs, ⟨od, ho, q, r⟩ => ⟨od, ho, h.trans q, r.mono fun l => VRs.mono e _ l⟩
end

/-! the heap -/
def FSlot (R : RC) (G : Gh) (H : Hp) (n f : Nat) : Option SV → Option V → Prop
  | none, o => o = none
  | some (.v x), o => ∃ v, o = some v ∧ VR R.K G H x v
  | some (.own c), o => ∃ b, o = some (.ref b) ∧ G b = some (.fld n f) ∧ CR R.K G H c b
def InsF (R : RC) (G : Gh) (H : Hp) (n c : Nat) (fs : List (Option SV)) (hfs : List (Str × V)) : Prop :=
  fs.length = (R.flds c).length ∧ (∀ f nm, (R.flds c)[f]? = some nm → FSlot R G H n f (fs[f]?.join) (hfs.lookup nm)) ∧ (∀ nm, nm ∉ R.flds c → hfs.lookup nm = none)
  ∧ hfs.length ≤ (R.flds c).length ∧ (hfs.map (·.1)).Nodup ∧ ∀ k ∈ hfs.map (·.1), k ∈ R.flds c
def ORel (R : RC) (G : Gh) (H : Hp) (a : Addr) (n : Nat) : MO → Prop
  | .inst c fs => ∃ dx hfs, H a = some (.ins (R.cls c) dx hfs) ∧ InsF R G H n c fs hfs
  | .box c => CR R.K G H c a
  | .exc c => H a = some (ExK (.ref (R.exA c)) none a)
  | .dt l kvs => DTR R.K G H kvs a l
/-- a table of code objects, all of one name -/
def TabR (G : Gh) (H : Hp) (P : Addr) (nm : Str) : Prop := G P = some .tab ∧ ∃ ps : Array Value, H P = some (.tbl ps) ∧ TriplesOk ps.toList ∧ ∀ (pos : Pos) (cv : Value), codeAmong pos ps.toList = some cv → ∃ c, cv = .ref c ∧ G c = some .frz ∧ H c = some (LamX.CodeO c nm)
theorem TabR.mono {G G' : Gh} {H H' : Hp} {P : Addr} {nm : Str} (m : Mo G H G' H') (h : TabR G H P nm) (t : G' P = some .tab ∧ H' P = H P) : TabR G' H' P nm := by
  obtain ⟨_, ps, e, k, c⟩ := h
  refine ⟨t.1, ps, t.2.trans e, k, fun pos cv q => ?_⟩
  obtain ⟨a, e1, g, e2⟩ := c pos cv q
  exact ⟨a, e1, (m.fz a g).1, (m.fz a g).2.trans e2⟩
structure TabsR (T : List (Addr × Str)) (G : Gh) (H : Hp) : Prop where
  at_ : ∀ q ∈ T, TabR G H q.1 q.2
  of : ∀ a, G a = some .tab → ∃ q ∈ T, q.1 = a
theorem TabsR.mono {T : List (Addr × Str)} {G G' : Gh} {H H' : Hp} (m : Mo G H G' H') (h : TabsR T G H) (t : ∀ a, G a = some .tab → G' a = some .tab ∧ H' a = H a) (t2 : ∀ a, G' a = some .tab → G a = some .tab) : TabsR T G' H' :=
  ⟨fun q hq => (h.at_ q hq).mono m (t _ (h.at_ q hq).1), fun a g => h.of a (t2 a g)⟩
structure HRel (R : RC) (G : Gh) (hp : List MO) (H : Hp) : Prop where
  objs : ∀ n o, hp[n]? = some o → ∃ a, G a = some (.obj n) ∧ ORel R G H a n o
  uniq : ∀ a b n, G a = some (.obj n) → G b = some (.obj n) → a = b
  lt : ∀ a n, G a = some (.obj n) → n < hp.length
  fldOk : ∀ b n f, G b = some (.fld n f) → ∃ a c fs dx hfs nm, G a = some (.obj n) ∧ hp[n]? = some (.inst c fs) ∧ H a = some (.ins (R.cls c) dx hfs) ∧ (R.flds c)[f]? = some nm ∧ hfs.lookup nm = some (.ref b) ∧ ∃ C, fs[f]? = some (some (.own C))
  live : ∀ a r, G a = some r → ∃ o, H a = some o
  tabs : TabsR R.tabs G H

/-- the frame's constants -/
structure FI where
  G0 : Gh
  H0 : Hp
  base : Nat
def LSlot (R : RC) (G : Gh) (H : Hp) (i : Nat) : SV → V → Prop
  | .v x, v => VR R.K G H x v
  | .own c, v => ∃ a, v = .ref a ∧ G a = some (.loc i) ∧ CR R.K G H c a
structure Rel (R : RC) (F : FI) (G : Gh) (s : MS) (σ : L2.St) (H : Hp) : Prop where
  hp : HRel R G s.hp H
  len : s.env.length = σ.length
  env : ∀ i sv, s.env[i]? = some (some sv) → ∃ v, σ[i]? = some (some v) ∧ LSlot R G H i sv v
  since : Evo (· < F.base) F.G0 F.H0 G H
  base : s.base = F.base
  le : F.base ≤ s.hp.length
  ent : ∀ a r, F.G0 a = some r → r = .frz ∨ (∃ n, r = .obj n) ∨ (∃ n f, n < F.base ∧ r = .fld n f) ∨ ∃ q ∈ R.tabs, q.1 = a
/-- a result's value -/
def RR (R : RC) (σ : L2.St) (Hs : Hp) (G : Gh) (H : Hp) : RV → V → Prop
  | .v x, v => VR R.K G H x v
  | .own c, v => ∃ a, v = .ref a ∧ Hs a = none ∧ G a = none ∧ CR R.K G H c a
  | .loc i, v => σ[i]? = some (some v)
  | .fld n f, v => ∃ b, v = .ref b ∧ G b = some (.fld n f)
/-- an exception's objects -/
def ExR (R : RC) (G : Gh) (H : Hp) (c : Nat) (xs : List MV) (cls : Value) (d : Option Addr) : Prop :=
  cls = .ref (R.exA c) ∧ xs.length = (R.exF c).length ∧ (xs = [] → d = none) ∧ (xs ≠ [] → ∃ dd fs, d = some dd ∧ H dd = some (.xd fs) ∧ G dd = some .frz ∧
    ∀ (i : Nat) nm x, (R.exF c)[i]? = some nm → xs[i]? = some x → ∃ v, fs.lookup nm = some v ∧ VR R.K G H x v)

theorem CR.nt {K : PySem.W.Frag} {G : Gh} {H : Hp} {a : Addr} : ∀ {c : C}, CR K G H c a → NT H a
  | .lst xs, ⟨vs, h1, _⟩ => ntO h1
  | .dict kvs, ⟨ho, h1, dk, e, _⟩ => ntO h1 (by intro xs z; rw [e] at z; cases z)
  | .lock kvs, ⟨_, _, h1, _⟩ => ntO h1
theorem CR.there {K : PySem.W.Frag} {G : Gh} {H : Hp} {a : Addr} : ∀ {c : C}, CR K G H c a → ∃ o, H a = some o
  | .lst xs, ⟨vs, h1, _⟩ => ⟨_, h1⟩
  | .dict kvs, ⟨vs, h1, _⟩ => ⟨_, h1⟩
  | .lock kvs, ⟨_, _, h1, _⟩ => ⟨_, h1⟩
/-- what is not locked is not frozen in the model's heap -/
theorem CR.nf {K : PySem.W.Frag} {G : Gh} {H : Hp} {a : Addr} : ∀ {c : C}, isLk c = false → CR K G H c a → ∀ x u, H a ≠ some (.frz x u)
  | .lst xs, _, ⟨vs, h1, _⟩ => fun x u z => by rw [h1] at z; cases z
  | .dict kvs, _, ⟨ho, h1, dk, e, _⟩ => fun x u z => by rw [h1, e] at z; cases z
  | .lock kvs, h, _ => by cases h
theorem RR.mono {R : RC} {σ : L2.St} {Hs : Hp} {G G' : Gh} {H H' : Hp} {v : V} (e : Evo EvT G H G' H') : ∀ {r : RV}, RR R σ Hs G H r v → RR R σ Hs G' H' r v
  | .v x, h => VR.mono e.mo x v h
  | .own c, ⟨a, q, n, g, h⟩ => by
    obtain ⟨o, ho⟩ := h.there
    obtain ⟨h1, g1⟩ := e.un a o ho g
    exact ⟨a, q, n, g1, h.mono e.mo (h1.trans ho.symm)⟩
  | .loc i, h => h
  | .fld n f, ⟨b, q, g⟩ => ⟨b, q, e.fl b n f trivial g⟩
/-- fresh of the later, fresh of the earlier -/
theorem fresh_back {P : Nat → Prop} {G G' : Gh} {H H' : Hp} {a : Addr} (e : Evo P G H G' H') (h : H' a = none) : H a = none := by
  cases q : H a with
  | none => rfl
  | some o => obtain ⟨o', h', _⟩ := e.tk a o q; rw [h] at h'; cases h'
theorem RR.back {R : RC} {σ : L2.St} {H H1 : Hp} {G G1 : Gh} {G' : Gh} {H' : Hp} {v : V} {P : Nat → Prop} (e : Evo P G H G1 H1) : ∀ {r : RV}, RR R σ H1 G' H' r v → RR R σ H G' H' r v
  | .v x, h => h
  | .own c, ⟨a, q, n, g, h⟩ => ⟨a, q, fresh_back e n, g, h⟩
  | .loc i, h => h
  | .fld n f, h => h
/-! steps of the heap -/
theorem Evo.setr {P : Nat → Prop} {G G1 : Gh} {H H1 : Hp} {a : Addr} {r : Option Role} (e : Evo P G H G1 H1) (h : H a = none) (g : G1 a = none) : Evo P G H (setG G1 a r) H1 := by
  have ne : ∀ b, G1 b ≠ none → b ≠ a := fun b hb z => hb (z ▸ g)
  refine ⟨fun b o hb gb => ?_, fun b gb => ?_, fun b n gb => ?_, fun b n f p gb => ?_, e.tk⟩
  · obtain ⟨h1, g1⟩ := e.un b o hb gb
    have : b ≠ a := fun z => by rw [z, h] at hb; cases hb
    exact ⟨h1, by rw [setG_ne this]; exact g1⟩
  · obtain ⟨g1, h1⟩ := e.fz b gb
    exact ⟨by rw [setG_ne (ne b (by rw [g1]; simp))]; exact g1, h1⟩
  · have g1 := e.ob b n gb
    rw [setG_ne (ne b (by rw [g1]; simp))]; exact g1
  · have g1 := e.fl b n f p gb
    rw [setG_ne (ne b (by rw [g1]; simp))]; exact g1
theorem Mo.setr {G : Gh} {H : Hp} {a : Addr} {r : Option Role} (g : G a = none) : Mo G H (setG G a r) H := by
  have ne : ∀ b, G b ≠ none → b ≠ a := fun b hb z => hb (z ▸ g)
  exact ⟨fun b gb => ⟨by rw [setG_ne (ne b (by rw [gb]; simp))]; exact gb, rfl⟩, fun b n gb => by rw [setG_ne (ne b (by rw [gb]; simp))]; exact gb, fun _ _ h => h⟩
/-- a write of the heap's map at a place that is not frozen -/
theorem Mo.upd {G : Gh} {H : Hp} {a : Addr} {o : HO} (g : G a ≠ some .frz) (nt : NT H a := by first | exact ntN (by assumption) | exact ntO (by assumption)) : Mo G H G (upd H a o) :=
  ⟨fun b gb => ⟨gb, upd_ne fun z => g (by rw [← z]; exact gb)⟩, fun _ _ gb => gb, fun b xs hb => (upd_ne fun z => nt xs (by rw [← z]; exact hb)).trans hb⟩
theorem Evo.updRole {P : Nat → Prop} {G : Gh} {H : Hp} {a : Addr} {o : HO} (g : G a ≠ some .frz) (g0 : G a ≠ none) (nf : ∀ x u, H a ≠ some (.frz x u)) (nt : NT H a := by first | exact ntN (by assumption) | exact ntO (by assumption)) : Evo P G H G (upd H a o) :=
  ⟨fun b u hb gb => ⟨by
    have nb : b ≠ a := fun z => g0 (by rw [← z]; exact gb)
    rw [upd_ne nb]; exact hb, gb⟩, (Mo.upd g nt).fz, fun _ _ q => q, fun _ _ _ _ q => q, fun b u hb => by
    by_cases z : b = a
    · subst z; exact ⟨_, upd_same, fun e => by rcases e with ⟨x, w, e⟩ | ⟨xs, e⟩; exact absurd (e ▸ hb) (nf x w); exact absurd (e ▸ hb) (nt xs)⟩
    · exact ⟨u, by rw [upd_ne z]; exact hb, fun _ => rfl⟩⟩
theorem Evo.updNew {P : Nat → Prop} {G G1 : Gh} {H H1 : Hp} {a : Addr} {o : HO} (e : Evo P G H G1 H1) (h : H a = none) (g : G1 a = none) : Evo P G H G1 (L2.upd H1 a o) := by
  refine ⟨fun b u hb gb => ?_, fun b gb => ?_, e.ob, e.fl, fun b u hb => ?_⟩
  · obtain ⟨h1, g1⟩ := e.un b u hb gb
    have : b ≠ a := fun z => by rw [z, h] at hb; cases hb
    exact ⟨by rw [upd_ne this]; exact h1, g1⟩
  · obtain ⟨g1, h1⟩ := e.fz b gb
    have : b ≠ a := fun z => by rw [z, g] at g1; cases g1
    exact ⟨g1, by rw [upd_ne this]; exact h1⟩
  · by_cases z : b = a
    · subst z; rw [h] at hb; cases hb
    · obtain ⟨u', h1, k1⟩ := e.tk b u hb
      exact ⟨u', by rw [upd_ne z]; exact h1, k1⟩
theorem Evo.rerole {P : Nat → Prop} {G G1 : Gh} {H H1 : Hp} {a : Addr} {r : Option Role} {i : Nat} (e : Evo P G H G1 H1) (g : G1 a = some (.loc i)) : Evo P G H (setG G1 a r) H1 := by
  have ne : ∀ b x, G1 b = x → x ≠ some (.loc i) → b ≠ a := fun b x hb k z => k (by rw [← hb, z]; exact g)
  refine ⟨fun b o hb gb => ?_, fun b gb => ?_, fun b n gb => ?_, fun b n f p gb => ?_, e.tk⟩
  · obtain ⟨h1, g1⟩ := e.un b o hb gb
    exact ⟨h1, by rw [setG_ne (ne b _ g1 (by simp))]; exact g1⟩
  · obtain ⟨g1, h1⟩ := e.fz b gb
    exact ⟨by rw [setG_ne (ne b _ g1 (by simp))]; exact g1, h1⟩
  · have g1 := e.ob b n gb
    rw [setG_ne (ne b _ g1 (by simp))]; exact g1
  · have g1 := e.fl b n f p gb
    rw [setG_ne (ne b _ g1 (by simp))]; exact g1
theorem Mo.rerole {G : Gh} {H : Hp} {a : Addr} {r : Option Role} {i : Nat} (g : G a = some (.loc i)) : Mo G H (setG G a r) H := by
  have ne : ∀ b x, G b = x → x ≠ some (.loc i) → b ≠ a := fun b x hb k z => k (by rw [← hb, z]; exact g)
  exact ⟨fun b gb => ⟨by rw [setG_ne (ne b _ gb (by simp))]; exact gb, rfl⟩, fun b n gb => by rw [setG_ne (ne b _ gb (by simp))]; exact gb, fun _ _ h => h⟩
section
variable {R : RC} {F : FI} {G : Gh} {H : Hp} {hp : List MO} {s : MS} {σ : L2.St}
theorem FSlot.mono {G' : Gh} {H' : Hp} {n f : Nat} (m : Mo G H G' H') (hb : ∀ b, G b = some (.fld n f) → G' b = some (.fld n f) ∧ H' b = H b) : ∀ {sv : Option SV} {o : Option V}, FSlot R G H n f sv o → FSlot R G' H' n f sv o
  | none, _, h => h
  | some (.v x), _, ⟨v, e, h⟩ => ⟨v, e, VR.mono m x v h⟩
  | some (.own c), _, ⟨b, e, g, h⟩ => ⟨b, e, (hb b g).1, h.mono m (hb b g).2⟩
theorem InsF.mono {G' : Gh} {H' : Hp} {n c : Nat} {fs : List (Option SV)} {hfs : List (Str × V)} (m : Mo G H G' H') (hb : ∀ b f, G b = some (.fld n f) → G' b = some (.fld n f) ∧ H' b = H b) (h : InsF R G H n c fs hfs) : InsF R G' H' n c fs hfs :=
  ⟨h.1, fun f nm e => (h.2.1 f nm e).mono m (hb · f), h.2.2⟩
theorem ORel.mono {G' : Gh} {H' : Hp} {a : Addr} {n : Nat} (m : Mo G H G' H') (ha : H' a = H a) (hb : ∀ b f, G b = some (.fld n f) → G' b = some (.fld n f) ∧ H' b = H b) : ∀ {o : MO}, ORel R G H a n o → ORel R G' H' a n o
  | .inst c fs, ⟨dx, hfs, e, h⟩ => ⟨dx, hfs, ha.trans e, h.mono m hb⟩
  | .box c, h => CR.mono m ha h
  | .exc c, h => ha.trans h
  | .dt l kvs, h => DTR.mono m ha h
/-- the mini heap stays, the roles obj and fld and what stands there stay -/
theorem HRel.keep {G' : Gh} {H' : Hp} (h : HRel R G hp H) (m : Mo G H G' H') (ho : ∀ b n, G b = some (.obj n) → H' b = H b) (hf : ∀ b n f, G b = some (.fld n f) → G' b = some (.fld n f) ∧ H' b = H b)
    (ob : ∀ b n, G' b = some (.obj n) → G b = some (.obj n)) (of : ∀ b n f, G' b = some (.fld n f) → G b = some (.fld n f)) (lv : ∀ b r, G' b = some r → ∃ o, H' b = some o) (tb : ∀ b, G b = some .tab → G' b = some .tab ∧ H' b = H b) (tf : ∀ b, G' b = some .tab → G b = some .tab) : HRel R G' hp H' := by
  refine ⟨fun n o e => ?_, fun a b n ha hb => h.uniq a b n (ob a n ha) (ob b n hb), fun a n e => h.lt a n (ob a n e), fun b n f e => ?_, lv, h.tabs.mono m tb tf⟩
  · obtain ⟨a, ga, r⟩ := h.objs n o e
    exact ⟨a, m.ob a n ga, r.mono m (ho a n ga) fun b f g => hf b n f g⟩
  · obtain ⟨a, c, fs, dx, hfs, nm, ga, hn, ha, q⟩ := h.fldOk b n f (of b n f e)
    exact ⟨a, c, fs, dx, hfs, nm, m.ob a n ga, hn, (ho a n ga).trans ha, q⟩
theorem HRel.setr {a : Addr} {r : Option Role} (h : HRel R G hp H) (g : G a = none) (ha : ∃ o, H a = some o) (hr : r = some .frz ∨ ∃ i, r = some (.loc i)) : HRel R (setG G a r) hp H := by
  have ne : ∀ b, G b ≠ none → b ≠ a := fun b hb z => hb (z ▸ g)
  refine h.keep (Mo.setr g) (fun _ _ _ => rfl) (fun b n f e => ⟨by rw [setG_ne (ne b (by rw [e]; simp))]; exact e, rfl⟩) (fun b n e => ?_) (fun b n f e => ?_) (fun b q e => ?_) (fun b e => ⟨by rw [setG_ne (ne b (by rw [e]; simp))]; exact e, rfl⟩) (fun b e => ?_)
  all_goals by_cases z : b = a
  · subst z; rw [setG_same] at e; rcases hr with hr | ⟨i, hr⟩ <;> (rw [hr] at e; cases e)
  · rw [setG_ne z] at e; exact e
  · subst z; rw [setG_same] at e; rcases hr with hr | ⟨i, hr⟩ <;> (rw [hr] at e; cases e)
  · rw [setG_ne z] at e; exact e
  · subst z; exact ha
  · rw [setG_ne z] at e; exact h.live b q e
  · subst z; rw [setG_same] at e; rcases hr with hr | ⟨i, hr⟩ <;> (rw [hr] at e; cases e)
  · rw [setG_ne z] at e; exact e
/-- what is new, or a local's: written -/
theorem HRel.upd {a : Addr} {o : HO} (h : HRel R G hp H) (g : G a = none ∨ ∃ i, G a = some (.loc i)) (nt : NT H a := by first | exact ntN (by assumption) | exact ntO (by assumption)) : HRel R G hp (L2.upd H a o) := by
  have ne : ∀ b r, G b = some r → (∀ i, r ≠ .loc i) → b ≠ a := fun b r e k z => by
    subst z
    rcases g with g | ⟨i, g⟩
    · rw [g] at e; cases e
    · rw [g] at e; cases e; exact k i rfl
  refine h.keep (Mo.upd (fun e => ?_) nt) (fun b n e => upd_ne (ne b _ e (by intro i z; cases z))) (fun b n f e => ⟨e, upd_ne (ne b _ e (by intro i z; cases z))⟩) (fun _ _ e => e) (fun _ _ _ e => e) (fun b r e => ?_) (fun b e => ⟨e, upd_ne (ne b _ e (by intro i z; cases z))⟩) (fun _ e => e)
  · rcases g with g | ⟨i, g⟩ <;> (rw [g] at e; cases e)
  · by_cases z : b = a
    · subst z; exact ⟨_, upd_same⟩
    · rw [upd_ne z]; exact h.live b r e
theorem Rel.noRole {a : Addr} (h : Rel R F G s σ H) (e : H a = none) : G a = none := by
  cases q : G a with
  | none => rfl
  | some r => obtain ⟨o, z⟩ := h.hp.live a r q; rw [e] at z; cases z
/-- a new tracked object -/
theorem Rel.alloc {a : Addr} {o : HO} (h : Rel R F G s σ H) (e : H a = none) : Rel R F G s σ (L2.upd H a o) := by
  have g := h.noRole e
  refine ⟨h.hp.upd (.inl g), h.len, fun i sv q => ?_, ?_, h.base, h.le, h.ent⟩
  · obtain ⟨v, q1, r⟩ := h.env i sv q
    refine ⟨v, q1, ?_⟩
    have m : Mo G H G (L2.upd H a o) := Mo.upd (by rw [g]; simp)
    cases sv with
    | v x => exact VR.mono m x v r
    | own c =>
      obtain ⟨b, q2, gb, r⟩ := r
      exact ⟨b, q2, gb, r.mono m (upd_ne fun z => by rw [z, g] at gb; cases gb)⟩
  · exact h.since.trans (Evo.refl.updNew e g)
/-- a role given to what has none -/
theorem Rel.setr {a : Addr} {r : Option Role} (h : Rel R F G s σ H) (g : G a = none) (ha : ∃ o, H a = some o) (h0 : F.H0 a = none) (hr : r = some .frz ∨ ∃ i, r = some (.loc i)) : Rel R F (setG G a r) s σ H := by
  refine ⟨h.hp.setr g ha hr, h.len, fun i sv q => ?_, h.since.setr h0 g, h.base, h.le, h.ent⟩
  obtain ⟨v, q1, k⟩ := h.env i sv q
  refine ⟨v, q1, ?_⟩
  cases sv with
  | v x => exact VR.mono (Mo.setr g) x v k
  | own c =>
    obtain ⟨b, q2, gb, k⟩ := k
    exact ⟨b, q2, by rw [setG_ne fun z => by rw [z, g] at gb; cases gb]; exact gb, k.mono (Mo.setr g) rfl⟩
end
/-- a local's container is frozen, or let go: slot i's -/
theorem HRel.rerole {R : RC} {G : Gh} {H : Hp} {hp : List MO} {a : Addr} {i : Nat} {r : Option Role} (h : HRel R G hp H) (g : G a = some (.loc i)) (hr : r = some .frz ∨ r = none) : HRel R (setG G a r) hp H := by
  have ne : ∀ b x, G b = x → x ≠ some (.loc i) → b ≠ a := fun b x hb k z => k (by rw [← hb, z]; exact g)
  refine h.keep (Mo.rerole g) (fun _ _ _ => rfl) (fun b n f e => ⟨by rw [setG_ne (ne b _ e (by simp))]; exact e, rfl⟩) (fun b n e => ?_) (fun b n f e => ?_) (fun b q e => ?_) (fun b e => ⟨by rw [setG_ne (ne b _ e (by simp))]; exact e, rfl⟩) (fun b e => ?_)
  all_goals by_cases z : b = a
  · subst z; rw [setG_same] at e; rcases hr with hr | hr <;> (rw [hr] at e; cases e)
  · rw [setG_ne z] at e; exact e
  · subst z; rw [setG_same] at e; rcases hr with hr | hr <;> (rw [hr] at e; cases e)
  · rw [setG_ne z] at e; exact e
  · subst z; exact h.live _ _ g
  · rw [setG_ne z] at e; exact h.live b q e
  · subst z; rw [setG_same] at e; rcases hr with hr | hr <;> (rw [hr] at e; cases e)
  · rw [setG_ne z] at e; exact e
/-- .. the slots: slot i becomes sv -/
theorem Rel.rerole {R : RC} {F : FI} {G : Gh} {H : Hp} {s : MS} {σ : L2.St} {a : Addr} {i : Nat} {r : Option Role} {sv : Option SV} {v : V} (h : Rel R F G s σ H) (g : G a = some (.loc i)) (hr : r = some .frz ∨ r = none) (hi : σ[i]? = some (some v))
    (new : ∀ x, sv = some x → LSlot R (setG G a r) H i x v) : Rel R F (setG G a r) { s with env := s.env.set i sv } σ H := by
  have m : Mo G H (setG G a r) H := Mo.rerole g
  refine ⟨h.hp.rerole g hr, by simpa using h.len, fun j x e => ?_, h.since.rerole g, h.base, h.le, h.ent⟩
  by_cases z : j = i
  · subst z
    have hl : j < s.env.length := by
      rw [h.len]; exact (List.getElem?_eq_some_iff.mp hi).1
    simp only [List.getElem?_set_self hl] at e
    exact ⟨v, hi, new x (Option.some.inj e)⟩
  · simp only [List.getElem?_set_ne (Ne.symm z)] at e
    obtain ⟨w, q, k⟩ := h.env j x e
    refine ⟨w, q, ?_⟩
    cases x with
    | v y => exact VR.mono m y w k
    | own c =>
      obtain ⟨b, e2, gb, k⟩ := k
      have nb : b ≠ a := fun q => z (by rw [q, g] at gb; cases gb; rfl)
      exact ⟨b, e2, by rw [setG_ne nb]; exact gb, k.mono m rfl⟩
/-- how results lie to values -/
structure RL (α β : Type) where
  rel : RC → L2.St → Hp → Gh → Hp → α → β → Prop
  mono : ∀ {R σ Hs G H G' H' r v}, Evo EvT G H G' H' → rel R σ Hs G H r v → rel R σ Hs G' H' r v
  back : ∀ {R σ H H1 G G1 G' H' r v}, Evo EvT G H G1 H1 → rel R σ H1 G' H' r v → rel R σ H G' H' r v
def rlE : RL RV V := ⟨fun R σ Hs G H r v => RR R σ Hs G H r v, fun e h => h.mono e, fun e h => h.back e⟩
def rlV : RL MV V := ⟨fun R _ _ G H r v => VR R.K G H r v, fun e h => VR.mono e.mo _ _ h, fun _ h => h⟩
def rlS : RL (List MV) (List V) := ⟨fun R _ _ G H r v => VRs R.K G H r v, fun e h => VRs.mono e.mo _ _ h, fun _ h => h⟩
def rlB : RL Bool Bool := ⟨fun _ _ _ _ _ r v => v = r, fun _ h => h, fun _ h => h⟩
section
variable {α β : Type} (L : RL α β) (R : RC) (F : FI) (W : WX)
def OutX (σ : L2.St) (G : Gh) (H : Hp) (o : Out α) (Q : β → Hp → Prop) : Prop := match o with
  | .ok r s' => ∀ G' H' v, Rel R F G' s' σ H' → Evo EvT G H G' H' → L.rel R σ H G' H' r v → Q v H'
  | .exc c xs s' => ∀ G' H' cls d, Rel R F G' s' σ H' → Evo EvT G H G' H' → ExR R G' H' c xs cls d → W cls d σ H'
  | .bad => False
def tX (f : MS → Out α) : L2.St → Hp → (β → Hp → Prop) → Prop := fun σ H Q => ∃ G s, Rel R F G s σ H ∧ OutX L R F W σ G H (f s) Q
end
abbrev tE (R : RC) (F : FI) (W : WX) (f : ME) : TE := tX rlE R F W f
abbrev tV (R : RC) (F : FI) (W : WX) (f : MS → Out MV) : TE := tX rlV R F W f
abbrev tVs (R : RC) (F : FI) (W : WX) (f : MS → Out (List MV)) : TA := tX rlS R F W f
abbrev tT (R : RC) (F : FI) (W : WX) (f : MS → Out Bool) : TT := tX rlB R F W f
section
variable {α β γ δ : Type} {L : RL α β} {M : RL γ δ} {R : RC} {F : FI} {W : WX} {σ : L2.St} {G G1 : Gh} {H H1 : Hp}
theorem OutX.rebase {o : Out α} {Q : β → Hp → Prop} (h : OutX L R F W σ G H o Q) (e : Evo EvT G H G1 H1) : OutX L R F W σ G1 H1 o Q := by
  cases o with
  | ok r s' => exact fun G' H' v rel ev rr => h G' H' v rel (e.trans ev) (L.back e rr)
  | exc c xs s' => exact fun G' H' cls d rel ev x => h G' H' cls d rel (e.trans ev) x
  | bad => exact h
theorem tX.mono {f : MS → Out α} {Q Q' : β → Hp → Prop} (h : tX L R F W f σ H Q) (k : ∀ y H', Q y H' → Q' y H') : tX L R F W f σ H Q' := by
  obtain ⟨G, s, rel, h⟩ := h
  refine ⟨G, s, rel, ?_⟩
  cases q : f s with
  | ok r s2 => rw [q] at h; exact fun G' H' v a b c => k _ _ (h G' H' v a b c)
  | exc c xs s2 => rw [q] at h; exact h
  | bad => rw [q] at h; exact h
/-- a state on the way from (G, H) -/
structure Way (R : RC) (F : FI) (σ : L2.St) (G : Gh) (H : Hp) (G1 : Gh) (H1 : Hp) (s1 : MS) : Prop where
  rel : Rel R F G1 s1 σ H1
  evo : Evo EvT G H G1 H1
  st : Evo (· < F.base) F.G0 F.H0 G H
/-- run on from a state -/
theorem next {fb : MS → Out γ} {k : γ → MS → Out α} {Q : β → Hp → Prop} {s1 : MS} (w : Way R F σ G H G1 H1 s1) (h : OutX L R F W σ G H ((fb s1).bind k) Q) :
    tX M R F W fb σ H1 (fun y H2 => ∃ r s2 G2, Way R F σ G H G2 H2 s2 ∧ Evo EvT G1 H1 G2 H2 ∧ M.rel R σ H G2 H2 r y ∧ OutX L R F W σ G H (k r s2) Q) := by
  refine ⟨G1, s1, w.rel, ?_⟩
  cases q : fb s1 with
  | ok r s2 =>
    rw [q] at h
    intro G' H' v rel' ev rr
    exact ⟨r, s2, G', ⟨rel', w.evo.trans ev, w.st⟩, ev, M.back w.evo rr, h⟩
  | exc c xs s2 => rw [q] at h; exact fun G' H' cls d rel ev x => h G' H' cls d rel (w.evo.trans ev) x
  | bad => rw [q] at h; exact h
/-- the first step -/
theorem first {fb : MS → Out γ} {k : γ → MS → Out α} {Q : β → Hp → Prop} (h : tX L R F W (fun s => (fb s).bind k) σ H Q) :
    tX M R F W fb σ H (fun y H1 => ∃ G r s1 G1, Way R F σ G H G1 H1 s1 ∧ M.rel R σ H G1 H1 r y ∧ OutX L R F W σ G H (k r s1) Q) := by
  obtain ⟨G, s, rel, h⟩ := h
  obtain ⟨G', s', rel', h'⟩ := next (M := M) (L := L) ⟨rel, .refl, rel.since⟩ h
  refine ⟨G', s', rel', ?_⟩
  cases q : fb s' with
  | ok r s2 =>
    rw [q] at h'
    intro G2 H2 v r2 ev rr
    obtain ⟨r, s3, G3, w, _, rr, o⟩ := h' G2 H2 v r2 ev rr
    exact ⟨G, r, s3, G3, w, rr, o⟩
  | exc c xs s2 => rw [q] at h'; exact h'
  | bad => rw [q] at h'; exact h'
end
end Mi
set_option Elab.async false
set_option linter.all false
set_option maxRecDepth 100000
set_option maxHeartbeats 4000000
namespace Mi
open PySem PySem.Spec PyProof.Rows L2

/-! contents -/
def frzC : C → MV
  | .lst xs => .lst xs
  | .dict kvs => .dct (kvs.map (·.1)) (kvs.map (·.2))
  | .lock kvs => .dct (kvs.map (·.1)) (kvs.map (·.2))
def cont (s : MS) : RV → Option C
  | .own c => some c
  | .loc i => match s.env[i]? with | some (some (.own c)) => some c | _ => none
  | .fld n f => match s.hp[n]? with
    | some (.inst _ fs) => match fs[f]? with | some (some (.own c)) => some c | _ => none
    | _ => none
  | .v (.lst xs) => some (.lst xs)
  | .v (.dct ks vs) => if ks.length = vs.length then some (.dict (ks.zip vs)) else none
  | .v (.ref n) => match s.hp[n]? with | some (.box c) => some c | _ => none
  | _ => none
section
variable {R : RC} {F : FI} {G : Gh} {H Hs : Hp} {s : MS} {σ : L2.St} {v : V} {r : RV}
theorem FzT.sq {K : PySem.W.Frag} {a : Addr} {vs : List V} (h : FzT K G H a vs) : SqT K H a vs := .inl (.inl h)
theorem FzL.sq {K : PySem.W.Frag} {a : Addr} {vs : List V} (h : FzL K G H a vs) : SqL K H a vs := by
  rcases h with ⟨_, r⟩ | k
  · exact .inl r
  · exact .inr k
def CRd (K : PySem.W.Frag) (G : Gh) (H : Hp) : C → Addr → Prop
  | .lst xs, a => ∃ vs, SqL K H a vs ∧ VRs K G H xs vs
  | .dict kvs, a => ∃ ho, H a = some ho ∧ DRx (kvs.map (·.1)) (VRs K G H (kvs.map (·.2))) ho
  | .lock kvs, a => ∃ od ho, H a = some (.frz od ho) ∧ DRx (kvs.map (·.1)) (VRs K G H (kvs.map (·.2))) ho
theorem CR.rd {K : PySem.W.Frag} {a : Addr} : ∀ {c : C}, CR K G H c a → CRd K G H c a
  | .lst xs, ⟨vs, e, h⟩ => ⟨vs, .inl (.inl e), h⟩
  | .dict kvs, ⟨ho, e, h⟩ => ⟨ho, e, h⟩
  | .lock kvs, ⟨od, ho, e, h⟩ => ⟨od, ho, e, h⟩
theorem zip_fst {α β : Type} : ∀ {a : List α} {b : List β}, a.length = b.length → (a.zip b).map (·.1) = a
  | [], [], _ => rfl
  | x :: a, y :: b, h => by simp [zip_fst (a := a) (b := b) (by simpa using h)]
  | [], _ :: _, h => by simp at h
  | _ :: _, [], h => by simp at h
theorem zip_snd {α β : Type} : ∀ {a : List α} {b : List β}, a.length = b.length → (a.zip b).map (·.2) = b
  | [], [], _ => rfl
  | x :: a, y :: b, h => by simp [zip_snd (a := a) (b := b) (by simpa using h)]
  | [], _ :: _, h => by simp at h
  | _ :: _, [], h => by simp at h
/-- the content that a result has stands at its address -/
theorem cont_ok {c : C} (rel : Rel R F G s σ H) (rr : RR R σ Hs G H r v) (e : cont s r = some c) : ∃ a, v = .ref a ∧ CRd R.K G H c a := by
  cases r with
  | own c' =>
    obtain ⟨a, q, _, _, h⟩ := rr
    cases (show some c' = some c from e)
    exact ⟨a, q, h.rd⟩
  | loc i =>
    simp only [cont] at e
    split at e
    · rename_i c' hc
      cases e
      obtain ⟨w, q, a, ev, g, h⟩ := rel.env i _ hc
      have rr' : σ[i]? = some (some v) := rr
      rw [rr'] at q; cases q
      exact ⟨a, ev, h.rd⟩
    · cases e
  | fld n f =>
    simp only [cont] at e
    split at e
    · rename_i cl fs hn
      split at e
      · rename_i c' hc
        cases e
        obtain ⟨b, ev, gb⟩ := rr
        obtain ⟨a, ga, dx, hfs, ha, hlen, hf, _⟩ := rel.hp.objs n _ hn
        obtain ⟨a', c2, fs2, dx', hfs', nm, ga', hn2, ha', hnm, hl, _⟩ := rel.hp.fldOk b n f gb
        have ea := rel.hp.uniq _ _ _ ga ga'
        subst ea
        rw [hn] at hn2
        cases hn2
        rw [ha] at ha'
        cases ha'
        have fs1 := hf f _ hnm
        rw [hc, hl] at fs1
        obtain ⟨b', hb', gb', cr⟩ := fs1
        cases hb'
        exact ⟨b, ev, cr.rd⟩
      · cases e
    · cases e
  | v x =>
    cases x with
    | lst xs =>
      cases (show some (C.lst xs) = some c from e)
      have rr' : VR R.K G H (.lst xs) v := rr
      unfold VR at rr'
      obtain ⟨a, vs, q, f, h⟩ := rr'
      exact ⟨a, q, vs, f.sq, h⟩
    | dct ks vs =>
      simp only [cont] at e
      split at e
      · rename_i hl
        cases e
        have rr' : VR R.K G H (.dct ks vs) v := rr
        unfold VR at rr'
        obtain ⟨a, ho, q, g, rd, h⟩ := rr'
        exact ⟨a, q, ho, rd, by rw [zip_fst hl, zip_snd hl]; exact h⟩
      · cases e
    | ref n =>
      simp only [cont] at e
      split at e
      · rename_i c' hc
        cases e
        have rr' : VR R.K G H (.ref n) v := rr
        unfold VR at rr'
        obtain ⟨a, q, g⟩ := rr'
        obtain ⟨a', ga', h⟩ := rel.hp.objs n _ hc
        have ea := rel.hp.uniq _ _ _ g ga'
        subst ea
        exact ⟨a, q, CR.rd h⟩
      · cases e
    | non => cases e
    | bl b => cases e
    | int i => cases e
    | str s => cases e
    | tup xs => cases e
/-- the content of a thing that is not frozen -/
def contW (s : MS) : RV → Option C
  | .v (.lst _) => none
  | .v (.dct _ _) => none
  | r => cont s r
/-- the content that a result has stands at its address -/
theorem contW_ok {c : C} (rel : Rel R F G s σ H) (rr : RR R σ Hs G H r v) (e : contW s r = some c) : ∃ a, v = .ref a ∧ CR R.K G H c a := by
  cases r with
  | own c' =>
    obtain ⟨a, q, _, _, h⟩ := rr
    cases (show some c' = some c from e)
    exact ⟨a, q, h⟩
  | loc i =>
    simp only [contW, cont] at e
    split at e
    · rename_i c' hc
      cases e
      obtain ⟨w, q, a, ev, g, h⟩ := rel.env i _ hc
      have rr' : σ[i]? = some (some v) := rr
      rw [rr'] at q; cases q
      exact ⟨a, ev, h⟩
    · cases e
  | fld n f =>
    simp only [contW, cont] at e
    split at e
    · rename_i cl fs hn
      split at e
      · rename_i c' hc
        cases e
        obtain ⟨b, ev, gb⟩ := rr
        obtain ⟨a, ga, dx, hfs, ha, hlen, hf, _⟩ := rel.hp.objs n _ hn
        obtain ⟨a', c2, fs2, dx', hfs', nm, ga', hn2, ha', hnm, hl, _⟩ := rel.hp.fldOk b n f gb
        have ea := rel.hp.uniq _ _ _ ga ga'
        subst ea
        rw [hn] at hn2
        cases hn2
        rw [ha] at ha'
        cases ha'
        have fs1 := hf f _ hnm
        rw [hc, hl] at fs1
        obtain ⟨b', hb', gb', cr⟩ := fs1
        cases hb'
        exact ⟨b, ev, cr⟩
      · cases e
    · cases e
  | v x =>
    cases x with
    | lst xs => cases e
    | dct ks vs => cases e
    | ref n =>
      simp only [contW, cont] at e
      split at e
      · rename_i c' hc
        cases e
        have rr' : VR R.K G H (.ref n) v := rr
        unfold VR at rr'
        obtain ⟨a, q, g⟩ := rr'
        obtain ⟨a', ga', h⟩ := rel.hp.objs n _ hc
        have ea := rel.hp.uniq _ _ _ g ga'
        subst ea
        exact ⟨a, q, h⟩
      · cases e
    | non => cases e
    | bl b => cases e
    | int i => cases e
    | str s => cases e
    | tup xs => cases e
end
end Mi
set_option Elab.async false
set_option linter.all false
set_option maxRecDepth 100000
set_option maxHeartbeats 4000000
namespace Mi
open PySem PySem.Spec PyProof.Rows L2

theorem PE.imp {X : Cx} {e : Expr} {t t' : TE} (h : PE X e t) (k : ∀ σ H Q, t' σ H Q → t σ H Q) : PE X e t' := ⟨fun pins s σ H Q I q => h.run pins s σ H Q I (k σ H Q q)⟩
theorem PA.imp {X : Cx} {e : List Expr} {t t' : TA} (h : PA X e t) (k : ∀ σ H Q, t' σ H Q → t σ H Q) : PA X e t' := ⟨fun pos pins s σ H Q I q => h.run pos pins s σ H Q I (k σ H Q q)⟩
theorem PT.imp {X : Cx} {e : Expr} {t t' : TT} (h : PT X e t) (k : ∀ σ H Q, t' σ H Q → t σ H Q) : PT X e t' := ⟨fun pins s σ H Q I q => h.run pins s σ H Q I (k σ H Q q)⟩
theorem PW.imp {X : Cx} {e : Expr} {t t' : TT} (h : PW X e t) (k : ∀ σ H Q, t' σ H Q → t σ H Q) : PW X e t' := ⟨fun w pins s σ H Q I q => h.run w pins s σ H Q I (k σ H Q q)⟩
theorem PS.imp {X : Cx} {e : Stmt} {t t' : TS} (h : PS X e t) (k : ∀ D σ H, t' D σ H → t D σ H) : PS X e t' := ⟨fun pins s σ H D I q => h.run pins s σ H D I (k D σ H q)⟩
theorem PSs.imp {X : Cx} {e : List Stmt} {t t' : TS} (h : PSs X e t) (k : ∀ D σ H, t' D σ H → t D σ H) : PSs X e t' := ⟨fun pins s σ H D I q => h.run pins s σ H D I (k D σ H q)⟩

/-! the judgements -/
def JE (X : Cx) (R : RC) (W : WX) (e : Expr) (f : ME) : Prop := R.K = X.K → ∀ F, PE X e (tE R F W f)
def JV (X : Cx) (R : RC) (W : WX) (e : Expr) (f : MS → Out MV) : Prop := R.K = X.K → ∀ F, PE X e (tV R F W f)
def JT (X : Cx) (R : RC) (W : WX) (e : Expr) (f : MS → Out Bool) : Prop := R.K = X.K → ∀ F, PT X e (tT R F W f)
def JW (X : Cx) (R : RC) (W : WX) (e : Expr) (f : MS → Out Bool) : Prop := R.K = X.K → ∀ F, PW X e (tT R F W f)
/-- arguments: results -/
def RRs (R : RC) (σ : L2.St) (Hs : Hp) (G : Gh) (H : Hp) : List RV → List V → Prop
  | [], vs => vs = []
  | r :: rs, vs => ∃ v t, vs = v :: t ∧ RR R σ Hs G H r v ∧ RRs R σ Hs G H rs t
theorem RRs.mono {R : RC} {σ : L2.St} {Hs : Hp} {G G' : Gh} {H H' : Hp} (e : Evo EvT G H G' H') : ∀ {rs : List RV} {vs : List V}, RRs R σ Hs G H rs vs → RRs R σ Hs G' H' rs vs
  | [], _, h => h
  | _ :: _, _, ⟨v, t, q, a, b⟩ => ⟨v, t, q, a.mono e, RRs.mono e b⟩
theorem RRs.back {R : RC} {σ : L2.St} {H H1 : Hp} {G G1 G' : Gh} {H' : Hp} (e : Evo EvT G H G1 H1) : ∀ {rs : List RV} {vs : List V}, RRs R σ H1 G' H' rs vs → RRs R σ H G' H' rs vs
  | [], _, h => h
  | _ :: _, _, ⟨v, t, q, a, b⟩ => ⟨v, t, q, a.back e, RRs.back e b⟩
def rlR : RL (List RV) (List V) := ⟨fun R σ Hs G H r v => RRs R σ Hs G H r v, fun e h => h.mono e, fun e h => h.back e⟩
abbrev tR (R : RC) (F : FI) (W : WX) (f : MS → Out (List RV)) : TA := tX rlR R F W f
def JA (X : Cx) (R : RC) (W : WX) (es : List Expr) (f : MS → Out (List RV)) : Prop := R.K = X.K → ∀ F, PA X es (tR R F W f)

section
variable {X : Cx} {R : RC} {W : WX} {pos : Pos}
/-! ends: what a simple value gives -/
theorem fin {α β : Type} {L : RL α β} {F : FI} {σ : L2.St} {G G1 : Gh} {H H1 : Hp} {s1 : MS} {r : α} {v : β} {Q : β → Hp → Prop} (w : Way R F σ G H G1 H1 s1) (h : OutX L R F W σ G H (.ok r s1) Q) (rr : L.rel R σ H G1 H1 r v) : Q v H1 := h _ _ _ w.rel w.evo rr

def mC (x : MV) : ME := fun s => .ok (.v x) s
theorem se_int {i : Int} {j : Nat} : JE X R W (.Constant (.int i) j pos) (mC (.int i)) := fun _ F => PE.imp pe_int fun σ H Q ⟨G, s, rel, h⟩ => h G H _ rel .refl (show VR _ _ _ _ _ by unfold VR; rfl)
theorem se_bl {b : Bool} {j : Nat} : JE X R W (.Constant (.bool b) j pos) (mC (.bl b)) := fun _ F => PE.imp pe_bl fun σ H Q ⟨G, s, rel, h⟩ => h G H _ rel .refl (show VR _ _ _ _ _ by unfold VR; rfl)
theorem se_non {j : Nat} : JE X R W (.Constant .none j pos) (mC .non) := fun _ F => PE.imp pe_non fun σ H Q ⟨G, s, rel, h⟩ => h G H _ rel .refl (show VR _ _ _ _ _ by unfold VR; rfl)
theorem se_str {x : Str} {l : List Nat} {j : Nat} (e : x.cps.toList = l := by rfl) : JE X R W (.Constant (.str x) j pos) (mC (.str l)) := fun _ F => PE.imp pe_str fun σ H Q ⟨G, s, rel, h⟩ => h G H _ rel .refl (show VR _ _ _ _ _ by unfold VR; rw [← e])
def mVar (i : Nat) : ME := fun s => match s.env[i]? with
  | some (some (.v x)) => .ok (.v x) s
  | some (some (.own _)) => .ok (.loc i) s
  | _ => .bad
theorem se_var (i : Nat) {x : Str} (hN : X.N[i]? = some x := by rfl) (hv : Vis X.env.scope x := by first | exact Or.inl rfl | exact Or.inr (Or.inl rfl) | exact Or.inr (Or.inr rfl)) (hd : (x == ("__debug__" : Str)) = false := by decide)
    (hcd : (x == ("__classdict__" : Str)) = false := by decide) : JE X R W (.Name x pos) (mVar i) := fun _ F => PE.imp (pe_var hN hv hd hcd) fun σ H Q ⟨G, s, rel, h⟩ => by
  unfold mVar at h
  split at h
  · rename_i x hx
    obtain ⟨v, e, r⟩ := rel.env i _ hx
    exact ⟨v, e, h G H v rel .refl r⟩
  · rename_i c hx
    obtain ⟨v, e, r⟩ := rel.env i _ hx
    exact ⟨v, e, h G H v rel .refl e⟩
  · exact h.elim

/-! two operands -/
/-- the rule r of two values takes what the mini operation p gives -/
def PrimR (R : RC) (r : R2) (p : RV → RV → MS → Out RV) : Prop := ∀ {F : FI} {W : WX} {σ : L2.St} {G : Gh} {H : Hp} {G2 : Gh} {H2 : Hp} {s2 : MS} {r1 r2 : RV} {x y : V} {Q : VK},
  Way R F σ G H G2 H2 s2 → RR R σ H G2 H2 r1 x → RR R σ H G2 H2 r2 y → OutX rlE R F W σ G H (p r1 r2 s2) Q → r x y H2 Q
def mBin (p : RV → RV → MS → Out RV) (fa fb : ME) : ME := fun s => (fa s).bind fun r1 s1 => (fb s1).bind fun r2 s2 => p r1 r2 s2
theorem tBin {F : FI} {r : R2} {p : RV → RV → MS → Out RV} {fa fb : ME} (pr : PrimR R r p) : ∀ σ H Q, tE R F W (mBin p fa fb) σ H Q → tOp r (tE R F W fa) (tE R F W fb) σ H Q := fun σ H Q h => by
  refine (first (M := rlE) h).mono fun x H1 ⟨G0, r1, s1, G1, w, rr, o⟩ => ?_
  exact (next (M := rlE) w o).mono fun y H2 ⟨r2, s2, G2, w2, e, rr2, o2⟩ => pr w2 (rr.mono e) rr2 o2
theorem se_bin {op : Operator} {r : R2} {p : RV → RV → MS → Out RV} {a b : Expr} {fa fb : ME} (ho : OpR X (binaryOp op) r) (pr : R.K = X.K → PrimR R r p) (ha : JE X R W a fa) (hb : JE X R W b fb) : JE X R W (.BinOp a op b pos) (mBin p fa fb) := fun hK F =>
  PE.imp (pe_op ho (ha hK F) (hb hK F)) (tBin (pr hK))
theorem se_cmp {op : CmpOp} {r : R2} {p : RV → RV → MS → Out RV} {a b : Expr} {fa fb : ME} (ho : OpR X (compareOp op) r) (pr : R.K = X.K → PrimR R r p) (ha : JE X R W a fa) (hb : JE X R W b fb) (hm : behindInMarks op b = false := by rfl) : JE X R W (.Compare a [op] [b] pos) (mBin p fa fb) := fun hK F =>
  PE.imp (pe_cmpR ho (ha hK F) (hb hK F) hm) (tBin (pr hK))
end
end Mi
set_option Elab.async false
set_option linter.all false
set_option maxRecDepth 100000
set_option maxHeartbeats 4000000
namespace Mi
open PySem PySem.Spec PyProof.Rows L2

/-! new objects -/
section
variable {R : RC} {F : FI} {W : WX} {σ : L2.St} {G G1 : Gh} {H H1 : Hp} {s1 : MS} {Q : VK}
theorem newLst {xs : List MV} {vs : List V} (w : Way R F σ G H G1 H1 s1) (r : VRs R.K G1 H1 xs vs) (h : OutX rlE R F W σ G H (.ok (.own (.lst xs)) s1) Q) : ∀ p, H1 p = none → Q (.ref p) (upd H1 p (.lst vs)) := fun p hp => by
  have g := w.rel.noRole hp
  have hH := fresh_back w.evo hp
  exact h G1 _ _ (w.rel.alloc hp) (w.evo.updNew hH g) ⟨p, rfl, hH, g, vs, upd_same, VRs.mono (Mo.upd (by rw [g]; simp)) _ _ r⟩
theorem newTup {xs : List MV} {vs : List V} (w : Way R F σ G H G1 H1 s1) (r : VRs R.K G1 H1 xs vs) (h : OutX rlE R F W σ G H (.ok (.v (.tup xs)) s1) Q) : ∀ p, H1 p = none → Q (.ref p) (upd H1 p (.tup vs)) := fun p hp => by
  have g := w.rel.noRole hp
  have hH := fresh_back w.evo hp
  refine h (setG G1 p (some .frz)) _ _ ((w.rel.alloc (o := .tup vs) hp).setr g ⟨_, upd_same⟩ (fresh_back w.st hH) (.inl rfl)) ((w.evo.updNew hH g).setr hH g) ?_
  show VR _ _ _ _ _
  unfold VR
  refine ⟨p, vs, rfl, upd_same, ?_⟩
  refine VRs.mono (G := G1) (H := upd H1 p (.tup vs)) (Mo.setr g) _ _ ?_
  exact VRs.mono (Mo.upd (by rw [g]; simp)) _ _ r
end

/-! shapes -/
theorem VR.int {K : PySem.W.Frag} {G : Gh} {H : Hp} {i : Int} {v : V} (h : VR K G H (.int i) v) : v = .int i := by unfold VR at h; exact h
theorem VR.bl {K : PySem.W.Frag} {G : Gh} {H : Hp} {i : Bool} {v : V} (h : VR K G H (.bl i) v) : v = .bl i := by unfold VR at h; exact h
theorem VR.str {K : PySem.W.Frag} {G : Gh} {H : Hp} {i : List Nat} {v : V} (h : VR K G H (.str i) v) : v = .str ⟨i.toArray⟩ := by unfold VR at h; exact h
theorem VR.non {K : PySem.W.Frag} {G : Gh} {H : Hp} {v : V} (h : VR K G H .non v) : v = .non := by unfold VR at h; exact h
theorem VR.tup {K : PySem.W.Frag} {G : Gh} {H : Hp} {xs : List MV} {v : V} (h : VR K G H (.tup xs) v) : ∃ a vs, v = .ref a ∧ SqT K H a vs ∧ VRs K G H xs vs := by
  unfold VR at h
  obtain ⟨a, vs, q, f, r⟩ := h
  exact ⟨a, vs, q, f.sq, r⟩
theorem VR.mkInt {K : PySem.W.Frag} {G : Gh} {H : Hp} {i : Int} : VR K G H (.int i) (.int i) := by unfold VR; rfl
theorem VR.mkBl {K : PySem.W.Frag} {G : Gh} {H : Hp} {i : Bool} : VR K G H (.bl i) (.bl i) := by unfold VR; rfl
theorem VR.mkNon {K : PySem.W.Frag} {G : Gh} {H : Hp} : VR K G H .non .non := by unfold VR; rfl
theorem VR.mkStr {K : PySem.W.Frag} {G : Gh} {H : Hp} {i : List Nat} : VR K G H (.str i) (.str ⟨i.toArray⟩) := by unfold VR; rfl
theorem VR.mkStr' {K : PySem.W.Frag} {G : Gh} {H : Hp} {i : List Nat} {x : Str} (e : x.cps.toList = i) : VR K G H (.str i) (.str x) := by unfold VR; rw [← e]

section
variable {R : RC} {σ : L2.St} {Hs : Hp} {G : Gh} {H : Hp} {v : V}
theorem RR.int {i : Int} (h : RR R σ Hs G H (.v (.int i)) v) : v = .int i := VR.int (K := R.K) (G := G) (H := H) h
theorem RR.bl {i : Bool} (h : RR R σ Hs G H (.v (.bl i)) v) : v = .bl i := VR.bl (K := R.K) (G := G) (H := H) h
theorem RR.str {i : List Nat} (h : RR R σ Hs G H (.v (.str i)) v) : v = .str ⟨i.toArray⟩ := VR.str (K := R.K) (G := G) (H := H) h
theorem RR.non (h : RR R σ Hs G H (.v .non) v) : v = .non := VR.non (K := R.K) (G := G) (H := H) h
theorem RR.tup {xs : List MV} (h : RR R σ Hs G H (.v (.tup xs)) v) : ∃ a vs, v = .ref a ∧ SqT R.K H a vs ∧ VRs R.K G H xs vs := VR.tup (K := R.K) (G := G) (H := H) h
variable {F : FI} {W : WX} {G1 : Gh} {H1 : Hp} {s1 : MS} {Q : VK}
theorem finV {x : MV} (w : Way R F σ G H G1 H1 s1) (o : OutX rlE R F W σ G H (.ok (.v x) s1) Q) (r : VR R.K G1 H1 x v) : Q v H1 := o _ _ _ w.rel w.evo r
theorem finI {i : Int} (w : Way R F σ G H G1 H1 s1) (o : OutX rlE R F W σ G H (.ok (.v (.int i)) s1) Q) : Q (.int i) H1 := finV w o (VR.mkInt (K := R.K) (G := G1) (H := H1))
theorem finB {i : Bool} (w : Way R F σ G H G1 H1 s1) (o : OutX rlE R F W σ G H (.ok (.v (.bl i)) s1) Q) : Q (.bl i) H1 := finV w o (VR.mkBl (K := R.K) (G := G1) (H := H1))
theorem finN (w : Way R F σ G H G1 H1 s1) (o : OutX rlE R F W σ G H (.ok (.v .non) s1) Q) : Q .non H1 := finV w o (VR.mkNon (K := R.K) (G := G1) (H := H1))
theorem finS {i : List Nat} {x : Str} (w : Way R F σ G H G1 H1 s1) (o : OutX rlE R F W σ G H (.ok (.v (.str i)) s1) Q) (e : x.cps.toList = i) : Q (.str x) H1 := finV w o (VR.mkStr' (K := R.K) (G := G1) (H := H1) e)
end
/-! + -/
def rCatR : R2 := fun x y H Q => ∃ l b xs zs, x = .ref l ∧ y = .ref b ∧ Rd H l (.lst xs) ∧ Rd H b (.lst zs) ∧ xs.length + zs.length ≤ sizeLine ∧ ∀ p, H p = none → Q (.ref p) (upd H p (.lst (xs ++ zs)))
theorem op_catR {X : Cx} : OpR X (binaryOp .Add) rCatR := by
  intro pins s σ H x y v u Q I rx ry h
  obtain ⟨l, b, xs, zs, rfl, rfl, hH, hB, hz, q⟩ := h
  cases rx
  cases ry
  obtain ⟨z, its, n, r, e⟩ := hH.ok I.hok
  obtain ⟨z2, its2, n2, r2, e2⟩ := hB.ok I.hok
  have hl := r.length
  have hl2 := r2.length
  refine PySem.P.add_list e e2 ?_ (by rw [List.size_toArray, List.size_toArray]; omega)
  have ea : its.toArray ++ its2.toArray = (its ++ its2).toArray := by simp
  rw [ea]
  exact ⟨.ref _, _, I.lnew (t' := s.toks) (r.append r2) (by rw [List.length_append]; omega), rfl, q _ I.fresh⟩
def opAdd (r1 r2 : RV) (s : MS) : Out RV :=
  match r1, r2 with
  | .v (.int i), .v (.int j) => .ok (.v (.int (i + j))) s
  | .v (.str a), .v (.str b) => if a.length + b.length ≤ sizeLine then .ok (.v (.str (a ++ b))) s else .bad
  | .v (.tup a), .v (.tup b) => if a.length + b.length ≤ sizeLine then .ok (.v (.tup (a ++ b))) s else .bad
  | r1, r2 => match contW s r1, contW s r2 with
    | some (.lst a), some (.lst b) => if a.length + b.length ≤ sizeLine then .ok (.own (.lst (a ++ b))) s else .bad
    | _, _ => .bad
def rAddM (K : PySem.W.Frag) : R2 := fun x y H Q => (∃ i j, x = .int i ∧ y = .int j ∧ Q (.int (i + j)) H) ∨
  ((∃ i j, x = .str i ∧ y = .str j ∧ i.length + j.length ≤ sizeLine ∧ Q (.str (i ++ j)) H) ∨ (rCatA K x y H Q ∨ rCatR x y H Q))
theorem op_addM {X : Cx} : OpR X (binaryOp .Add) (rAddM X.K) := OpR.or op_add (OpR.or op_add_str (OpR.or op_catA op_catR))
theorem cat_part {R : RC} {F : FI} {W : WX} {σ : L2.St} {G : Gh} {H : Hp} {G2 : Gh} {H2 : Hp} {s2 : MS} {r1 r2 : RV} {x y : V} {Q : VK} (w : Way R F σ G H G2 H2 s2) (h1 : RR R σ H G2 H2 r1 x) (h2 : RR R σ H G2 H2 r2 y)
    (o : OutX rlE R F W σ G H (match contW s2 r1, contW s2 r2 with
    | some (.lst a), some (.lst b) => if a.length + b.length ≤ sizeLine then .ok (.own (.lst (a ++ b))) s2 else .bad
    | _, _ => .bad) Q) : rCatR x y H2 Q := by
  split at o
  · rename_i a b e1 e2
    split at o
    · rename_i hz
      obtain ⟨p, rfl, vs, k1, v1⟩ := contW_ok w.rel h1 e1
      obtain ⟨q, rfl, ws, k2, v2⟩ := contW_ok w.rel h2 e2
      exact ⟨p, q, vs, ws, rfl, rfl, .inl k1, .inl k2, by rw [← v1.length, ← v2.length]; exact hz, newLst w (v1.append v2) o⟩
    · exact o.elim
  · exact o.elim
theorem pr_add {R : RC} : PrimR R (rAddM R.K) opAdd := fun {F W σ G H G2 H2 s2 r1 r2 x y Q} w h1 h2 o => by
  unfold opAdd at o
  split at o
  · cases RR.int h1; cases RR.int h2
    exact .inl ⟨_, _, rfl, rfl, finI w o⟩
  · cases RR.str h1; cases RR.str h2
    split at o
    · rename_i hz
      refine .inr (.inl ⟨_, _, rfl, rfl, ?_, finS w o ?_⟩)
      · simpa [PySem.Str.length] using hz
      · exact Array.toList_append.trans (by simp only [List.toList_toArray])
    · exact o.elim
  · split at o
    · rename_i hz
      obtain ⟨a, vs, rfl, ka, va⟩ := RR.tup h1
      obtain ⟨b, ws, rfl, kb, vb⟩ := RR.tup h2
      refine .inr (.inr (.inl ⟨a, b, vs, ws, rfl, rfl, ka, kb, by rw [← va.length, ← vb.length]; exact hz, fun e => ?_, fun _ e => ?_, fun _ _ => newTup w (va.append vb) o⟩))
      · have := va.length; rw [e] at this
        rw [List.eq_nil_of_length_eq_zero this] at o
        exact finV w o h2
      · have := vb.length; rw [e] at this
        rw [List.eq_nil_of_length_eq_zero this, List.append_nil] at o
        exact finV w o h1
    · exact o.elim
  · exact .inr (.inr (.inr (cat_part w h1 h2 o)))
/-! ints -/
def opII (C : Int → Int → Prop) [∀ i j, Decidable (C i j)] (g : Int → Int → MV) (r1 r2 : RV) (s : MS) : Out RV :=
  match r1, r2 with
  | .v (.int i), .v (.int j) => if C i j then .ok (.v (g i j)) s else .bad
  | _, _ => .bad
theorem pr_II {R : RC} {C : Int → Int → Prop} [∀ i j, Decidable (C i j)] {g : Int → Int → MV} {gV : Int → Int → V} {r : R2} (hg : ∀ K G H i j, VR K G H (g i j) (gV i j)) (hr : ∀ i j H Q, C i j → Q (gV i j) H → r (.int i) (.int j) H Q) : PrimR R r (opII C g) := fun {F W σ G H G2 H2 s2 r1 r2 x y Q} w h1 h2 o => by
  unfold opII at o
  split at o
  · cases RR.int h1; cases RR.int h2
    split at o
    · rename_i hc
      exact hr _ _ _ _ hc (finV w o (hg _ _ _ _ _))
    · exact o.elim
  · exact o.elim
noncomputable instance : ∀ i j, Decidable (CMul i j) := fun _ _ => Classical.propDecidable _
noncomputable instance : ∀ i j, Decidable (CDiv i j) := fun _ _ => Classical.propDecidable _
noncomputable instance : ∀ i j, Decidable (CPow i j) := fun _ _ => Classical.propDecidable _
abbrev opSub := opII (fun _ _ => True) fun i j => .int (i - j)
noncomputable abbrev opMul := opII CMul fun i j => .int (i * j)
abbrev opMod := opII (fun _ j => 0 < j) fun i j => .int (i % j)
noncomputable abbrev opDiv := opII CDiv fun i j => .int (i / j)
noncomputable abbrev opPow := opII CPow fun i j => .int (i ^ j.toNat)
theorem pr_sub {R : RC} : PrimR R (rI0 fun i j => .int (i - j)) opSub := pr_II (fun _ _ _ _ _ => VR.mkInt) fun _ _ _ _ _ q => ⟨_, _, rfl, rfl, q⟩
theorem pr_mul {R : RC} : PrimR R (rI CMul fun i j => .int (i * j)) opMul := pr_II (fun _ _ _ _ _ => VR.mkInt) fun _ _ _ _ c q => ⟨_, _, rfl, rfl, c, q⟩
theorem pr_mod {R : RC} : PrimR R (rI (fun _ j => 0 < j) fun i j => .int (i % j)) opMod := pr_II (fun _ _ _ _ _ => VR.mkInt) fun _ _ _ _ c q => ⟨_, _, rfl, rfl, c, q⟩
theorem pr_div {R : RC} : PrimR R (rI CDiv fun i j => .int (i / j)) opDiv := pr_II (fun _ _ _ _ _ => VR.mkInt) fun _ _ _ _ c q => ⟨_, _, rfl, rfl, c, q⟩
theorem pr_pow {R : RC} : PrimR R (rI CPow fun i j => .int (i ^ j.toNat)) opPow := pr_II (fun _ _ _ _ _ => VR.mkInt) fun _ _ _ _ c q => ⟨_, _, rfl, rfl, c, q⟩
abbrev opLt := opII (fun _ _ => True) fun i j => .bl (decide (i < j))
abbrev opLe := opII (fun _ _ => True) fun i j => .bl (decide (i ≤ j))
abbrev opGt := opII (fun _ _ => True) fun i j => .bl (decide (j < i))
abbrev opGe := opII (fun _ _ => True) fun i j => .bl (decide (j ≤ i))
theorem pr_lt {R : RC} : PrimR R (rI0 fun i j => .bl (decide (i < j))) opLt := pr_II (fun _ _ _ _ _ => VR.mkBl) fun _ _ _ _ _ q => ⟨_, _, rfl, rfl, q⟩
theorem pr_le {R : RC} : PrimR R (rI0 fun i j => .bl (decide (i ≤ j))) opLe := pr_II (fun _ _ _ _ _ => VR.mkBl) fun _ _ _ _ _ q => ⟨_, _, rfl, rfl, q⟩
theorem pr_gt {R : RC} : PrimR R (rI0 fun i j => .bl (decide (j < i))) opGt := pr_II (fun _ _ _ _ _ => VR.mkBl) fun _ _ _ _ _ q => ⟨_, _, rfl, rfl, q⟩
theorem pr_ge {R : RC} : PrimR R (rI0 fun i j => .bl (decide (j ≤ i))) opGe := pr_II (fun _ _ _ _ _ => VR.mkBl) fun _ _ _ _ _ q => ⟨_, _, rfl, rfl, q⟩
/-! == of data -/
mutual
def pd : MV → Option PyData
  | .non => some .none
  | .bl b => some (.bool b)
  | .int i => some (.int i)
  | .str s => some (.str ⟨s.toArray⟩)
  | .tup xs => (pds xs).map .tuple
  | .lst xs => (pds xs).map .list
  | .dct _ _ => none
  | .ref _ => none
def pds : List MV → Option (List PyData)
  | [] => some []
  | x :: xs => match pd x, pds xs with | some d, some ds => some (d :: ds) | _, _ => none
end
mutual
theorem pd_ok {K : PySem.W.Frag} {G : Gh} {H : Hp} : ∀ (x : MV) (v : V) (d : PyData), VR K G H x v → pd x = some d → Dp K H v d
  | .non, _, _, h, e => by cases VR.non h; cases e; exact .non
  | .bl _, _, _, h, e => by cases VR.bl h; cases e; exact .bl _
  | .int _, _, _, h, e => by cases VR.int h; cases e; exact .int _
  | .str _, _, _, h, e => by cases VR.str h; cases e; exact .str _
  | .tup xs, _, _, h, e => by
    obtain ⟨a, vs, rfl, k, r⟩ := VR.tup h
    simp only [pd, Option.map_eq_some_iff] at e
    obtain ⟨ds, e1, rfl⟩ := e
    exact .tup k (pds_ok xs vs ds r e1)
  | .lst xs, _, _, h, e => by
    unfold VR at h
    obtain ⟨a, vs, rfl, k, r⟩ := h
    simp only [pd, Option.map_eq_some_iff] at e
    obtain ⟨ds, e1, rfl⟩ := e
    exact .lst k.sq (pds_ok xs vs ds r e1)
  | .dct _ _, _, _, _, e => by cases e
  | .ref _, _, _, _, e => by cases e
theorem pds_ok {K : PySem.W.Frag} {G : Gh} {H : Hp} : ∀ (x : List MV) (v : List V) (d : List PyData), VRs K G H x v → pds x = some d → DpAll K H v d
  | [], _, _, h, e => by unfold VRs at h; subst h; cases e; exact .nil
  | x :: xs, _, _, h, e => by
    obtain ⟨v, r, rfl, p, q⟩ := h.inv
    simp only [pds] at e
    split at e
    · rename_i d ds e1 e2
      cases e
      exact .cons (pd_ok x v d p e1) (pds_ok xs r ds q e2)
    · cases e
end
def rpd (s : MS) : RV → Option PyData
  | .v (.ref n) => match cont s (.v (.ref n)) with | some (.lst xs) => (pds xs).map .list | _ => none
  | .v x => pd x
  | r => match cont s r with | some (.lst xs) => (pds xs).map .list | _ => none
theorem rpd_ok {R : RC} {F : FI} {σ : L2.St} {G : Gh} {H Hs : Hp} {s : MS} {r : RV} {v : V} {d : PyData} (rel : Rel R F G s σ H) (rr : RR R σ Hs G H r v) (e : rpd s r = some d) : Dp R.K H v d := by
  have key : ∀ {xs : List MV}, cont s r = some (.lst xs) → (pds xs).map .list = some d → Dp R.K H v d := fun {xs} c q => by
    obtain ⟨a, rfl, vs, k, w⟩ := cont_ok rel rr c
    simp only [Option.map_eq_some_iff] at q
    obtain ⟨ds, e1, rfl⟩ := q
    exact .lst k (pds_ok xs vs ds w e1)
  unfold rpd at e
  split at e
  · split at e
    · rename_i xs c; exact key c e
    · cases e
  · exact pd_ok _ _ _ rr e
  · split at e
    · rename_i xs c; exact key c e
    · cases e
def opEqv (neg : Bool) (r1 r2 : RV) (s : MS) : Out RV := match rpd s r1, rpd s r2 with
  | some d, some e => if SeqAt.shaped d = true ∧ SeqAt.shaped e = true then .ok (.v (.bl (neg ^^ PyData.eqv d e))) s else .bad
  | _, _ => .bad
theorem pr_eqv {R : RC} : PrimR R (rEqD R.K) (opEqv false) := fun {F W σ G H G2 H2 s2 r1 r2 x y Q} w h1 h2 o => by
  unfold opEqv at o
  split at o
  · rename_i d e e1 e2
    split at o
    · rename_i hs
      refine ⟨d, e, rpd_ok w.rel h1 e1, rpd_ok w.rel h2 e2, hs.1, hs.2, ?_⟩
      have := finB w o
      simpa using this
    · exact o.elim
  · exact o.elim
theorem pr_nev {R : RC} : PrimR R (rNeD R.K) (opEqv true) := fun {F W σ G H G2 H2 s2 r1 r2 x y Q} w h1 h2 o => by
  unfold opEqv at o
  split at o
  · rename_i d e e1 e2
    split at o
    · rename_i hs
      refine ⟨d, e, rpd_ok w.rel h1 e1, rpd_ok w.rel h2 e2, hs.1, hs.2, ?_⟩
      have := finB w o
      simpa using this
    · exact o.elim
  · exact o.elim
end Mi
set_option Elab.async false
set_option linter.all false
set_option maxRecDepth 100000
set_option maxHeartbeats 4000000
namespace Mi
open PySem PySem.Spec PyProof.Rows L2

/-! sharing -/
def share (r : RV) (s : MS) : Out MV := match r with
  | .v x => .ok x s
  | .own c => if isLk c = true then .bad else .ok (frzC c) s
  | .loc i => match s.env[i]? with
    | some (some (.own c)) => if isLk c = true then .bad else .ok (frzC c) { s with env := s.env.set i (some (.v (frzC c))) }
    | _ => .bad
  | .fld _ _ => .bad
def shares : List RV → MS → Out (List MV)
  | [], s => .ok [] s
  | r :: rs, s => (share r s).bind fun x s1 => (shares rs s1).bind fun xs s2 => .ok (x :: xs) s2
section
variable {R : RC} {F : FI} {W : WX} {σ : L2.St} {G G1 : Gh} {H H1 : Hp} {s1 : MS}
theorem CR.frz {K : PySem.W.Frag} {a : Addr} {c : C} (nl : isLk c = false) (h : CR K G H c a) (g : G a = some .frz) : VR K G H (frzC c) (.ref a) := by
  cases c with
  | lst xs =>
    obtain ⟨vs, e, r⟩ := h
    show VR _ _ _ (.lst xs) _
    unfold VR
    exact ⟨a, vs, rfl, .inl ⟨g, .inl e⟩, r⟩
  | dict kvs =>
    obtain ⟨ho, e, r⟩ := h
    show VR _ _ _ (.dct _ _) _
    unfold VR
    exact ⟨a, ho, rfl, g, e, r⟩
  | lock kvs => cases nl
theorem share_noexc {r : RV} {c : Nat} {xs : List MV} {s2 : MS} : share r s1 ≠ .exc c xs s2 := by
  intro q
  cases r <;> simp only [share] at q <;> first | cases q | (split at q <;> first | cases q | (split at q <;> cases q))
/-- a result is shared: what is behind; only roles change -/
theorem share_ok {r : RV} {v : V} {x : MV} {s2 : MS} (w : Way R F σ G H G1 H1 s1) (rr : RR R σ H G1 H1 r v) (q : share r s1 = .ok x s2) :
    ∃ G2, Way R F σ G H G2 H1 s2 ∧ Mo G1 H1 G2 H1 ∧ VR R.K G2 H1 x v := by
  cases r with
  | v y => cases q; exact ⟨G1, w, ⟨fun _ g => ⟨g, rfl⟩, fun _ _ g => g, fun _ _ h => h⟩, rr⟩
  | own c =>
    simp only [share] at q
    split at q
    · cases q
    rename_i nl
    have nl : isLk c = false := by simpa using nl
    cases q
    obtain ⟨a, rfl, hn, g, cr⟩ := rr
    have h0 : F.H0 a = none := fresh_back w.st hn
    exact ⟨setG G1 a (some .frz), ⟨w.rel.setr g cr.there h0 (.inl rfl), w.evo.setr hn g, w.st⟩, Mo.setr g, CR.frz nl (cr.mono (Mo.setr g) rfl) setG_same⟩
  | loc i =>
    simp only [share] at q
    split at q
    · rename_i c hc
      split at q
      · cases q
      rename_i nl
      have nl : isLk c = false := by simpa using nl
      cases q
      obtain ⟨u, q, a, ev, g, cr⟩ := w.rel.env i _ hc
      have rr' : σ[i]? = some (some v) := rr
      rw [rr'] at q; cases q
      subst ev
      have m : Mo G1 H1 (setG G1 a (some .frz)) H1 := Mo.rerole g
      have vr := CR.frz nl (cr.mono m rfl) setG_same
      exact ⟨setG G1 a (some .frz), ⟨w.rel.rerole g (.inl rfl) rr' (sv := some (.v (frzC c))) fun x e => by cases e; exact vr, w.evo.rerole g, w.st⟩, m, vr⟩
    · cases q
  | fld n f => cases q
theorem share_way {r : RV} {v : V} {α β : Type} {L : RL α β} {k : MV → MS → Out α} {Q : β → Hp → Prop} (w : Way R F σ G H G1 H1 s1) (rr : RR R σ H G1 H1 r v) (o : OutX L R F W σ G H ((share r s1).bind k) Q) :
    ∃ x s2 G2, Way R F σ G H G2 H1 s2 ∧ Mo G1 H1 G2 H1 ∧ VR R.K G2 H1 x v ∧ OutX L R F W σ G H (k x s2) Q := by
  cases q : share r s1 with
  | ok x s2 =>
    rw [q] at o
    obtain ⟨G2, w2, m, vr⟩ := share_ok w rr q
    exact ⟨x, s2, G2, w2, m, vr, o⟩
  | exc c xs s2 => exact absurd q share_noexc
  | bad => rw [q] at o; exact o.elim
end
/-- an expression, its value shared -/
def mSh (f : ME) : MS → Out MV := fun s => (f s).bind fun r s1 => share r s1
theorem jv_of {X : Cx} {R : RC} {W : WX} {e : Expr} {f : ME} (h : JE X R W e f) : JV X R W e (mSh f) := fun hK F => PE.imp (h hK F) fun σ H Q q => by
  refine (first (M := rlE) q).mono fun y H1 ⟨G, r, s1, G1, w, rr, o⟩ => ?_
  have o' : OutX rlV R F W σ G H ((share r s1).bind fun x s2 => .ok x s2) Q := by
    cases q : share r s1 with
    | ok x s2 => rw [q] at o; exact o
    | exc c xs s2 => rw [q] at o; exact o
    | bad => rw [q] at o; exact o
  obtain ⟨x, s2, G2, w2, _, vr, o2⟩ := share_way w rr o'
  exact o2 _ _ _ w2.rel w2.evo vr

/-! arguments -/
section
variable {X : Cx} {R : RC} {W : WX} {pos : Pos}
theorem ja_nil : JA X R W [] (fun s => .ok [] s) := fun _ F => PA.imp pa_nil fun σ H Q ⟨G, s, rel, h⟩ => h G H _ rel .refl rfl
def mCons (f : ME) (fs : MS → Out (List RV)) : MS → Out (List RV) := fun s => (f s).bind fun r s1 => (fs s1).bind fun rs s2 => .ok (r :: rs) s2
theorem ja_cons {e : Expr} {es : List Expr} {f : ME} {fs : MS → Out (List RV)} (he : JE X R W e f) (hs : JA X R W es fs) (hst : starEach (e :: es) X.env = (false, eval e X.env) :: starEach es X.env := by rfl) : JA X R W (e :: es) (mCons f fs) := fun hK F =>
  PA.imp (pa_cons (he hK F) (hs hK F) hst) fun σ H Q h => by
    refine (first (M := rlE) h).mono fun x H1 ⟨G, r1, s1, G1, w, rr, o⟩ => ?_
    exact (next (M := rlR) w o).mono fun ys H2 ⟨rs, s2, G2, w2, e12, rr2, o2⟩ => o2 _ _ _ w2.rel w2.evo ⟨x, ys, rfl, rr.mono e12, rr2⟩
/-- all arguments shared -/
def JAs (X : Cx) (R : RC) (W : WX) (es : List Expr) (f : MS → Out (List MV)) : Prop := R.K = X.K → ∀ F, PA X es (tVs R F W f)
theorem jas_nil : JAs X R W [] (fun s => .ok [] s) := fun _ F => PA.imp pa_nil fun σ H Q ⟨G, s, rel, h⟩ => h G H _ rel .refl (VRs.nil (K := R.K) (G := G) (H := H))
def mConsS (f : ME) (fs : MS → Out (List MV)) : MS → Out (List MV) := fun s => (mSh f s).bind fun r s1 => (fs s1).bind fun rs s2 => .ok (r :: rs) s2
theorem jas_cons {e : Expr} {es : List Expr} {f : ME} {fs : MS → Out (List MV)} (he : JE X R W e f) (hs : JAs X R W es fs) (hst : starEach (e :: es) X.env = (false, eval e X.env) :: starEach es X.env := by rfl) : JAs X R W (e :: es) (mConsS f fs) := fun hK F =>
  PA.imp (pa_cons (jv_of he hK F) (hs hK F) hst) fun σ H Q h => by
    refine (first (M := rlV) h).mono fun x H1 ⟨G, r1, s1, G1, w, rr, o⟩ => ?_
    exact (next (M := rlS) w o).mono fun ys H2 ⟨rs, s2, G2, w2, e12, rr2, o2⟩ => o2 _ _ _ w2.rel w2.evo (VRs.cons (VR.mono e12.mo _ _ rr) rr2)
/-! displays -/
def mTup (fs : MS → Out (List MV)) : ME := fun s => (fs s).bind fun xs s1 => if xs.length ≤ sizeLine then .ok (.v (.tup xs)) s1 else .bad
def mLst (fs : MS → Out (List MV)) : ME := fun s => (fs s).bind fun xs s1 => if xs.length ≤ sizeLine then .ok (.own (.lst xs)) s1 else .bad
theorem je_tup {es : List Expr} {fs : MS → Out (List MV)} {x1} (h : JAs X R W es fs) : JE X R W (.Tuple es x1 pos) (mTup fs) := fun hK F => PE.imp (pe_tup (h hK F)) fun σ H Q q => by
  refine (first (M := rlS) q).mono fun vs H1 ⟨G, xs, s1, G1, w, rr, o⟩ => ?_
  split at o
  · rename_i hz
    exact ⟨by rw [← VRs.length rr]; exact hz, newTup w rr o⟩
  · exact o.elim
theorem je_lst {es : List Expr} {fs : MS → Out (List MV)} (h : JAs X R W es fs) : JE X R W (.List es pos) (mLst fs) := fun hK F => PE.imp (pe_lst (h hK F)) fun σ H Q q => by
  refine (first (M := rlS) q).mono fun vs H1 ⟨G, xs, s1, G1, w, rr, o⟩ => ?_
  split at o
  · rename_i hz
    exact ⟨by rw [← VRs.length rr]; exact hz, newLst w rr o⟩
  · exact o.elim
/-- a new list with an address of its own in the mini heap -/
def mBox (f : ME) : ME := fun s => (f s).bind fun r s1 => match r with
  | .own c => .ok (.v (.ref s1.hp.length)) { s1 with hp := s1.hp ++ [.box c] }
  | _ => .bad
theorem HRel.push {R : RC} {G : Gh} {H : Hp} {hp : List MO} {a : Addr} {o : MO} (h : HRel R G hp H) (g : G a = none) (ha : ∃ u, H a = some u) (new : ORel R (setG G a (some (.obj hp.length))) H a hp.length o) : HRel R (setG G a (some (.obj hp.length))) (hp ++ [o]) H := by
  have ne : ∀ b, G b ≠ none → b ≠ a := fun b hb z => hb (z ▸ g)
  have m : Mo G H (setG G a (some (.obj hp.length))) H := Mo.setr g
  refine ⟨fun n u e => ?_, fun b c n hb hc => ?_, fun b n e => ?_, fun b n f e => ?_, fun b r e => ?_, h.tabs.mono m (fun b e => ⟨by rw [setG_ne (ne b (by rw [e]; simp))]; exact e, rfl⟩) fun b e => ?_⟩
  · by_cases hn : n < hp.length
    · rw [List.getElem?_append_left hn] at e
      obtain ⟨b, gb, r⟩ := h.objs n u e
      exact ⟨b, m.ob b n gb, r.mono m rfl fun c f gc => ⟨by rw [setG_ne (ne c (by rw [gc]; simp))]; exact gc, rfl⟩⟩
    · rw [List.getElem?_append_right (by omega)] at e
      have hn' : n = hp.length := by
        have := (List.getElem?_eq_some_iff.mp e).1
        simp at this; omega
      subst hn'
      simp at e; subst e
      exact ⟨a, setG_same, new⟩
  · by_cases zb : b = a
    · by_cases zc : c = a
      · rw [zb, zc]
      · rw [zb, setG_same] at hb; cases hb
        rw [setG_ne zc] at hc
        exact absurd (h.lt c _ hc) (Nat.lt_irrefl _)
    · rw [setG_ne zb] at hb
      by_cases zc : c = a
      · rw [zc, setG_same] at hc; cases hc
        exact absurd (h.lt b _ hb) (Nat.lt_irrefl _)
      · rw [setG_ne zc] at hc; exact h.uniq b c n hb hc
  · by_cases zb : b = a
    · rw [zb, setG_same] at e; cases e; simp
    · rw [setG_ne zb] at e; have := h.lt b n e; simp; omega
  · have zb : b ≠ a := fun z => by rw [z, setG_same] at e; cases e
    rw [setG_ne zb] at e
    obtain ⟨c, cl, fs, dx, hfs, nm, gc, hn, q⟩ := h.fldOk b n f e
    refine ⟨c, cl, fs, dx, hfs, nm, m.ob c n gc, ?_, q⟩
    rw [List.getElem?_append_left (h.lt c n gc)]; exact hn
  · by_cases zb : b = a
    · rw [zb]; exact ha
    · rw [setG_ne zb] at e; exact h.live b r e
  · by_cases zb : b = a
    · rw [zb, setG_same] at e; cases e
    · rw [setG_ne zb] at e; exact e
theorem je_box {e : Expr} {f : ME} (h : JE X R W e f) : JE X R W e (mBox f) := fun hK F => PE.imp (h hK F) fun σ H Q q => by
  refine (first (M := rlE) q).mono fun y H1 ⟨G, r, s1, G1, w, rr, o⟩ => ?_
  split at o
  · rename_i c
    obtain ⟨a, rfl, hn, g, cr⟩ := rr
    have h0 : F.H0 a = none := fresh_back w.st hn
    have m : Mo G1 H1 (setG G1 a (some (.obj s1.hp.length))) H1 := Mo.setr g
    refine o (setG G1 a (some (.obj s1.hp.length))) H1 _ ⟨w.rel.hp.push g cr.there (cr.mono m rfl), w.rel.len, fun i sv q => ?_, w.rel.since.setr h0 g, w.rel.base, Nat.le_trans w.rel.le (by simp), w.rel.ent⟩ (w.evo.setr hn g) ?_
    · obtain ⟨v, q1, k⟩ := w.rel.env i sv q
      refine ⟨v, q1, ?_⟩
      cases sv with
      | v x => exact VR.mono m x v k
      | own c =>
        obtain ⟨b, q2, gb, k⟩ := k
        exact ⟨b, q2, by rw [setG_ne fun z => by rw [z, g] at gb; cases gb]; exact gb, k.mono m rfl⟩
    · show VR _ _ _ _ _
      unfold VR
      exact ⟨a, rfl, setG_same⟩
  · exact o.elim
end
end Mi
set_option Elab.async false
set_option linter.all false
set_option maxRecDepth 100000
set_option maxHeartbeats 4000000
namespace Mi
open PySem PySem.Spec PyProof.Rows L2
/-- the content at a place that may be written -/
def place (s : MS) : RV → Option C
  | .loc i => match s.env[i]? with | some (some (.own c)) => some c | _ => none
  | .fld n f => match s.hp[n]? with
    | some (.inst _ fs) => match fs[f]? with | some (some (.own c)) => some c | _ => none
    | _ => none
  | .v (.ref n) => match s.hp[n]? with | some (.box c) => some c | _ => none
  | _ => none
def putFld (hp : List MO) (n f : Nat) (sv : Option SV) : List MO := match hp[n]? with
  | some (.inst c fs) => hp.set n (.inst c (fs.set f sv))
  | _ => hp
def putC (s : MS) (r : RV) (c : C) : MS := match r with
  | .loc i => { s with env := s.env.set i (some (.own c)) }
  | .fld n f => { s with hp := putFld s.hp n f (some (.own c)) }
  | .v (.ref n) => { s with hp := s.hp.set n (.box c) }
  | _ => s
section
variable {R : RC} {F : FI} {σ : L2.St} {G : Gh} {H : Hp} {s : MS} {Hs : Hp}
theorem HRel.role {hp : List MO} {a b : Addr} {n : Nat} (h : HRel R G hp H) (ga : G a = some (.obj n)) (gb : G b = some (.obj n)) : a = b := h.uniq a b n ga gb
/-- one object of the heap is written: at a, the object n's, or a field's container of it -/
theorem HRel.put {hp : List MO} {a b : Addr} {n : Nat} {o : MO} {ho : HO} (h : HRel R G hp H) (ga : G a = some (.obj n)) (hb : b = a ∨ ∃ f, G b = some (.fld n f)) (new : ORel R G (L2.upd H b ho) a n o)
    (fl : ∀ c f, G c = some (.fld n f) → ∃ cl fs dx hfs nm, o = .inst cl fs ∧ (L2.upd H b ho) a = some (.ins (R.cls cl) dx hfs) ∧ (R.flds cl)[f]? = some nm ∧ hfs.lookup nm = some (.ref c) ∧ ∃ C, fs[f]? = some (some (.own C))) (nt : NT H b := by first | exact ntN (by assumption) | exact ntO (by assumption)) : HRel R G (hp.set n o) (L2.upd H b ho) := by
  have gbn : ∃ r, G b = some r ∧ r ≠ .frz ∧ (∀ m, r = .obj m → m = n) ∧ (∀ m f, r = .fld m f → m = n) := by
    rcases hb with rfl | ⟨f, g⟩
    · refine ⟨_, ga, by simp, ?_, ?_⟩
      · intro m e; cases e; rfl
      · intro m f e; cases e
    · refine ⟨_, g, by simp, ?_, ?_⟩
      · intro m e; cases e
      · intro m f' e; cases e; rfl
  obtain ⟨r, gr, nf, no, nfl⟩ := gbn
  have m : Mo G H G (L2.upd H b ho) := Mo.upd (by rw [gr]; intro z; cases z; exact nf rfl) nt
  refine ⟨fun k u e => ?_, h.uniq, fun c k gc => by rw [List.length_set]; exact h.lt c k gc, fun c k f gc => ?_, fun c q gc => ?_, h.tabs.mono m (fun c gc => ⟨gc, upd_ne fun z => ?_⟩) fun _ e => e⟩
  · by_cases hk : k = n
    · subst hk
      have hl : k < hp.length := h.lt a k ga
      rw [List.getElem?_set_self hl] at e
      cases e
      exact ⟨a, ga, new⟩
    · rw [List.getElem?_set_ne (Ne.symm hk)] at e
      obtain ⟨c, gc, q⟩ := h.objs k u e
      refine ⟨c, gc, q.mono m ?_ fun d f gd => ⟨gd, ?_⟩⟩
      · exact upd_ne fun z => hk (by rw [z, gr] at gc; exact no k (Option.some.inj gc))
      · exact upd_ne fun z => hk (by rw [z, gr] at gd; exact nfl k f (Option.some.inj gd))
  · by_cases hk : k = n
    · subst hk
      obtain ⟨cl, fs, dx, hfs, nm, e, q⟩ := fl c f gc
      exact ⟨a, cl, fs, dx, hfs, nm, ga, by rw [List.getElem?_set_self (h.lt a k ga), e], q⟩
    · obtain ⟨d, cl, fs, dx, hfs, nm, gd, hn, hd, q⟩ := h.fldOk c k f gc
      refine ⟨d, cl, fs, dx, hfs, nm, gd, by rw [List.getElem?_set_ne (Ne.symm hk)]; exact hn, ?_, q⟩
      exact (upd_ne fun z => hk (by rw [z, gr] at gd; exact no k (Option.some.inj gd))).trans hd
  · by_cases z : c = b
    · subst z; exact ⟨_, upd_same⟩
    · rw [upd_ne z]; exact h.live c q gc
  · rw [z] at gc
    rcases hb with rfl | ⟨f, g⟩
    · rw [ga] at gc; cases gc
    · rw [g] at gc; cases gc
/-- the slots stay -/
theorem env_keep {G' : Gh} {H' : Hp} {env : List (Option SV)} (m : Mo G H G' H') (h : ∀ i sv, env[i]? = some (some sv) → ∃ v, σ[i]? = some (some v) ∧ LSlot R G H i sv v) (hl : ∀ a i, G a = some (.loc i) → G' a = some (.loc i) ∧ H' a = H a) :
    ∀ i sv, env[i]? = some (some sv) → ∃ v, σ[i]? = some (some v) ∧ LSlot R G' H' i sv v := fun i sv e => by
  obtain ⟨v, q, k⟩ := h i sv e
  refine ⟨v, q, ?_⟩
  cases sv with
  | v x => exact VR.mono m x v k
  | own c =>
    obtain ⟨b, q2, gb, k⟩ := k
    exact ⟨b, q2, (hl b i gb).1, k.mono m (hl b i gb).2⟩
theorem place_cont {r : RV} {c : C} (e : place s r = some c) : cont s r = some c := by
  cases r with
  | loc i => exact e
  | fld n f => exact e
  | own c => cases e
  | v x => cases x <;> first | exact e | cases e
/-- a write at a place -/
theorem put_ok {r : RV} {v : V} {c c' : C} (rel : Rel R F G s σ H) (rr : RR R σ Hs G H r v) (e : place s r = some c) (nl : isLk c = false := by rfl) : ∃ a, v = .ref a ∧ CR R.K G H c a ∧ (∃ q, G a = some q ∧ q ≠ .frz) ∧
    ∀ ho, CR R.K G (upd H a ho) c' a → Rel R F G (putC s r c') σ (upd H a ho) := by
  cases r with
  | own c => cases e
  | loc i =>
    simp only [place] at e
    split at e
    · rename_i c0 hc
      cases e
      obtain ⟨u, q, a, ev, g, cr⟩ := rel.env i _ hc
      have rr' : σ[i]? = some (some v) := rr
      rw [rr'] at q; cases q
      subst ev
      refine ⟨a, rfl, cr, ⟨_, g, by simp⟩, fun ho new => ?_⟩
      have m : Mo G H G (upd H a ho) := Mo.upd (by rw [g]; simp) cr.nt
      refine ⟨rel.hp.upd (.inr ⟨i, g⟩) cr.nt, by simpa [putC] using rel.len, fun j sv ej => ?_, rel.since.trans (Evo.updRole (by rw [g]; simp) (by rw [g]; simp) (CR.nf nl cr) cr.nt), rel.base, rel.le, rel.ent⟩
      have hl : i < s.env.length := by rw [rel.len]; exact (List.getElem?_eq_some_iff.mp rr').1
      by_cases z : j = i
      · subst z
        simp only [putC, List.getElem?_set_self hl] at ej
        cases ej
        exact ⟨_, rr', a, rfl, g, new⟩
      · simp only [putC, List.getElem?_set_ne (Ne.symm z)] at ej
        obtain ⟨w, q, k⟩ := rel.env j sv ej
        refine ⟨w, q, ?_⟩
        cases sv with
        | v x => exact VR.mono m x w k
        | own c =>
          obtain ⟨b, q2, gb, k⟩ := k
          exact ⟨b, q2, gb, k.mono m (upd_ne fun y => z (by rw [y, g] at gb; cases gb; rfl))⟩
    · cases e
  | fld n f =>
    simp only [place] at e
    split at e
    · rename_i cl fs hn
      split at e
      · rename_i c0 hc
        cases e
        obtain ⟨b, ev, gb⟩ := rr
        obtain ⟨a, ga, dx, hfs, ha, hlen, hf, hno, hln, hnd, hks⟩ := rel.hp.objs n _ hn
        obtain ⟨a', cl2, fs2, dx', hfs', nm, ga', hn2, ha', hnm, hl, _⟩ := rel.hp.fldOk b n f gb
        have ea := rel.hp.uniq _ _ _ ga ga'
        subst ea
        rw [hn] at hn2
        cases hn2
        rw [ha] at ha'
        cases ha'
        have fs1 := hf f _ hnm
        rw [hc, hl] at fs1
        obtain ⟨b', hb', gb', cr⟩ := fs1
        cases hb'
        subst ev
        refine ⟨b, rfl, cr, ⟨_, gb, by simp⟩, fun ho new => ?_⟩
        have m : Mo G H G (upd H b ho) := Mo.upd (by rw [gb]; simp) cr.nt
        have nab : a ≠ b := fun z => by rw [z, gb] at ga; cases ga
        have flt : f < fs.length := (List.getElem?_eq_some_iff.mp hc).1
        refine ⟨?_, rel.len, ?_, rel.since.trans (Evo.updRole (by rw [gb]; simp) (by rw [gb]; simp) (CR.nf nl cr) cr.nt), rel.base, ?_, rel.ent⟩
        · show HRel R G (putFld s.hp n f _) _
          unfold putFld
          rw [hn]
          refine rel.hp.put ga (.inr ⟨f, gb⟩) ⟨dx, hfs, (upd_ne nab).trans ha, by simpa using hlen, fun g nm' eg => ?_, hno, hln, hnd, hks⟩ (fun c g gc => ?_) cr.nt
          · by_cases z : g = f
            · subst z
              rw [List.getElem?_set_self flt]
              rw [hnm] at eg; cases eg
              exact ⟨b, hl, gb, new⟩
            · rw [List.getElem?_set_ne (Ne.symm z)]
              exact (hf g nm' eg).mono m fun d gd => ⟨gd, upd_ne fun y => z (by rw [y, gb] at gd; cases gd; rfl)⟩
          · obtain ⟨a3, cl3, fs3, dx3, hfs3, nm3, ga3, hn3, ha3, q3⟩ := rel.hp.fldOk c n g gc
            have ea3 := rel.hp.uniq _ _ _ ga ga3
            subst ea3
            rw [hn] at hn3; cases hn3
            rw [ha] at ha3; cases ha3
            obtain ⟨q31, q32, C, q33⟩ := q3
            refine ⟨_, _, dx, hfs, nm3, rfl, (upd_ne nab).trans ha, q31, q32, ?_⟩
            by_cases z : g = f
            · subst z; exact ⟨_, List.getElem?_set_self flt⟩
            · exact ⟨C, by rw [List.getElem?_set_ne (Ne.symm z)]; exact q33⟩
        · exact env_keep m rel.env fun d i gd => ⟨gd, upd_ne fun y => by rw [y, gb] at gd; cases gd⟩
        · show F.base ≤ (putFld s.hp n f _).length
          unfold putFld
          rw [hn]
          simpa using rel.le
      · cases e
    · cases e
  | v x =>
    cases x with
    | ref n =>
      simp only [place] at e
      split at e
      · rename_i c0 hc
        cases e
        have rr' : VR R.K G H (.ref n) v := rr
        unfold VR at rr'
        obtain ⟨a, q, g⟩ := rr'
        obtain ⟨a', ga', cr⟩ := rel.hp.objs n _ hc
        have ea := rel.hp.uniq _ _ _ g ga'
        subst ea
        subst q
        refine ⟨a, rfl, cr, ⟨_, g, by simp⟩, fun ho new => ?_⟩
        have m : Mo G H G (upd H a ho) := Mo.upd (by rw [g]; simp) cr.nt
        refine ⟨rel.hp.put g (.inl rfl) new (fun c f gc => ?_) cr.nt, rel.len, env_keep m rel.env fun d i gd => ⟨gd, upd_ne fun y => by rw [y, g] at gd; cases gd⟩, rel.since.trans (Evo.updRole (by rw [g]; simp) (by rw [g]; simp) (CR.nf nl cr) cr.nt), rel.base, by simpa [putC] using rel.le, rel.ent⟩
        obtain ⟨a3, cl3, fs3, dx3, hfs3, nm3, ga3, hn3, q3⟩ := rel.hp.fldOk c n f gc
        rw [hc] at hn3; cases hn3
      · cases e
    | non => cases e
    | bl b => cases e
    | int i => cases e
    | str s => cases e
    | tup xs => cases e
    | lst xs => cases e
    | dct a b => cases e
end
end Mi
set_option Elab.async false
set_option linter.all false
set_option maxRecDepth 100000
set_option maxHeartbeats 4000000
namespace Mi
open PySem PySem.Spec PyProof.Rows L2
theorem op_in_str1 {X : Cx} : OpR X (compareOp .In) (fun x y H Q => ∃ i j, x = .str i ∧ y = .str j ∧ Q (.bl (!(Builtin.Str.occurrences j i 0 j.length 1).isEmpty)) H) := L2.op_in_str
section
variable {X : Cx} {R : RC} {W : WX} {pos : Pos}
/-! built-ins by their arguments -/
def PrimC (R : RC) (r : List V → Hp → VK → Prop) (p : List RV → MS → Out RV) : Prop := ∀ {F : FI} {W : WX} {σ : L2.St} {G : Gh} {H : Hp} {G2 : Gh} {H2 : Hp} {s2 : MS} {rs : List RV} {vs : List V} {Q : VK},
  Way R F σ G H G2 H2 s2 → RRs R σ H G2 H2 rs vs → OutX rlE R F W σ G H (p rs s2) Q → r vs H2 Q
def mCallB (p : List RV → MS → Out RV) (fa : MS → Out (List RV)) : ME := fun s => (fa s).bind p
theorem tCallB {F : FI} {r : List V → Hp → VK → Prop} {p : List RV → MS → Out RV} {fa : MS → Out (List RV)} (pr : PrimC R r p) : ∀ σ H Q, tE R F W (mCallB p fa) σ H Q → tCB r (tR R F W fa) σ H Q := fun σ H Q h =>
  (first (M := rlR) h).mono fun vs H1 ⟨G, rs, s1, G1, w, rr, o⟩ => pr w rr o
theorem je_callB {x : Str} {id : String} {r : List V → Hp → VK → Prop} {p : List RV → MS → Out RV} {e : Expr} {es : List Expr} {fa : MS → Out (List RV)} {pp : Pos} (hc : CallR X (.builtin id) r) (pr : R.K = X.K → PrimC R r p) (hm : X.mg x = none) (hv : bootBuiltins x = some (.builtin id)) (ha : JA X R W (e :: es) fa) (hg : Gl X x := by rfl)
    (hn : x ≠ "__name__" := by decide) (hdb : (x == ("__debug__" : Str)) = false := by decide) (he : starEach (e :: es) X.env = (false, eval e X.env) :: starEach es X.env := by rfl) (hpl : (backTo pos (starEach es X.env)).any (·.1) = false := by rfl) :
    JE X R W (.Call (.Name x pp) (e :: es) [] pos) (mCallB p fa) := fun hK F => PE.imp (pe_callB hc hg hm hv (ha hK F) hn hdb he hpl) (tCallB (pr hK))
theorem je_callTy {x : Str} {T : String} {r : List V → Hp → VK → Prop} {p : List RV → MS → Out RV} {e : Expr} {es : List Expr} {fa : MS → Out (List RV)} {pp : Pos} (hc : CallR X (.type T) r) (pr : R.K = X.K → PrimC R r p) (hm : X.mg x = none) (hv : bootBuiltins x = some (.type T)) (ha : JA X R W (e :: es) fa) (hg : Gl X x := by rfl)
    (hn : x ≠ "__name__" := by decide) (hdb : (x == ("__debug__" : Str)) = false := by decide) (he : starEach (e :: es) X.env = (false, eval e X.env) :: starEach es X.env := by rfl) (hpl : (backTo pos (starEach es X.env)).any (·.1) = false := by rfl) :
    JE X R W (.Call (.Name x pp) (e :: es) [] pos) (mCallB p fa) := fun hK F => PE.imp (pe_callTy hc hg hm hv (ha hK F) hn hdb he hpl) (tCallB (pr hK))

/-! what is in it -/
theorem CRd.sq {K : PySem.W.Frag} {G : Gh} {H : Hp} {xs : List MV} {a : Addr} (h : CRd K G H (.lst xs) a) : ∃ vs, SqL K H a vs ∧ VRs K G H xs vs := h
/-- list or tuple -/
def seqOf (s : MS) : RV → Option (List MV)
  | .v (.tup xs) => some xs
  | r => match cont s r with | some (.lst xs) => some xs | _ => none
theorem seq_ok {F : FI} {σ : L2.St} {G : Gh} {H Hs : Hp} {s : MS} {r : RV} {v : V} {xs : List MV} (rel : Rel R F G s σ H) (rr : RR R σ Hs G H r v) (e : seqOf s r = some xs) : ∃ a vs, v = .ref a ∧ (SqL R.K H a vs ∨ SqT R.K H a vs) ∧ VRs R.K G H xs vs := by
  unfold seqOf at e
  split at e
  · cases e
    obtain ⟨a, vs, q, k, h⟩ := RR.tup rr
    exact ⟨a, vs, q, .inr k, h⟩
  · split at e
    · rename_i ys c
      cases e
      obtain ⟨a, q, cr⟩ := cont_ok rel rr c
      obtain ⟨vs, k, h⟩ := cr.sq
      exact ⟨a, vs, q, .inl k, h⟩
    · cases e
/-! len -/
def pLen (rs : List RV) (s : MS) : Out RV := match rs with
  | [.v (.str z)] => if z.length ≤ sizeLine then .ok (.v (.int z.length)) s else .bad
  | [r] => match seqOf s r with
    | some xs => .ok (.v (.int xs.length)) s
    | none => .bad
  | _ => .bad
theorem pr_len : PrimC R (fun xs H Q => ∃ x n, xs = [x] ∧ LenV R.K x H n ∧ Q (.int n) H) pLen := fun {F W σ G H G2 H2 s2 rs vs Q} w rr o => by
  unfold pLen at o
  split at o
  · obtain ⟨v, t, rfl, r1, rfl⟩ := rr
    cases RR.str r1
    split at o
    · rename_i z hz
      exact ⟨_, z.length, rfl, ⟨by simpa [PySem.Str.length] using hz, by simp [PySem.Str.length]⟩, finI w o⟩
    · exact o.elim
  · obtain ⟨v, t, rfl, r1, rfl⟩ := rr
    split at o
    · rename_i xs hx
      obtain ⟨a, ws, rfl, k, h⟩ := seq_ok w.rel r1 hx
      refine ⟨_, xs.length, rfl, ?_, finI w o⟩
      rcases k with k | k
      · exact .inl ⟨ws, k, h.length⟩
      · exact .inr ⟨ws, k, h.length⟩
    · exact o.elim
  · exact o.elim
/-! abs, max, min, int, ord -/
def pInt1 (C : Int → Prop) [∀ i, Decidable (C i)] (g : Int → MV) (rs : List RV) (s : MS) : Out RV := match rs with
  | [.v (.int i)] => if C i then .ok (.v (g i)) s else .bad
  | _ => .bad
def pInt2 (g : Int → Int → MV) (rs : List RV) (s : MS) : Out RV := match rs with
  | [.v (.int i), .v (.int j)] => .ok (.v (g i j)) s
  | _ => .bad
abbrev pAbs := pInt1 (fun _ => True) fun i => .int (if i < 0 then -i else i)
abbrev pMax := pInt2 fun i j => .int (if j > i then j else i)
abbrev pMin := pInt2 fun i j => .int (if j < i then j else i)
theorem pr_abs : PrimC R (fun xs H Q => ∃ i, xs = [.int i] ∧ Q (.int (if i < 0 then -i else i)) H) pAbs := fun {F W σ G H G2 H2 s2 rs vs Q} w rr o => by
  unfold pAbs pInt1 at o
  split at o
  · obtain ⟨v, t, rfl, r1, rfl⟩ := rr
    cases RR.int r1
    rw [if_pos trivial] at o
    exact ⟨_, rfl, finI w o⟩
  · exact o.elim
theorem pr_int2 {g : Int → Int → Int} : PrimC R (fun xs H Q => ∃ i j, xs = [.int i, .int j] ∧ Q (.int (g i j)) H) (pInt2 fun i j => .int (g i j)) := fun {F W σ G H G2 H2 s2 rs vs Q} w rr o => by
  unfold pInt2 at o
  split at o
  · obtain ⟨v, t, rfl, r1, v2, t2, rfl, r2, rfl⟩ := rr
    cases RR.int r1
    cases RR.int r2
    exact ⟨_, _, rfl, finI w o⟩
  · exact o.elim
def pInt (rs : List RV) (s : MS) : Out RV := match rs with
  | [.v (.int i)] => .ok (.v (.int i)) s
  | [.v (.bl b)] => .ok (.v (.int (if b then 1 else 0))) s
  | _ => .bad
theorem pr_int : PrimC R (fun xs H Q => (∃ i, xs = [.int i] ∧ Q (.int i) H) ∨ ∃ k, xs = [.bl k] ∧ Q (.int (if k then 1 else 0)) H) pInt := fun {F W σ G H G2 H2 s2 rs vs Q} w rr o => by
  unfold pInt at o
  split at o
  · obtain ⟨v, t, rfl, r1, rfl⟩ := rr
    cases RR.int r1
    exact .inl ⟨_, rfl, finI w o⟩
  · obtain ⟨v, t, rfl, r1, rfl⟩ := rr
    cases RR.bl r1
    exact .inr ⟨_, rfl, finI w o⟩
  · exact o.elim
def pOrd (rs : List RV) (s : MS) : Out RV := match rs with
  | [.v (.str [c])] => .ok (.v (.int c)) s
  | _ => .bad
theorem pr_ord : PrimC R (fun xs H Q => ∃ x, xs = [.str x] ∧ x.length = 1 ∧ Q (.int (x.cps.getD 0 0 : Nat)) H) pOrd := fun {F W σ G H G2 H2 s2 rs vs Q} w rr o => by
  unfold pOrd at o
  split at o
  · obtain ⟨v, t, rfl, r1, rfl⟩ := rr
    cases RR.str r1
    exact ⟨_, rfl, rfl, finI w o⟩
  · exact o.elim
/-! sum, all, any -/
def intsOf : List MV → Option (List Int)
  | [] => some []
  | .int i :: r => (intsOf r).map (i :: ·)
  | _ => none
theorem ints_ok {K : PySem.W.Frag} {G : Gh} {H : Hp} : ∀ {xs : List MV} {vs : List V} {ns : List Int}, VRs K G H xs vs → intsOf xs = some ns → vs = ns.map V.int
  | [], _, _, h, e => by unfold VRs at h; cases e; exact h
  | x :: xs, _, ns, h, e => by
    obtain ⟨v, r, rfl, p, q⟩ := h.inv
    cases x with
    | int i =>
      simp only [intsOf, Option.map_eq_some_iff] at e
      obtain ⟨ms, e1, rfl⟩ := e
      cases VR.int p
      rw [ints_ok q e1]; rfl
    | _ => cases e
def blsOf : List MV → Option (List Bool)
  | [] => some []
  | .bl i :: r => (blsOf r).map (i :: ·)
  | _ => none
theorem bls_ok {K : PySem.W.Frag} {G : Gh} {H : Hp} : ∀ {xs : List MV} {vs : List V} {ns : List Bool}, VRs K G H xs vs → blsOf xs = some ns → vs = ns.map V.bl
  | [], _, _, h, e => by unfold VRs at h; cases e; exact h
  | x :: xs, _, ns, h, e => by
    obtain ⟨v, r, rfl, p, q⟩ := h.inv
    cases x with
    | bl i =>
      simp only [blsOf, Option.map_eq_some_iff] at e
      obtain ⟨ms, e1, rfl⟩ := e
      cases VR.bl p
      rw [bls_ok q e1]; rfl
    | _ => cases e
def strsOf : List MV → Option (List (List Nat))
  | [] => some []
  | .str i :: r => (strsOf r).map (i :: ·)
  | _ => none
theorem strs_ok {K : PySem.W.Frag} {G : Gh} {H : Hp} : ∀ {xs : List MV} {vs : List V} {ns : List (List Nat)}, VRs K G H xs vs → strsOf xs = some ns → vs = (ns.map fun s => (⟨s.toArray⟩ : Str)).map V.str
  | [], _, _, h, e => by unfold VRs at h; cases e; exact h
  | x :: xs, _, ns, h, e => by
    obtain ⟨v, r, rfl, p, q⟩ := h.inv
    cases x with
    | str i =>
      simp only [strsOf, Option.map_eq_some_iff] at e
      obtain ⟨ms, e1, rfl⟩ := e
      cases VR.str p
      rw [strs_ok q e1]; rfl
    | _ => cases e
def lstOf (s : MS) (r : RV) : Option (List MV) := match cont s r with | some (.lst xs) => some xs | _ => none
theorem lst_ok {F : FI} {σ : L2.St} {G : Gh} {H Hs : Hp} {s : MS} {r : RV} {v : V} {xs : List MV} (rel : Rel R F G s σ H) (rr : RR R σ Hs G H r v) (e : lstOf s r = some xs) : ∃ a vs, v = .ref a ∧ SqL R.K H a vs ∧ VRs R.K G H xs vs := by
  unfold lstOf at e
  split at e
  · rename_i ys c
    cases e
    obtain ⟨a, q, cr⟩ := cont_ok rel rr c
    obtain ⟨vs, k, h⟩ := cr.sq
    exact ⟨a, vs, q, k, h⟩
  · cases e
def pSum (rs : List RV) (s : MS) : Out RV := match rs with
  | [r] => match (lstOf s r).bind intsOf with | some ns => .ok (.v (.int ns.sum)) s | none => .bad
  | _ => .bad
theorem pr_sum : PrimC R (rSum R.K) pSum := fun {F W σ G H G2 H2 s2 rs vs Q} w rr o => by
  unfold pSum at o
  split at o
  · obtain ⟨v, t, rfl, r1, rfl⟩ := rr
    split at o
    · rename_i ns e
      obtain ⟨xs, e1, e2⟩ := Option.bind_eq_some_iff.mp e
      obtain ⟨a, ws, rfl, k, h⟩ := lst_ok w.rel r1 e1
      rw [ints_ok h e2] at k
      exact ⟨a, ns, rfl, k, finI w o⟩
    · exact o.elim
  · exact o.elim
def pAll (f : List Bool → Bool) (rs : List RV) (s : MS) : Out RV := match rs with
  | [r] => match (lstOf s r).bind blsOf with | some ns => .ok (.v (.bl (f ns))) s | none => .bad
  | _ => .bad
theorem pr_all : PrimC R (rAll R.K) (pAll (·.all id)) := fun {F W σ G H G2 H2 s2 rs vs Q} w rr o => by
  unfold pAll at o
  split at o
  · obtain ⟨v, t, rfl, r1, rfl⟩ := rr
    split at o
    · rename_i ns e
      obtain ⟨xs, e1, e2⟩ := Option.bind_eq_some_iff.mp e
      obtain ⟨a, ws, rfl, k, h⟩ := lst_ok w.rel r1 e1
      rw [bls_ok h e2] at k
      exact ⟨a, ns, rfl, k, finB w o⟩
    · exact o.elim
  · exact o.elim
theorem pr_any : PrimC R (rAny R.K) (pAll (·.any id)) := fun {F W σ G H G2 H2 s2 rs vs Q} w rr o => by
  unfold pAll at o
  split at o
  · obtain ⟨v, t, rfl, r1, rfl⟩ := rr
    split at o
    · rename_i ns e
      obtain ⟨xs, e1, e2⟩ := Option.bind_eq_some_iff.mp e
      obtain ⟨a, ws, rfl, k, h⟩ := lst_ok w.rel r1 e1
      rw [bls_ok h e2] at k
      exact ⟨a, ns, rfl, k, finB w o⟩
    · exact o.elim
  · exact o.elim
/-! a[i] -/
def opIx (r1 r2 : RV) (s : MS) : Out RV := match r2 with
  | .v (.int i) => match r1 with
    | .v (.str z) => if z.length ≤ sizeLine then (match atI z i with | some c => .ok (.v (.str [c])) s | none => .bad) else .bad
    | r1 => match seqOf s r1 with
      | some xs => match atI xs i with | some x => .ok (.v x) s | none => .bad
      | none => .bad
  | _ => .bad
theorem atI_rel {K : PySem.W.Frag} {G : Gh} {H : Hp} {xs : List MV} {vs : List V} {i : Int} {x : MV} (h : VRs K G H xs vs) (e : atI xs i = some x) : ∃ v, atI vs i = some v ∧ VR K G H x v := by
  unfold atI at *
  rw [← h.length]
  obtain ⟨j, e1, e2⟩ := Option.bind_eq_some_iff.mp e
  obtain ⟨v, e3, r⟩ := h.get e2
  exact ⟨v, by rw [e1]; exact e3, r⟩
theorem pr_ix : PrimR R (fun x y H Q => rIxL R.K x y H Q ∨ (rIxT R.K x y H Q ∨ rIxS x y H Q)) opIx := fun {F W σ G H G2 H2 s2 r1 r2 x y Q} w h1 h2 o => by
  unfold opIx at o
  split at o
  · cases RR.int h2
    split at o
    · cases RR.str h1
      split at o
      · rename_i z hz
        split at o
        · rename_i c e
          exact .inr (.inr ⟨_, _, c, rfl, rfl, by simpa [PySem.Str.length] using hz, by simpa using e, finS w o rfl⟩)
        · exact o.elim
      · exact o.elim
    · split at o
      · rename_i xs hx
        split at o
        · rename_i u e
          obtain ⟨a, vs, rfl, k, h⟩ := seq_ok w.rel h1 hx
          obtain ⟨v, e3, r⟩ := atI_rel h e
          rcases k with k | k
          · exact .inl ⟨a, vs, _, v, rfl, rfl, k, e3, finV w o r⟩
          · exact .inr (.inl ⟨a, vs, _, v, rfl, rfl, k, e3, finV w o r⟩)
        · exact o.elim
      · exact o.elim
  · exact o.elim
theorem je_ix {a b : Expr} {fa fb : ME} (ha : JE X R W a fa) (hb : JE X R W b fb) (hs : PlainIx b := by intro _ _; rfl) : JE X R W (.Subscript a b pos) (mBin opIx fa fb) := fun hK F =>
  PE.imp (pe_ix ix_seq (ha hK F) (hb hK F) hs) fun σ H Q h => by
    have e : rIx X.K = fun x y H Q => rIxL R.K x y H Q ∨ (rIxT R.K x y H Q ∨ rIxS x y H Q) := by rw [hK]; rfl
    rw [e]
    exact tBin pr_ix σ H Q h
end
end Mi
set_option Elab.async false
set_option linter.all false
set_option maxRecDepth 100000
set_option maxHeartbeats 4000000
namespace Mi
open PySem PySem.Spec PyProof.Rows L2
/-! functions -/
def FRR (R : RC) (Hs : Hp) (G : Gh) (H : Hp) : FR → V → Prop
  | .v x, v => VR R.K G H x v
  | .own c, v => ∃ a, v = .ref a ∧ Hs a = none ∧ G a = none ∧ CR R.K G H c a
def OutF (R : RC) (G : Gh) (H : Hp) (hp : List MO) (o : FOut) (Q : VK) (E : XK) : Prop := match o with
  | .ok r hp' => ∀ G' H' v, HRel R G' hp' H' → Evo (· < hp.length) G H G' H' → hp.length ≤ hp'.length → FRR R H G' H' r v → Q v H'
  | .exc c xs hp' => ∀ G' H' cls d, HRel R G' hp' H' → Evo (· < hp.length) G H G' H' → hp.length ≤ hp'.length → ExR R G' H' c xs cls d → E cls d H'
  | .bad => False
/-- the promise of a def that does as the mini function -/
def spF (R : RC) (n : Nat) (run : Fn) : Sp := fun vs H Q E => ∃ G hp args, HRel R G hp H ∧ VRs R.K G H args vs ∧ args.length = n ∧ OutF R G H hp (run args hp) Q E
theorem spF.len {R : RC} {n : Nat} {run : Fn} {vs : List V} {H : Hp} {Q : VK} {E : XK} (h : spF R n run vs H Q E) : vs.length = n := by
  obtain ⟨G, hp, args, _, r, l, _⟩ := h
  rw [← r.length]; exact l
/-! roles at a call -/
def isLoc : Option Role → Bool
  | some (.loc _) => true
  | _ => false
def noLoc (G : Gh) : Gh := fun a => if isLoc (G a) = true then none else G a
theorem noLoc_of {G : Gh} {a : Addr} {r : Option Role} (h : G a = r) (n : isLoc r = false) : noLoc G a = r := by
  unfold noLoc; rw [h, if_neg (by rw [n]; simp)]
theorem of_noLoc {G : Gh} {a : Addr} {r : Role} (h : noLoc G a = some r) : G a = some r := by
  unfold noLoc at h
  split at h
  · cases h
  · exact h
theorem noLoc_none {G : Gh} {a : Addr} (h : noLoc G a = none) : G a = none ∨ ∃ i, G a = some (.loc i) := by
  unfold noLoc at h
  split at h
  · rename_i q
    cases e : G a with
    | none => exact .inl rfl
    | some r =>
      rw [e] at q
      cases r with
      | loc i => exact .inr ⟨i, rfl⟩
      | frz => cases q
      | obj n => cases q
      | fld n f => cases q
      | tab => cases q
  · exact .inl h
theorem Mo.noLoc {G : Gh} {H : Hp} : Mo G H (noLoc G) H := ⟨fun a g => ⟨noLoc_of g rfl, rfl⟩, fun a n g => noLoc_of g rfl, fun _ _ h => h⟩
theorem HRel.noLoc {R : RC} {G : Gh} {hp : List MO} {H : Hp} (h : HRel R G hp H) : HRel R (noLoc G) hp H :=
  h.keep Mo.noLoc (fun _ _ _ => rfl) (fun b n f g => ⟨noLoc_of g rfl, rfl⟩) (fun b n g => of_noLoc g) (fun b n f g => of_noLoc g) (fun b r g => h.live b r (of_noLoc g)) (fun b g => ⟨noLoc_of g rfl, rfl⟩) (fun b g => of_noLoc g)
/-- the caller's roles again, behind the callee's G' -/
def backG (G G' : Gh) : Gh := fun a => if isLoc (G a) = true then G a else noLoc G' a
section
variable {R : RC} {F : FI} {σ : L2.St} {G G' : Gh} {H H' : Hp} {s : MS} {hp' : List MO}
theorem backG_loc {a : Addr} {i : Nat} (h : G a = some (.loc i)) : backG G G' a = some (.loc i) := by unfold backG; rw [h]; rfl
theorem backG_of {a : Addr} {r : Option Role} (h : isLoc (G a) = false) (g : noLoc G' a = r) : backG G G' a = r := by unfold backG; rw [if_neg (by rw [h]; simp)]; exact g
theorem isLoc_none {a : Addr} (h : ∀ i, G a ≠ some (.loc i)) : isLoc (G a) = false := by
  cases e : G a with
  | none => rfl
  | some r => cases r <;> first | rfl | exact absurd e (h _)
/-- behind a call -/
theorem call_back (rel : Rel R F G s σ H) (h : HRel R G' hp' H') (e : Evo (· < s.hp.length) (noLoc G) H G' H') (le : s.hp.length ≤ hp'.length) :
    Rel R F (backG G G') { s with hp := hp' } σ H' ∧ Evo EvT G H (backG G G') H' ∧ Mo G' H' (backG G G') H' ∧ (∀ a, H a = none → G' a = none → backG G G' a = none) := by
  -- the caller's own places stay as they were
  have own : ∀ a i, G a = some (.loc i) → H' a = H a ∧ G' a = none := fun a i g => by
    obtain ⟨o, ho⟩ := rel.hp.live a _ g
    have n : noLoc G a = none := by unfold noLoc; rw [g]; rfl
    obtain ⟨h1, g1⟩ := e.un a o ho n
    exact ⟨h1.trans ho.symm, g1⟩
  have nl : ∀ a r, G' a = some r → isLoc (G a) = false := fun a r g => isLoc_none fun i q => by rw [(own a i q).2] at g; cases g
  have m : Mo G' H' (backG G G') H' := ⟨fun a g => ⟨backG_of (nl a _ g) (noLoc_of g rfl), rfl⟩, fun a n g => backG_of (nl a _ g) (noLoc_of g rfl), fun _ _ h => h⟩
  have toBack : ∀ a r, backG G G' a = some r → (∃ i, r = .loc i ∧ G a = some (.loc i)) ∨ G' a = some r := fun a r g => by
    unfold backG at g
    split at g
    · rename_i q
      rw [g] at q
      cases r with
      | loc i => exact .inl ⟨i, rfl, g⟩
      | frz => cases q
      | obj n => cases q
      | fld n f => cases q
      | tab => cases q
    · exact .inr (of_noLoc g)
  have hr : HRel R (backG G G') hp' H' := by
    refine h.keep m (fun _ _ _ => rfl) (fun b n f g => ⟨backG_of (nl b _ g) (noLoc_of g rfl), rfl⟩) (fun b n g => ?_) (fun b n f g => ?_) (fun b r g => ?_) (fun b g => ⟨backG_of (nl b _ g) (noLoc_of g rfl), rfl⟩) (fun b g => ?_)
    · rcases toBack b _ g with ⟨i, q, _⟩ | q
      · cases q
      · exact q
    · rcases toBack b _ g with ⟨i, q, _⟩ | q
      · cases q
      · exact q
    · rcases toBack b _ g with ⟨i, _, q⟩ | q
      · obtain ⟨o, ho⟩ := rel.hp.live b _ q
        exact ⟨o, (own b i q).1.trans ho⟩
      · exact h.live b r q
    · rcases toBack b _ g with ⟨i, q, _⟩ | q
      · cases q
      · exact q
  have flt : ∀ a n f, G a = some (.fld n f) → n < s.hp.length := fun a n f g => by
    obtain ⟨c, cl, fs, dx, hfs, nm, gc, _⟩ := rel.hp.fldOk a n f g
    exact rel.hp.lt c n gc
  have ev : Evo EvT G H (backG G G') H' := by
    refine ⟨fun a o ho g => ?_, fun a g => ?_, fun a n g => ?_, fun a n f _ g => ?_, e.tk⟩
    · obtain ⟨h1, g1⟩ := e.un a o ho (noLoc_of g rfl)
      exact ⟨h1, backG_of (by rw [g]; rfl) (by unfold Mi.noLoc; rw [g1]; rfl)⟩
    · obtain ⟨g1, h1⟩ := e.fz a (noLoc_of g rfl)
      exact ⟨backG_of (by rw [g]; rfl) (noLoc_of g1 rfl), h1⟩
    · exact backG_of (by rw [g]; rfl) (noLoc_of (e.ob a n (noLoc_of g rfl)) rfl)
    · exact backG_of (by rw [g]; rfl) (noLoc_of (e.fl a n f (flt a n f g) (noLoc_of g rfl)) rfl)
  refine ⟨⟨hr, rel.len, env_keep ev.mo rel.env fun a i g => ⟨backG_loc g, (own a i g).1⟩, rel.since.trans (ev.weak fun _ _ => trivial), rel.base, Nat.le_trans rel.le le, rel.ent⟩, ev, m, fun a hn g => ?_⟩
  refine backG_of (isLoc_none fun i q => ?_) (by unfold Mi.noLoc; rw [g]; rfl)
  obtain ⟨o, ho⟩ := rel.hp.live a _ q
  rw [hn] at ho; cases ho
end
/-! a call in an expression -/
def frRV : FR → RV
  | .v x => .v x
  | .own c => .own c
def mRun (run : Fn) (xs : List MV) (s : MS) : Out RV := match run xs s.hp with
  | .ok r hp => .ok (frRV r) { s with hp := hp }
  | .exc c ys hp => .exc c ys { s with hp := hp }
  | .bad => .bad
theorem ExR.mono {R : RC} {G G' : Gh} {H H' : Hp} {c : Nat} {xs : List MV} {cls : Value} {d : Option Addr} (m : Mo G H G' H') (h : ExR R G H c xs cls d) : ExR R G' H' c xs cls d := by
  obtain ⟨a, b, kd, k⟩ := h
  refine ⟨a, b, kd, fun ne => ?_⟩
  obtain ⟨dd, fs, e, hd, g, q⟩ := k ne
  refine ⟨dd, fs, e, (m.fz dd g).2.trans hd, (m.fz dd g).1, fun i nm x e1 e2 => ?_⟩
  obtain ⟨v, l, r⟩ := q i nm x e1 e2
  exact ⟨v, l, VR.mono m _ _ r⟩
/-- the callee's promise, from the caller's state -/
theorem run_sp {R : RC} {F : FI} {W : WX} {σ : L2.St} {G G1 : Gh} {H H1 : Hp} {s1 : MS} {n : Nat} {run : Fn} {xs : List MV} {vs : List V} {Q : VK} (w : Way R F σ G H G1 H1 s1) (r : VRs R.K G1 H1 xs vs) (hl : xs.length = n)
    (o : OutX rlE R F W σ G H (mRun run xs s1) Q) : spF R n run vs H1 Q (WE W σ) := by
  refine ⟨noLoc G1, s1.hp, xs, w.rel.hp.noLoc, VRs.mono Mo.noLoc _ _ r, hl, ?_⟩
  unfold mRun at o
  cases q : run xs s1.hp with
  | ok fr hp =>
    rw [q] at o
    intro G' H' v h e le k
    obtain ⟨rel, ev, m, nn⟩ := call_back w.rel h e le
    refine o _ _ _ rel (w.evo.trans ev) ?_
    cases fr with
    | v x => exact VR.mono m x v k
    | own c =>
      obtain ⟨a, q1, hn, g, cr⟩ := k
      exact ⟨a, q1, fresh_back w.evo hn, nn a hn g, cr.mono m rfl⟩
  | exc c ys hp =>
    rw [q] at o
    intro G' H' cls d h e le k
    obtain ⟨rel, ev, m, nn⟩ := call_back w.rel h e le
    exact o _ _ _ _ rel (w.evo.trans ev) (k.mono m)
  | bad => rw [q] at o; exact o.elim
def mCall (run : Fn) (n : Nat) (fa : MS → Out (List MV)) : ME := fun s => (fa s).bind fun xs s1 => if xs.length = n then mRun run xs s1 else .bad
theorem tCallM {R : RC} {W : WX} {F : FI} {run : Fn} {n : Nat} {fa : MS → Out (List MV)} : ∀ σ H Q, tE R F W (mCall run n fa) σ H Q → tCallSD (spF R n run) [] (WE W) (tVs R F W fa) σ H Q := fun σ H Q h =>
  (first (M := rlS) h).mono fun vs H1 ⟨G, xs, s1, G1, w, rr, o⟩ => by
    split at o
    · rename_i hl
      rw [List.append_nil]
      exact run_sp w rr hl o
    · exact o.elim
section
variable {X : Cx} {R : RC} {W : WX} {pos pp apos : Pos} {x : Str} {f : Addr} {fd : FuncData} {ps : List Str} {n k : Nat} {run : Fn}
theorem je_call {e : Expr} {es : List Expr} {fa : MS → Out (List MV)} (Fo : FnOk X.prog X.w X.K X.mg X.base (L2.CX X.prog X.w) k f fd ps (spF R n run)) (tk : Takes X W) (hr : Room k X.A) (hm : X.mg x = some (.ref f)) (hk : PySem.W.keepIn X.K (.ref f) = true) (hb : Binds X.K fd ps [])
    (ha : JAs X R W (e :: es) fa) (hg : Gl X x := by rfl) (hdb : (x == ("__debug__" : Str)) = false := by decide) (he : starEach (e :: es) X.env = (false, eval e X.env) :: starEach es X.env := by rfl) (hpl : (backTo pos (starEach es X.env)).any (·.1) = false := by rfl) :
    JE X R W (.Call (.Name x pp) (e :: es) [] pos) (mCall run n fa) := fun hK F => by
  refine ⟨fun pins s σ H Q I h => ?_⟩
  refine wpAny_Call_Name_kw (ld_glob I hg hm ?_ hdb)
  refine PySem.W.callWith_K (h₀ := X.base) I.ok.mod.kin hk (thn ((ha hK F).run pos pins s σ H _ I (first (M := rlS) h)) fun us s1 ⟨vs, H1, I1, r, G, xs, m1, G1, w, rr, o⟩ => ⟨I1.kIn, ?_⟩) he hpl
  split at o
  · rename_i hl
    exact run_all (E := WE W) Fo hr hb (passAt tk σ) I1 r (run_sp w rr hl o)
  · exact o.elim
end
end Mi
set_option Elab.async false
set_option linter.all false
set_option maxRecDepth 100000
set_option maxHeartbeats 4000000
namespace Mi
open PySem PySem.Spec PyProof.Rows L2
inductive Fl where
  | next | ret (r : FR)
abbrev MSt := MS → Out Fl
section
variable (R : RC) (F : FI) (W : WX)
def OutS (G : Gh) (H : Hp) (o : Out Fl) (D : Ends) : Prop := match o with
  | .ok .next s' => ∀ G' σ' H', Rel R F G' s' σ' H' → Evo (· < F.base) G H G' H' → D.nx σ' H'
  | .ok (.ret r) s' => ∀ G' σ' H' v, Rel R F G' s' σ' H' → FRR R F.H0 G' H' r v → D.rt v H'
  | .exc c xs s' => ∀ G' σ' H' cls d, Rel R F G' s' σ' H' → Evo (· < F.base) G H G' H' → ExR R G' H' c xs cls d → W cls d σ' H'
  | .bad => False
def tS (f : MSt) : TS := fun D σ H => ∃ G s, Rel R F G s σ H ∧ OutS R F W G H (f s) D
end
def JS (X : Cx) (R : RC) (W : WX) (st : Stmt) (f : MSt) : Prop := R.K = X.K → ∀ F, PS X st (tS R F W f)
def JB (X : Cx) (R : RC) (W : WX) (st : List Stmt) (f : MSt) : Prop := R.K = X.K → ∀ F, PSs X st (tS R F W f)
theorem Mo.trans {G G1 G2 : Gh} {H H1 H2 : Hp} (a : Mo G H G1 H1) (b : Mo G1 H1 G2 H2) : Mo G H G2 H2 :=
  ⟨fun c g => let ⟨g1, h1⟩ := a.fz c g; let ⟨g2, h2⟩ := b.fz c g1; ⟨g2, h2.trans h1⟩, fun c n g => b.ob c n (a.ob c n g), fun c xs h => b.tp c xs (a.tp c xs h)⟩
theorem Mo.refl {G : Gh} {H : Hp} : Mo G H G H := ⟨fun _ g => ⟨g, rfl⟩, fun _ _ g => g, fun _ _ h => h⟩
section
variable {X : Cx} {R : RC} {W : WX} {F : FI} {σ : L2.St} {G G1 : Gh} {H H1 : Hp} {s s1 : MS} {pos : Pos}
theorem OutS.rebase {o : Out Fl} {D : Ends} (h : OutS R F W G H o D) (m : Evo (· < F.base) G H G1 H1) : OutS R F W G1 H1 o D := by
  cases o with
  | ok fl s' =>
    cases fl with
    | next => exact fun G' σ' H' rel mo => h G' σ' H' rel (m.trans mo)
    | ret r => exact h
  | exc c xs s' => exact fun G' σ' H' cls d rel ev x => h G' σ' H' cls d rel (m.trans ev) x
  | bad => exact h
theorem Way.evS (w : Way R F σ G H G1 H1 s1) : Evo (· < F.base) G H G1 H1 := w.evo.weak fun _ _ => trivial
/-- a statement's expression -/
theorem firstS {γ δ : Type} {M : RL γ δ} {fb : MS → Out γ} {k : γ → MS → Out Fl} {D : Ends} (h : tS R F W (fun s => (fb s).bind k) D σ H) :
    tX M R F W fb σ H (fun y H1 => ∃ G r s1 G1, Way R F σ G H G1 H1 s1 ∧ M.rel R σ H G1 H1 r y ∧ OutS R F W G H (k r s1) D) := by
  obtain ⟨G, s, rel, h⟩ := h
  refine ⟨G, s, rel, ?_⟩
  have h : OutS R F W G H ((fb s).bind k) D := h
  cases q : fb s with
  | ok r s2 =>
    rw [q] at h
    exact fun G' H' v rel' ev rr => ⟨G, r, s2, G', ⟨rel', ev, rel.since⟩, rr, h⟩
  | exc c xs s2 => rw [q] at h; exact fun G' H' cls d rel' ev e => h G' σ H' cls d rel' (ev.weak fun _ _ => trivial) e
  | bad => rw [q] at h; exact h
theorem tS_of {f : MSt} {D : Ends} (rel : Rel R F G s σ H) (o : OutS R F W G H (f s) D) : tS R F W f D σ H := ⟨G, s, rel, o⟩
/-! blocks -/
def mNext : MSt := fun s => .ok .next s
def mSeq (f g : MSt) : MSt := fun s => (f s).bind fun fl s1 => match fl with
  | .next => g s1
  | .ret r => .ok (.ret r) s1
theorem jb_nil : JB X R W [] mNext := fun _ F => PSs.imp pss_nil fun D σ H ⟨G, s, rel, h⟩ => h G σ H rel .refl
theorem jb_cons {st : Stmt} {rest : List Stmt} {f g : MSt} (h1 : JS X R W st f) (h2 : JB X R W rest g) : JB X R W (st :: rest) (mSeq f g) := fun hK F => PSs.imp (pss_cons (h1 hK F) (h2 hK F)) fun D σ H ⟨G, s, rel, h⟩ => by
  refine ⟨G, s, rel, ?_⟩
  unfold mSeq at h
  cases q : f s with
  | ok fl s2 =>
    rw [q] at h
    cases fl with
    | next => exact fun G' σ' H' rel' mo => ⟨G', s2, rel', OutS.rebase h mo⟩
    | ret r => exact h
  | exc c xs s2 => rw [q] at h; exact h
  | bad => rw [q] at h; exact h
theorem jb_one {st : Stmt} {f : MSt} (h1 : JS X R W st f) : JB X R W [st] f := fun hK F => PSs.imp (pss_one (h1 hK F)) fun D σ H h => h
theorem js_pass : JS X R W (.Pass pos) mNext := fun _ F => PS.imp ps_pass fun D σ H ⟨G, s, rel, h⟩ => h G σ H rel .refl
/-! expression statements, return -/
def mExpr (f : ME) : MSt := fun s => (f s).bind fun _ s1 => .ok .next s1
theorem js_expr {e : Expr} {f : ME} (he : JE X R W e f) (hs : swapsWith e none pos.line X.env = pure false := by rfl) : JS X R W (.Expr e pos) (mExpr f) := fun hK F => PS.imp (ps_expr (he hK F) hs) fun D σ H h =>
  (firstS (M := rlE) h).mono fun y H1 ⟨G, r, s1, G1, w, rr, o⟩ => o G1 σ H1 w.rel w.evS
theorem Rel.locNew {a : Addr} {i : Nat} (h : Rel R F G s σ H) (g : G a = some (.loc i)) : F.H0 a = none := by
  cases q : F.H0 a with
  | none => rfl
  | some o =>
    exfalso
    cases q2 : F.G0 a with
    | none => have := (h.since.un a o q q2).2; rw [g] at this; cases this
    | some r =>
      rcases h.ent a r q2 with rfl | ⟨n, rfl⟩ | ⟨n, f, hn, rfl⟩ | ⟨q3, h3, e3⟩
      · have := (h.since.fz a q2).1; rw [g] at this; cases this
      · have := h.since.ob a n q2; rw [g] at this; cases this
      · have := h.since.fl a n f hn q2; rw [g] at this; cases this
      · have := (h.hp.tabs.at_ q3 h3).1; rw [e3, g] at this; cases this
def giveR (r : RV) (s : MS) : Out FR := match r with
  | .v x => .ok (.v x) s
  | .own c => .ok (.own c) s
  | .loc i => match s.env[i]? with
    | some (some (.own c)) => .ok (.own c) { s with env := s.env.set i none }
    | _ => .bad
  | .fld _ _ => .bad
def mRet (f : ME) : MSt := fun s => (f s).bind fun r s1 => (giveR r s1).bind fun fr s2 => .ok (.ret fr) s2
theorem js_ret {e : Expr} {f : ME} (he : JE X R W e f) : JS X R W (.Return (some e) pos) (mRet f) := fun hK F => PS.imp (ps_ret (he hK F)) fun D σ H h => by
  refine (firstS (M := rlE) h).mono fun y H1 ⟨G, r, s1, G1, w, rr, o⟩ => ?_
  cases r with
  | v x => exact o G1 σ H1 y w.rel rr
  | own c =>
    obtain ⟨a, q, hn, g, cr⟩ := rr
    exact o G1 σ H1 y w.rel ⟨a, q, fresh_back w.st hn, g, cr⟩
  | loc i =>
    simp only [giveR] at o
    split at o
    · rename_i c hc
      obtain ⟨u, q, a, ev, g, cr⟩ := w.rel.env i _ hc
      have rr' : σ[i]? = some (some y) := rr
      rw [rr'] at q; cases q
      subst ev
      exact o (setG G1 a none) σ H1 _ (w.rel.rerole g (.inr rfl) rr' (sv := none) fun x e => by cases e) ⟨a, rfl, w.rel.locNew g, setG_same, cr.mono (Mo.rerole g) rfl⟩
    · exact o.elim
  | fld n f => exact o.elim
def mRetN : MSt := fun s => .ok (.ret (.v .non)) s
theorem js_retN : JS X R W (.Return none pos) mRetN := fun _ F => PS.imp ps_retN fun D σ H ⟨G, s, rel, h⟩ => h G σ H .non rel (show VR R.K G H .non .non from VR.mkNon)
/-! if -/
def mIf (ft : MS → Out Bool) (fa fb : MSt) : MSt := fun s => (ft s).bind fun b s1 => if b = true then fa s1 else fb s1
theorem js_if {c : Expr} {a b : List Stmt} {ft : MS → Out Bool} {fa fb : MSt} (hc : JT X R W c ft) (ha : JB X R W a fa) (hb : JB X R W b fb) : JS X R W (.If c a b pos) (mIf ft fa fb) := fun hK F => PS.imp (ps_if (hc hK F) (ha hK F) (hb hK F)) fun D σ H h => by
  refine (firstS (M := rlB) h).mono fun y H1 ⟨G, r, s1, G1, w, rr, o⟩ => ?_
  cases rr
  cases y with
  | true => exact ⟨G1, s1, w.rel, OutS.rebase o w.evS⟩
  | false => exact ⟨G1, s1, w.rel, OutS.rebase o w.evS⟩
/-! a name is stored -/
theorem Rel.setSlot {i : Nat} {sv : Option SV} {v : V} (h : Rel R F G s σ H) (hi : i < s.env.length) (new : ∀ x, sv = some x → LSlot R G H i x v) : Rel R F G { s with env := s.env.set i sv } (σ.set i (some v)) H := by
  refine ⟨h.hp, by simpa using h.len, fun j x e => ?_, h.since, h.base, h.le, h.ent⟩
  have hs : i < σ.length := by rw [← h.len]; exact hi
  by_cases z : j = i
  · subst z
    simp only [List.getElem?_set_self hi] at e
    exact ⟨v, by rw [List.getElem?_set_self hs], new x (Option.some.inj e)⟩
  · simp only [List.getElem?_set_ne (Ne.symm z)] at e
    obtain ⟨w, q, k⟩ := h.env j x e
    exact ⟨w, by rw [List.getElem?_set_ne (Ne.symm z)]; exact q, k⟩
def putSlot (i : Nat) (r : RV) (s : MS) : Out Fl := match r with
  | .own c => if i < s.env.length then .ok .next { s with env := s.env.set i (some (.own c)) } else .bad
  | r => (share r s).bind fun x s2 => if i < s2.env.length then .ok .next { s2 with env := s2.env.set i (some (.v x)) } else .bad
def mSet (i : Nat) (f : ME) : MSt := fun s => (f s).bind fun r s1 => putSlot i r s1
theorem putSlot_ok {i : Nat} {r : RV} {v : V} {D : Ends} (w : Way R F σ G H G1 H1 s1) (rr : RR R σ H G1 H1 r v) (o : OutS R F W G H (putSlot i r s1) D) : D.nx (σ.set i (some v)) H1 := by
  have shared : OutS R F W G H ((share r s1).bind fun x s2 => if i < s2.env.length then .ok .next { s2 with env := s2.env.set i (some (.v x)) } else .bad) D → D.nx (σ.set i (some v)) H1 := fun o => by
    cases q : share r s1 with
    | ok x s2 =>
      rw [q] at o
      obtain ⟨G2, w2, m, vr⟩ := share_ok w rr q
      simp only [Out.bind_ok] at o
      split at o
      · rename_i hi
        exact o G2 _ H1 (w2.rel.setSlot hi fun x e => by cases e; exact vr) w2.evS
      · exact o.elim
    | exc c xs s2 => exact absurd q share_noexc
    | bad => rw [q] at o; exact o.elim
  cases r with
  | own c =>
    simp only [putSlot] at o
    split at o
    · rename_i hi
      obtain ⟨a, rfl, hn, g, cr⟩ := rr
      have h0 := fresh_back w.st hn
      have m : Mo G1 H1 (setG G1 a (some (.loc i))) H1 := Mo.setr g
      exact o _ _ _ ((w.rel.setr g cr.there h0 (.inr ⟨i, rfl⟩)).setSlot hi fun x e => by cases e; exact ⟨a, rfl, setG_same, cr.mono m rfl⟩) (w.evS.setr hn g)
    · exact o.elim
  | v x => exact shared o
  | loc j => exact shared o
  | fld n f => exact shared o
theorem js_set {i : Nat} {x : Str} {e : Expr} {f : ME} {pos' : Pos} (hN : X.N.Nodup) (he : JE X R W e f) (hi : X.N[i]? = some x := by rfl) (hx : Loc X.env.scope x := by first | exact Or.inl rfl | exact Or.inr rfl) (hs : swapsWith e (some (.Name x pos')) pos.line X.env = pure false := by rfl)
    (hf : X.fn x = true ∨ X.env.scope.names.lookup x = some .local := by first | exact .inl rfl | exact .inr rfl) : JS X R W (.Assign [.Name x pos'] e pos) (mSet i f) := fun hK F => PS.imp (ps_set hN hi hx (he hK F) hs hf) fun D σ H h =>
  (firstS (M := rlE) h).mono fun y H1 ⟨G, r, s1, G1, w, rr, o⟩ => putSlot_ok w rr o
end
end Mi
set_option Elab.async false
set_option linter.all false
set_option maxRecDepth 100000
set_option maxHeartbeats 4000000
namespace Mi
open PySem PySem.Spec PyProof.Rows L2
section
variable {X : Cx} {R : RC} {W : WX} {F : FI} {σ : L2.St} {G G1 : Gh} {H H1 : Hp} {s s1 : MS} {pos : Pos} {a b c e : Expr} {fa fb fc : ME} {rest : List Expr}
/-! truth -/
def truth (s : MS) (r : RV) : Option Bool := match r with
  | .v .non => some false
  | .v (.bl b) => some b
  | .v (.int i) => some (i != 0)
  | .v (.str z) => if z.length ≤ sizeLine then some (!z.isEmpty) else none
  | r => match seqOf s r with
    | some xs => some (!xs.isEmpty)
    | none => none
theorem isEmpty_len {α β : Type} {a : List α} {b : List β} (h : a.length = b.length) : a.isEmpty = b.isEmpty := by
  cases a <;> cases b <;> simp_all
theorem truth_ok {Hs : Hp} {r : RV} {v : V} {k : Bool} (rel : Rel R F G s σ H) (rr : RR R σ Hs G H r v) (q : truth s r = some k) : TruV R.K v H k := by
  unfold truth at q
  split at q
  · cases RR.non rr; cases q; rfl
  · cases RR.bl rr; cases q; rfl
  · cases RR.int rr; cases q; rfl
  · cases RR.str rr
    split at q
    · rename_i z hz
      cases q
      refine ⟨by simpa [PySem.Str.length] using hz, ?_⟩
      cases z <;> simp [PySem.Str.length] <;> omega
    · cases q
  · split at q
    · rename_i xs hx
      cases q
      obtain ⟨a, ws, rfl, k, h⟩ := seq_ok rel rr hx
      rcases k with k | k
      · exact .inl ⟨ws, k, by rw [isEmpty_len h.length]⟩
      · exact .inr (.inl ⟨ws, k, by rw [isEmpty_len h.length]⟩)
    · cases q
def mTest (f : ME) : MS → Out Bool := fun s => (f s).bind fun r s1 => match truth s1 r with | some b => .ok b s1 | none => .bad
/-- of a bool alone -/
def mTestB (f : ME) : MS → Out Bool := fun s => (f s).bind fun r s1 => match r with | .v (.bl b) => .ok b s1 | _ => .bad
theorem jt_plain (h : JE X R W e fa) (he : ∀ whole, isTrue e X.env whole = (do let v ← whole; standAt e.pos; holding [v] (truthy v)) := by intro _; rfl) : JT X R W e (mTest fa) := fun hK F => PT.imp (pt_truth (h hK F) he) fun σ H Q q => by
  refine (first (M := rlE) q).mono fun y H1 ⟨G, r, s1, G1, w, rr, o⟩ => ?_
  split at o
  · rename_i k hk
    exact ⟨k, by rw [← hK]; exact truth_ok w.rel rr hk, o _ _ _ w.rel w.evo rfl⟩
  · exact o.elim
theorem tTestB {r : TE} {f : ME} (h : ∀ σ H Q, tE R F W f σ H Q → r σ H Q) : ∀ σ H Q, tT R F W (mTestB f) σ H Q → tTest r σ H Q := fun σ H Q q => by
  have q1 := (first (M := rlE) q).mono (Q' := fun y H1 => ∃ k, y = .bl k ∧ Q k H1) fun y H1 ⟨G, r, s1, G1, w, rr, o⟩ => by
    have rr : RR R σ H G1 H1 r y := rr
    split at o
    · cases RR.bl rr; exact ⟨_, rfl, o _ _ _ w.rel w.evo rfl⟩
    · exact o.elim
  exact h σ H _ q1
theorem jt_cmp {op : CmpOp} {r : R2} {p : RV → RV → MS → Out RV} (ho : OpR X (compareOp op) r) (pr : R.K = X.K → PrimR R r p) (ha : JE X R W a fa) (hb : JE X R W b fb) (hm : behindInMarks op b = false := by rfl) : JT X R W (.Compare a [op] [b] pos) (mTestB (mBin p fa fb)) := fun hK F =>
  PT.imp (pt_cmpR ho (ha hK F) (hb hK F) hm) (tTestB (tBin (pr hK)))
/-! chains -/
def isScal : RV → Bool
  | .v (.int _) => true
  | .v (.str _) => true
  | _ => false
theorem RR.scal {Hs' : Hp} {G' : Gh} {H' : Hp} {r : RV} {y : V} (h : RR R σ H G H1 r y) (k : isScal r = true) : RR R σ Hs' G' H' r y := by
  cases r with
  | v x =>
    cases x <;> first | cases k | skip
    · cases RR.int h; exact VR.mkInt (K := R.K) (G := G') (H := H')
    · cases RR.str h; exact VR.mkStr (K := R.K) (G := G') (H := H')
  | own c => cases k
  | loc i => cases k
  | fld n f => cases k
def mChain (p p' : RV → RV → MS → Out RV) (fa fb fc : ME) : ME := fun s => (fa s).bind fun r1 s1 => (fb s1).bind fun r2 s2 => if isScal r2 = true then (p r1 r2 s2).bind fun z s3 => match z with
  | .v (.bl true) => (fc s3).bind fun r3 s4 => p' r2 r3 s4
  | .v (.bl false) => .ok (.v (.bl false)) s3
  | _ => .bad
  else .bad
theorem tChainM {r r' : R2} {p p' : RV → RV → MS → Out RV} (pr : PrimR R r p) (pr' : PrimR R r' p') : ∀ σ H Q, tE R F W (mChain p p' fa fb fc) σ H Q → tChain r r' (tE R F W fa) (tE R F W fb) (tE R F W fc) σ H Q := fun σ H Q h => by
  refine (first (M := rlE) h).mono fun x H1 ⟨G, r1, s1, G1, w, rr, o⟩ => ?_
  refine (next (M := rlE) w o).mono fun y H2 ⟨r2, s2, G2, w2, e12, rr2, o2⟩ => ?_
  split at o2
  · rename_i hs
    refine pr (W := W) w2 (rr.mono e12) rr2 ?_
    cases q : p r1 r2 s2 with
    | ok z s3 =>
      rw [q] at o2
      intro G3 H3 zv rel3 ev3 rr3
      have rr3 : RR R σ H G3 H3 z zv := rr3
      have w3 : Way R F σ G H G3 H3 s3 := ⟨rel3, ev3, w2.st⟩
      simp only [Out.bind_ok] at o2
      split at o2
      · cases RR.bl rr3
        refine ⟨true, rfl, ?_⟩
        rw [if_pos rfl]
        refine (next (M := rlE) w3 o2).mono fun u H4 ⟨r3, s4, G4, w4, e34, rr4, o4⟩ => ?_
        have rr2 : RR R σ H G2 H2 r2 y := rr2
        exact pr' w4 (rr2.scal hs) rr4 o4
      · cases RR.bl rr3
        exact ⟨false, rfl, by rw [if_neg (by simp)]; exact finB w3 o2⟩
      · exact o2.elim
    | exc c xs s2 => rw [q] at o2; exact o2
    | bad => rw [q] at o2; exact o2
  · exact o2.elim
theorem je_chain {op op' : CmpOp} {r r' : R2} {p p' : RV → RV → MS → Out RV} (ho : OpR X (compareOp op) r) (ho' : OpR X (compareOp op') r') (pr : R.K = X.K → PrimR R r p) (pr' : R.K = X.K → PrimR R r' p') (ha : JE X R W a fa) (hb : JE X R W b fb) (hc : JE X R W c fc)
    (hm : lastMarks [op, op'] [b, c] = false := by with_unfolding_all rfl) : JE X R W (.Compare a [op, op'] [b, c] pos) (mChain p p' fa fb fc) := fun hK F => PE.imp (pe_chain ho ho' (ha hK F) (hb hK F) (hc hK F) hm) (tChainM (pr hK) (pr' hK))
theorem jt_chain {op op' : CmpOp} {r r' : R2} {p p' : RV → RV → MS → Out RV} (ho : OpR X (compareOp op) r) (ho' : OpR X (compareOp op') r') (pr : R.K = X.K → PrimR R r p) (pr' : R.K = X.K → PrimR R r' p') (ha : JE X R W a fa) (hb : JE X R W b fb) (hc : JE X R W c fc)
    (hm : lastMarks [op, op'] [b, c] = false := by with_unfolding_all rfl) : JT X R W (.Compare a [op, op'] [b, c] pos) (mTestB (mChain p p' fa fb fc)) := fun hK F => PT.imp (pt_chain ho ho' (ha hK F) (hb hK F) (hc hK F) hm) (tTestB (tChainM (pr hK) (pr' hK)))
/-! and, or, not -/
def mAndT (fa fb : MS → Out Bool) : MS → Out Bool := fun s => (fa s).bind fun b s1 => if b = true then fb s1 else .ok false s1
def mOrT (fa fb : MS → Out Bool) : MS → Out Bool := fun s => (fa s).bind fun b s1 => if b = true then .ok true s1 else fb s1
def mNotT (fa : MS → Out Bool) : MS → Out Bool := fun s => (fa s).bind fun b s1 => .ok (!b) s1
theorem nextT {ft : MS → Out Bool} {Q : Bool → Hp → Prop} (w : Way R F σ G H G1 H1 s1) (o : OutX rlB R F W σ G H (ft s1) Q) : tT R F W ft σ H1 Q := ⟨G1, s1, w.rel, o.rebase w.evo⟩
theorem nextE1 {f : ME} {Q : VK} (w : Way R F σ G H G1 H1 s1) (o : OutX rlE R F W σ G H (f s1) Q) : tE R F W f σ H1 Q := ⟨G1, s1, w.rel, o.rebase w.evo⟩
theorem jw_and {ft fu : MS → Out Bool} (ha : JT X R W a ft) (hb : JW X R W (.BoolOp .And (b :: rest) pos) fu) : JW X R W (.BoolOp .And (a :: b :: rest) pos) (mAndT ft fu) := fun hK F => PW.imp (pw_and (ha hK F) (hb hK F)) fun σ H Q h =>
  (first (M := rlB) h).mono fun y H1 ⟨G, k, s1, G1, w, rr, o⟩ => by
    cases rr
    cases y with
    | true => exact nextT w o
    | false => exact o _ _ _ w.rel w.evo rfl
theorem jw_or {ft fu : MS → Out Bool} (ha : JT X R W a ft) (hb : JW X R W (.BoolOp .Or (b :: rest) pos) fu) : JW X R W (.BoolOp .Or (a :: b :: rest) pos) (mOrT ft fu) := fun hK F => PW.imp (pw_or (ha hK F) (hb hK F)) fun σ H Q h =>
  (first (M := rlB) h).mono fun y H1 ⟨G, k, s1, G1, w, rr, o⟩ => by
    cases rr
    cases y with
    | true => exact o _ _ _ w.rel w.evo rfl
    | false => exact nextT w o
theorem jw_and1 {ft : MS → Out Bool} (ha : JT X R W a ft) : JW X R W (.BoolOp .And [a] pos) ft := fun hK F => pw_and1 (ha hK F)
theorem jw_or1 {ft : MS → Out Bool} (ha : JT X R W a ft) : JW X R W (.BoolOp .Or [a] pos) ft := fun hK F => pw_or1 (ha hK F)
theorem jt_w {ft : MS → Out Bool} (h : JW X R W e ft) : JT X R W e ft := fun hK F => (h hK F).pt
theorem jt_not {ft : MS → Out Bool} (ha : JT X R W a ft) : JT X R W (.UnaryOp .Not a pos) (mNotT ft) := fun hK F => PT.imp (pt_not (ha hK F)) fun σ H Q h =>
  (first (M := rlB) h).mono fun y H1 ⟨G, k, s1, G1, w, rr, o⟩ => by cases rr; exact o _ _ _ w.rel w.evo rfl
/-! as values -/
def mAnd (fa fb : ME) : ME := fun s => (fa s).bind fun r s1 => match truth s1 r with | some true => fb s1 | some false => .ok r s1 | none => .bad
def mOr (fa fb : ME) : ME := fun s => (fa s).bind fun r s1 => match truth s1 r with | some true => .ok r s1 | some false => fb s1 | none => .bad
def mNot (fa : ME) : ME := fun s => (fa s).bind fun r s1 => match truth s1 r with | some b => .ok (.v (.bl (!b))) s1 | none => .bad
theorem je_and {fu : ME} (ha : JE X R W a fa) (hb : JE X R W (.BoolOp .And (b :: rest) pos) fu) : JE X R W (.BoolOp .And (a :: b :: rest) pos) (mAnd fa fu) := fun hK F => PE.imp (pe_andT (ha hK F) (hb hK F)) fun σ H Q h =>
  (first (M := rlE) h).mono fun y H1 ⟨G, r, s1, G1, w, rr, o⟩ => by
    rw [← hK]
    split at o
    · rename_i hk
      exact ⟨true, truth_ok w.rel rr hk, by rw [if_pos rfl]; exact nextE1 w o⟩
    · rename_i hk
      exact ⟨false, truth_ok w.rel rr hk, by rw [if_neg (by simp)]; exact o _ _ _ w.rel w.evo rr⟩
    · exact o.elim
theorem je_or {fu : ME} (ha : JE X R W a fa) (hb : JE X R W (.BoolOp .Or (b :: rest) pos) fu) : JE X R W (.BoolOp .Or (a :: b :: rest) pos) (mOr fa fu) := fun hK F => PE.imp (pe_orT (ha hK F) (hb hK F)) fun σ H Q h =>
  (first (M := rlE) h).mono fun y H1 ⟨G, r, s1, G1, w, rr, o⟩ => by
    rw [← hK]
    split at o
    · rename_i hk
      exact ⟨true, truth_ok w.rel rr hk, by rw [if_pos rfl]; exact o _ _ _ w.rel w.evo rr⟩
    · rename_i hk
      exact ⟨false, truth_ok w.rel rr hk, by rw [if_neg (by simp)]; exact nextE1 w o⟩
    · exact o.elim
theorem je_one {op : BoolOp} (ha : JE X R W a fa) : JE X R W (.BoolOp op [a] pos) fa := fun hK F => pe_one (ha hK F)
theorem je_not (ha : JE X R W a fa) : JE X R W (.UnaryOp .Not a pos) (mNot fa) := fun hK F => PE.imp (pe_notT (ha hK F)) fun σ H Q h =>
  (first (M := rlE) h).mono fun y H1 ⟨G, r, s1, G1, w, rr, o⟩ => by
    rw [← hK]
    split at o
    · rename_i k hk
      exact ⟨k, truth_ok w.rel rr hk, finB w o⟩
    · exact o.elim
def mIfE (ft : MS → Out Bool) (fa fb : ME) : ME := fun s => (ft s).bind fun b s1 => if b = true then fa s1 else fb s1
theorem je_if {ft : MS → Out Bool} (hc : JT X R W c ft) (ha : JE X R W a fa) (hb : JE X R W b fb) : JE X R W (.IfExp c a b pos) (mIfE ft fa fb) := fun hK F => PE.imp (pe_ifExp (hc hK F) (ha hK F) (hb hK F)) fun σ H Q h =>
  (first (M := rlB) h).mono fun y H1 ⟨G, r, s1, G1, w, rr, o⟩ => by
    cases rr
    cases y with
    | true => exact nextE1 w o
    | false => exact nextE1 w o
/-! -a -/
def mNeg (fa : ME) : ME := fun s => (fa s).bind fun r s1 => match r with | .v (.int i) => .ok (.v (.int (-i))) s1 | _ => .bad
theorem je_neg (ha : JE X R W a fa) : JE X R W (.UnaryOp .USub a pos) (mNeg fa) := fun hK F => PE.imp (pe_un un_neg (ha hK F)) fun σ H Q h =>
  (first (M := rlE) h).mono fun y H1 ⟨G, r, s1, G1, w, rr, o⟩ => by
    have rr : RR R σ H G1 H1 r y := rr
    split at o
    · cases RR.int rr; exact ⟨_, rfl, finI w o⟩
    · exact o.elim
end
end Mi
set_option Elab.async false
set_option linter.all false
set_option maxRecDepth 100000
set_option maxHeartbeats 4000000
namespace Mi
open PySem PySem.Spec PyProof.Rows L2
/-- what is walked: the items; what must hold at each turn -/
structure MI where
  items : List MV
  chk : MS → Prop
def Yields (R : RC) (G : Gh) (H : Hp) (x : MV) (v : V) (H' : Hp) : Prop := (H' = H ∧ VR R.K G H x v) ∨
  (∃ T xs vs, x = .tup xs ∧ v = .ref T ∧ H T = none ∧ H' = upd H T (.tup vs) ∧ VRs R.K G H xs vs)
def ItRel (R : RC) (G' : Gh) (H' : Hp) (I : MI) (J : It) : Prop := ∀ F G2 H2 s2 σ2, Rel R F G2 s2 σ2 H2 → Evo (· < F.base) G' H' G2 H2 → I.chk s2 →
  (∀ i, i < I.items.length → J.go i H2) ∧ J.stop I.items.length H2 ∧ ∀ i x v H3, I.items[i]? = some x → J.yld i H2 v H3 → Yields R G2 H2 x v H3
def rlI : RL MI It := ⟨fun R _ _ G H I J => ItRel R G H I J, fun e h F G2 H2 s2 σ2 rel ev c => h F G2 H2 s2 σ2 rel ((e.weak fun _ _ => trivial).trans ev) c, fun _ h => h⟩
def JI (X : Cx) (R : RC) (W : WX) (tg iter : Expr) (f : MS → Out MI) : Prop := R.K = X.K → ∀ F, PI X tg iter (tX rlI R F W f)
/-! targets -/
abbrev MG := MV → MS → Option MS
/-- the slots but those at ws stay -/
def Out_ (ws : List Nat) (σ σ' : L2.St) : Prop := σ'.length = σ.length ∧ ∀ j, j ∉ ws → σ'[j]? = σ[j]?
theorem Out_.trans {ws us : List Nat} {σ σ1 σ2 : L2.St} (a : Out_ ws σ σ1) (b : Out_ us σ1 σ2) : Out_ (ws ++ us) σ σ2 :=
  ⟨b.1.trans a.1, fun j h => (b.2 j fun z => h (List.mem_append_right _ z)).trans (a.2 j fun z => h (List.mem_append_left _ z))⟩
def tG (R : RC) (F : FI) (ws : List Nat) (ft : MG) : TG := fun v σ H Q => ∃ G s x, Rel R F G s σ H ∧ VR R.K G H x v ∧ match ft x s with
  | some s' => ∀ σ', Rel R F G s' σ' H → Out_ ws σ σ' → Q σ' H
  | none => False
def tGs (R : RC) (F : FI) (ws : List Nat) (ft : List MV → MS → Option MS) : TGs := fun vs σ H Q => ∃ G s xs, Rel R F G s σ H ∧ VRs R.K G H xs vs ∧ match ft xs s with
  | some s' => ∀ σ', Rel R F G s' σ' H → Out_ ws σ σ' → Q σ' H
  | none => False
def JG (X : Cx) (R : RC) (tg : Expr) (ws : List Nat) (ft : MG) : Prop := R.K = X.K → ∀ F, PG X tg (tG R F ws ft)
def JGs (X : Cx) (R : RC) (tg : List Expr) (ws : List Nat) (ft : List MV → MS → Option MS) : Prop := R.K = X.K → ∀ F, PGs X tg (tGs R F ws ft)
theorem PG.imp {X : Cx} {e : Expr} {t t' : TG} (h : PG X e t) (k : ∀ v σ H Q, t' v σ H Q → t v σ H Q) : PG X e t' := ⟨fun pins s σ H v u Q I r q => h.run pins s σ H v u Q I r (k v σ H Q q)⟩
theorem PGs.imp {X : Cx} {e : List Expr} {t t' : TGs} (h : PGs X e t) (k : ∀ v σ H Q, t' v σ H Q → t v σ H Q) : PGs X e t' := ⟨fun pins s σ H v u Q I r q => h.run pins s σ H v u Q I r (k v σ H Q q)⟩
section
variable {X : Cx} {R : RC} {W : WX} {pos : Pos}
def gN (i : Nat) : MG := fun x s => if i < s.env.length then some { s with env := s.env.set i (some (.v x)) } else none
theorem jg_name {i : Nat} {x : Str} (hN : X.N.Nodup) (hi : X.N[i]? = some x := by rfl) (hx : Loc X.env.scope x := by first | exact Or.inl rfl | exact Or.inr rfl) (hf : X.fn x = true ∨ X.env.scope.names.lookup x = some .local := by first | exact .inl rfl | exact .inr rfl) : JG X R (.Name x pos) [i] (gN i) := fun _ F =>
  PG.imp (pg_name hN hi hx hf) fun v σ H Q ⟨G, s, x, rel, vr, h⟩ => by
    unfold gN at h
    split at h
    · rename_i s' e
      split at e
      · rename_i hi
        cases e
        exact h _ (rel.setSlot hi fun y e => by cases e; exact vr) ⟨by simp, fun j hj => List.getElem?_set_ne (fun z => hj (by simp [z]))⟩
      · cases e
    · exact h.elim
def gsNil : List MV → MS → Option MS := fun xs s => match xs with | [] => some s | _ => none
def gsCons (t : MG) (u : List MV → MS → Option MS) : List MV → MS → Option MS := fun xs s => match xs with | x :: r => (t x s).bind (u r) | [] => none
theorem jgs_nil : JGs X R [] [] gsNil := fun _ F => PGs.imp pgs_nil fun v σ H Q ⟨G, s, xs, rel, vr, h⟩ => by
  cases xs with
  | nil => unfold VRs at vr; exact ⟨vr, h σ rel ⟨rfl, fun _ _ => rfl⟩⟩
  | cons x xs => exact h.elim
theorem jgs_cons {e : Expr} {es : List Expr} {ws us : List Nat} {t : MG} {u : List MV → MS → Option MS} (h1 : JG X R e ws t) (h2 : JGs X R es us u) (hs : (assignEach (e :: es) X.env).map (·.2) = assign e X.env :: (assignEach es X.env).map (·.2) := by rfl) : JGs X R (e :: es) (ws ++ us) (gsCons t u) := fun hK F =>
  PGs.imp (pgs_cons (h1 hK F) (h2 hK F) hs) fun v σ H Q ⟨G, s, xs, rel, vr, h⟩ => by
    cases xs with
    | nil => exact h.elim
    | cons x xs =>
      obtain ⟨w, r, rfl, p, q⟩ := vr.inv
      simp only [gsCons] at h
      refine ⟨w, r, rfl, G, s, x, rel, p, ?_⟩
      cases e1 : t x s with
      | none => rw [e1] at h; exact h.elim
      | some s1 =>
        rw [e1] at h
        refine fun σ' rel' so => ⟨G, s1, xs, rel', q, ?_⟩
        have h : (match u xs s1 with
          | some s' => ∀ σ', Rel R F G s' σ' H → Out_ (ws ++ us) σ σ' → Q σ' H
          | none => False) := h
        split at h
        · exact fun σ2 r2 so2 => h σ2 r2 (so.trans so2)
        · exact h.elim
def gT (n : Nat) (u : List MV → MS → Option MS) : MG := fun x s => match x with | .tup xs => if xs.length = n then u xs s else none | _ => none
theorem jg_tup {es : List Expr} {k n : Nat} {us : List Nat} {u : List MV → MS → Option MS} (hc : X.calm = true) (h : JGs X R es us u) (hn : (assignEach es X.env).length = n := by rfl) (hst : (assignEach es X.env).findIdx? (·.1) = none := by rfl) : JG X R (.Tuple es k pos) us (gT n u) := fun hK F =>
  PG.imp (pg_tup hc (h hK F) hn hst) fun v σ H Q ⟨G, s, x, rel, vr, q⟩ => by
    unfold gT at q
    split at q
    · rename_i s' e
      split at e
      · rename_i xs
        split at e
        · rename_i hl
          obtain ⟨a, vs, rfl, k, r⟩ := VR.tup vr
          refine ⟨a, vs, rfl, by rw [← hK]; exact k, by rw [← r.length]; exact hl, G, s, _, rel, r, ?_⟩
          rw [e]; exact q
        · cases e
      · cases e
    · exact q.elim
/-! for -/
open Classical in
noncomputable def forGo (chk : MS → Prop) (tg : MG) (body : MSt) : List MV → MS → Out Fl
  | [], s => if chk s then .ok .next s else .bad
  | x :: xs, s => if chk s then (match tg x s with
    | none => .bad
    | some s1 => (body s1).bind fun fl s2 => match fl with
      | .next => forGo chk tg body xs s2
      | .ret r => .ok (.ret r) s2) else .bad
noncomputable def mFor (it : MS → Out MI) (tg : MG) (body : MSt) : MSt := fun s => (it s).bind fun I s1 => forGo I.chk tg body I.items s1
/-- a yielded item, as a value -/
theorem yield_in {F : FI} {G0 G2 : Gh} {H0 H2 : Hp} {s : MS} {σ : L2.St} {x : MV} {v : V} {H3 : Hp} (rel : Rel R F G2 s σ H2) (y : Yields R G2 H2 x v H3) : ∃ G3, Rel R F G3 s σ H3 ∧ VR R.K G3 H3 x v ∧ Evo EvT G2 H2 G3 H3 := by
  rcases y with ⟨rfl, vr⟩ | ⟨T, xs, vs, rfl, rfl, hT, rfl, vr⟩
  · exact ⟨G2, rel, vr, .refl⟩
  · have g := rel.noRole hT
    have h0 := fresh_back rel.since hT
    refine ⟨setG G2 T (some .frz), (rel.alloc (o := .tup vs) hT).setr g ⟨_, upd_same⟩ h0 (.inl rfl), ?_, (Evo.refl.updNew hT g).setr hT g⟩
    unfold VR
    refine ⟨T, vs, rfl, upd_same, ?_⟩
    refine VRs.mono (G := G2) (H := upd H2 T (.tup vs)) (Mo.setr g) _ _ ?_
    exact VRs.mono (Mo.upd (by rw [g]; simp)) _ _ vr
theorem js_for {tg iter : Expr} {body : List Stmt} {ws : List Nat} {fi : MS → Out MI} {ft : MG} {fb : MSt} (hp : PassesOwn (model X.prog X.w) X.A X.env X.xe) (hc : X.calm = true) (hi : JI X R W tg iter fi) (hg : JG X R tg ws ft) (hb : JB X R W body fb)
    (hs : ∀ x, foldedSetIterable iter X.env x = pure x := by intro _; rfl) : JS X R W (.For tg iter body [] pos) (mFor fi ft fb) := fun hK F =>
  PS.imp (ps_for hp hc (hi hK F) (hg hK F) (hb hK F) hs) fun D σ H h => by
    refine (firstS (M := rlI) h).mono fun J H1 ⟨G, I, s1, G1, w, ir, o⟩ => ?_
    have ir : ItRel R G1 H1 I J := ir
    refine ⟨fun i m σ' H' => i ≤ I.items.length ∧ m = I.items.length - i ∧ ∃ G2 s2, Rel R F G2 s2 σ' H' ∧ Evo (· < F.base) G1 H1 G2 H' ∧ OutS R F W G H (forGo I.chk ft fb (I.items.drop i) s2) D, ⟨_, Nat.zero_le _, rfl, G1, s1, w.rel, .refl, by simpa using o⟩, ?_⟩
    rintro i m σ' H' ⟨hi, rfl, G2, s2, rel, ev, o⟩
    by_cases hlt : i < I.items.length
    · right
      rw [List.drop_eq_getElem_cons hlt] at o
      unfold forGo at o
      split at o
      · rename_i hck
        obtain ⟨go, _, yl⟩ := ir F G2 H' s2 σ' rel ev hck
        refine ⟨go i hlt, fun σ3 H3 => ∃ G3 s3, Rel R F G3 s3 σ3 H3 ∧ Evo (· < F.base) G1 H1 G3 H3 ∧ OutS R F W G H (forGo I.chk ft fb (I.items.drop (i + 1)) s3) D, fun σ3 H3 ⟨G3, s3, r3, e3, o3⟩ => ⟨I.items.length - (i + 1), by omega, hlt, rfl, G3, s3, r3, e3, o3⟩, fun x H3 y => ?_⟩
        have hx : I.items[i]? = some I.items[i] := List.getElem?_eq_getElem hlt
        obtain ⟨G3, rel3, vr3, ev3⟩ := yield_in (G0 := G) (H0 := H) rel (yl i _ x H3 hx y)
        refine ⟨G3, s2, _, rel3, vr3, ?_⟩
        split at o
        · exact o.elim
        · rename_i s3 e
          rw [e]
          refine fun σ4 rel4 _ => ⟨G3, s3, rel4, ?_⟩
          have evs : Evo (· < F.base) G1 H1 G3 H3 := ev.trans (ev3.weak fun _ _ => trivial)
          cases q : fb s3 with
          | ok fl s4 =>
            rw [q] at o
            cases fl with
            | next => exact fun G' σ5 H5 rel5 ev5 => ⟨G', s4, rel5, evs.trans ev5, o⟩
            | ret r => exact o
          | exc c xs s4 => rw [q] at o; exact fun G' σ5 H5 cls d r5 ev5 x => o G' σ5 H5 cls d r5 (w.evS.trans (evs.trans ev5)) x
          | bad => rw [q] at o; exact o
      · exact o.elim
    · left
      have e : i = I.items.length := by omega
      subst e
      rw [List.drop_length] at o
      unfold forGo at o
      split at o
      · rename_i hck
        obtain ⟨_, st, _⟩ := ir F G2 H' s2 σ' rel ev hck
        exact ⟨st, o G2 σ' H' rel (w.evS.trans ev)⟩
      · exact o.elim
end
end Mi
set_option Elab.async false
set_option linter.all false
set_option maxRecDepth 100000
set_option maxHeartbeats 4000000
namespace Mi
open PySem PySem.Spec PyProof.Rows L2
theorem PI.imp {X : Cx} {tg iter : Expr} {a b : TI} (h : PI X tg iter a) (k : ∀ σ H R, b σ H R → a σ H R) : PI X tg iter b :=
  ⟨fun pins s σ H R I q => h.run pins s σ H R I (k σ H R q)⟩
/-- a list, a tuple or a text, whichever comes -/
def iAny (K : PySem.W.Frag) (te : TE) : TI := fun σ H R => te σ H fun v H1 => (∃ a, v = .ref a ∧ (∃ xs, SqL K H1 a xs) ∧ R (Itl K a) H1) ∨ (∃ a, v = .ref a ∧ (∃ xs, SqT K H1 a xs) ∧ R (Itt K a) H1) ∨ ∃ x, v = .str x ∧ R (Its x) H1
theorem pi_any {X : Cx} {tg : Expr} {l : Expr} {tl : TE} (hl : PE X l tl) : PI X tg l (iAny X.K tl) := by
  refine ⟨fun pins s σ H Rr I h => ?_⟩
  refine thn (hl.run pins s σ H _ I h) fun v s1 ⟨x, H1, I1, r1, q1⟩ => ?_
  have fp : ∀ b ∈ [s1.heap.objs.size], FpOk X pins H1 b := fun b hb => by
    have e : b = s1.heap.objs.size := by simpa using hb
    subst e
    exact I1.fpOk (Nat.le_refl _) (I1.hok.fresh (Nat.le_refl _))
  rcases q1 with ⟨a, e, ⟨xs, hq⟩, q⟩ | ⟨a, e, ⟨xs, hq⟩, q⟩ | ⟨x, e, q⟩
  · subst e
    cases r1
    obtain ⟨its, rv, p, hz⟩ := I1.list hq
    refine wpAny_pyIter_list p.isList ?_
    exact ⟨s1.heap.objs.size, [s1.heap.objs.size], _, _, H1, rfl, I1.kept (t' := s1.toks) fun b o e => Heap.get?_push_of_some _ e, turn_list a _, ⟨_, Heap.get?_push_size _ rfl, rfl, rfl⟩, fp, q⟩
  · subst e
    cases r1
    obtain ⟨its, rv, p, hz⟩ := I1.tuple hq
    refine wpAny_pyIter_tuple (show s1.heap.IsTuple a its.toArray from p) ?_
    exact ⟨s1.heap.objs.size, [s1.heap.objs.size], _, _, H1, rfl, I1.kept (t' := s1.toks) fun b o e => Heap.get?_push_of_some _ e, turn_tuple a _, ⟨_, Heap.get?_push_size _ rfl, rfl, rfl⟩, fp, q⟩
  · subst e
    obtain ⟨t, rfl⟩ := r1
    cases ha : x.cps.all (· < 128)
    · exact wpAny_pyIter_wide ha (pi_one (tk := s1.toks) I1 _ (turn_str _ x t "str_iterator" (.inr rfl)) ⟨_, Heap.get?_push_size _ rfl, rfl, rfl⟩ q)
    · exact wpAny_pyIter_ascii ha (pi_one (tk := s1.toks) I1 _ (turn_str _ x t "str_ascii_iterator" (.inl rfl)) ⟨_, Heap.get?_push_size _ rfl, rfl, rfl⟩ q)
section
variable {X : Cx} {R : RC} {W : WX} {pos : Pos} {tg : Expr}
def itemsV : MV → Option (List MV)
  | .lst xs => some xs
  | .tup xs => some xs
  | .str z => some (z.map fun c => .str [c])
  | _ => none
/-- the walk over a value -/
def itV (x : MV) (s : MS) : Out MI := match itemsV x with | some xs => .ok ⟨xs, fun _ => True⟩ s | none => .bad
/-- the walk over a place, looked at at each turn -/
def itP (r : RV) (s : MS) : Out MI := match seqOf s r with | some xs => .ok ⟨xs, fun s' => s'.base = s.base ∧ seqOf s' r = some xs⟩ s | none => .bad
def itOf (r : RV) (s1 : MS) : Out MI := match r with
  | .fld n g => if n < s1.base then itP (.fld n g) s1 else .bad
  | .v (.ref n) => itP (.v (.ref n)) s1
  | r => (share r s1).bind fun x s2 => itV x s2
def mIt (f : ME) : MS → Out MI := fun s => (f s).bind itOf
theorem itl_ok {K : PySem.W.Frag} {a : Addr} {xs : List MV} {vs : List V} {G : Gh} {H : Hp} {R : RC} (hK : R.K = K) (k : SqL K H a vs) (r : VRs R.K G H xs vs) :
    (∀ i, i < xs.length → (Itl K a).go i H) ∧ (Itl K a).stop xs.length H ∧ ∀ i x v H3, xs[i]? = some x → (Itl K a).yld i H v H3 → Yields R G H x v H3 := by
  refine ⟨fun i hi => ?_, ⟨vs, k, by rw [r.length]; exact Nat.le_refl _⟩, fun i x v H3 hx y => ?_⟩
  · obtain ⟨v, hv, _⟩ := r.get (List.getElem?_eq_getElem hi)
    exact ⟨vs, v, k, hv⟩
  · obtain ⟨e, y⟩ := y
    obtain ⟨v', hv, q⟩ := r.get hx
    rw [y vs k] at hv; cases hv
    exact .inl ⟨e, q⟩
theorem itt_ok {K : PySem.W.Frag} {a : Addr} {xs : List MV} {vs : List V} {G : Gh} {H : Hp} {R : RC} (hK : R.K = K) (k : SqT K H a vs) (r : VRs R.K G H xs vs) :
    (∀ i, i < xs.length → (Itt K a).go i H) ∧ (Itt K a).stop xs.length H ∧ ∀ i x v H3, xs[i]? = some x → (Itt K a).yld i H v H3 → Yields R G H x v H3 := by
  refine ⟨fun i hi => ?_, ⟨vs, k, by rw [r.length]; exact Nat.le_refl _⟩, fun i x v H3 hx y => ?_⟩
  · obtain ⟨v, hv, _⟩ := r.get (List.getElem?_eq_getElem hi)
    exact ⟨vs, v, k, hv⟩
  · obtain ⟨e, y⟩ := y
    obtain ⟨v', hv, q⟩ := r.get hx
    rw [y vs k] at hv; cases hv
    exact .inl ⟨e, q⟩
/-- what a value is as a thing walked: a list, a tuple, a text, with the items -/
def SrcRel (R : RC) (G' : Gh) (H' : Hp) (I : MI) (v : V) : Prop :=
  (∃ a, v = .ref a ∧ (∃ vs, SqL R.K H' a vs) ∧ ∀ F G2 H2 s2 σ2, Rel R F G2 s2 σ2 H2 → Evo (· < F.base) G' H' G2 H2 → I.chk s2 → ∃ vs, SqL R.K H2 a vs ∧ VRs R.K G2 H2 I.items vs) ∨
  (∃ a, v = .ref a ∧ (∃ vs, SqT R.K H' a vs) ∧ ∀ F G2 H2 s2 σ2, Rel R F G2 s2 σ2 H2 → Evo (· < F.base) G' H' G2 H2 → I.chk s2 → ∃ vs, SqT R.K H2 a vs ∧ VRs R.K G2 H2 I.items vs) ∨
  (∃ z : List Nat, v = .str ⟨z.toArray⟩ ∧ I.items = z.map fun c => .str [c])
theorem list_of_seq {F : FI} {σ : L2.St} {G : Gh} {H Hs : Hp} {s : MS} {r : RV} {v : V} {xs : List MV} (rel : Rel R F G s σ H) (rr : RR R σ Hs G H r v) (nt : ∀ ys, r ≠ .v (.tup ys)) (e : seqOf s r = some xs) : ∃ a vs, v = .ref a ∧ SqL R.K H a vs ∧ VRs R.K G H xs vs := by
  unfold seqOf at e
  split at e
  · exact absurd rfl (nt _)
  · split at e
    · rename_i ys c
      cases e
      obtain ⟨a, q, cr⟩ := cont_ok rel rr c
      obtain ⟨vs, k, h⟩ := cr.sq
      exact ⟨a, vs, q, k, h⟩
    · cases e
theorem src_way {F : FI} {σ : L2.St} {G G1 : Gh} {H H1 : Hp} {s1 : MS} {r : RV} {v : V} {α β : Type} {L : RL α β} {k : MI → MS → Out α} {Q : β → Hp → Prop} (w : Way R F σ G H G1 H1 s1) (rr : RR R σ H G1 H1 r v)
    (o : OutX L R F W σ G H ((itOf r s1).bind k) Q) : ∃ I s2 G2, Way R F σ G H G2 H1 s2 ∧ SrcRel R G2 H1 I v ∧ OutX L R F W σ G H (k I s2) Q := by
  have value : ∀ {G1 : Gh} {s1 : MS} {x : MV}, Way R F σ G H G1 H1 s1 → VR R.K G1 H1 x v → OutX L R F W σ G H ((itV x s1).bind k) Q →
      ∃ I s2 G2, Way R F σ G H G2 H1 s2 ∧ SrcRel R G2 H1 I v ∧ OutX L R F W σ G H (k I s2) Q := fun {G1 s1 x} w vr o => by
    unfold itV at o
    cases x with
    | lst xs =>
      unfold VR at vr
      obtain ⟨a, vs, rfl, k, r⟩ := vr
      exact ⟨_, _, G1, w, .inl ⟨a, rfl, ⟨vs, k.sq⟩, fun F2 G2 H2 s2 σ2 rel ev _ => ⟨vs, (k.mono ev.mo).sq, VRs.mono ev.mo _ _ r⟩⟩, o⟩
    | tup xs =>
      unfold VR at vr
      obtain ⟨a, vs, rfl, k, r⟩ := vr
      exact ⟨_, _, G1, w, .inr (.inl ⟨a, rfl, ⟨vs, k.sq⟩, fun F2 G2 H2 s2 σ2 rel ev _ => ⟨vs, (k.mono ev.mo).sq, VRs.mono ev.mo _ _ r⟩⟩), o⟩
    | str z =>
      cases VR.str vr
      exact ⟨_, _, G1, w, .inr (.inr ⟨z, rfl, rfl⟩), o⟩
    | non => exact o.elim
    | bl b => exact o.elim
    | int i => exact o.elim
    | dct a b => exact o.elim
    | ref n => exact o.elim
  have viaShare : OutX L R F W σ G H (((share r s1).bind fun x s2 => itV x s2).bind k) Q → ∃ I s2 G2, Way R F σ G H G2 H1 s2 ∧ SrcRel R G2 H1 I v ∧ OutX L R F W σ G H (k I s2) Q := fun o => by
    cases q : share r s1 with
    | ok x s2 =>
      rw [q] at o
      obtain ⟨G2, w2, _, vr⟩ := share_ok w rr q
      exact value w2 vr o
    | exc c xs s2 => exact absurd q share_noexc
    | bad => rw [q] at o; exact o.elim
  cases r with
  | own c => exact viaShare o
  | loc i => exact viaShare o
  | fld n g =>
    simp only [itOf] at o
    split at o
    · rename_i hn
      unfold itP at o
      split at o
      · rename_i xs hx
        obtain ⟨a, vs, e, k, _⟩ := list_of_seq w.rel rr (fun ys q => by cases q) hx
        obtain ⟨b, e2, gb⟩ := rr
        rw [e] at e2; cases e2
        refine ⟨_, _, G1, w, .inl ⟨a, e, ⟨vs, k⟩, fun F2 G2 H2 s2 σ2 rel ev ck => ?_⟩, o⟩
        have hb : n < F2.base := by rw [← rel.base, ck.1]; exact hn
        have rr2 : RR R σ2 H2 G2 H2 (.fld n g) (.ref a) := ⟨a, rfl, ev.fl a n g hb gb⟩
        obtain ⟨a3, ws, q3, k3, h3⟩ := list_of_seq rel rr2 (fun ys q => by cases q) ck.2
        cases q3
        exact ⟨ws, k3, h3⟩
      · exact o.elim
    · exact o.elim
  | v x =>
    cases x with
    | ref n =>
      simp only [itOf] at o
      unfold itP at o
      split at o
      · rename_i xs hx
        obtain ⟨a, vs, e, k, _⟩ := list_of_seq w.rel rr (fun ys q => by cases q) hx
        have vr : VR R.K G1 H1 (.ref n) v := rr
        unfold VR at vr
        obtain ⟨a2, e2, g⟩ := vr
        rw [e] at e2; cases e2
        refine ⟨_, _, G1, w, .inl ⟨a, e, ⟨vs, k⟩, fun F2 G2 H2 s2 σ2 rel ev ck => ?_⟩, o⟩
        have rr2 : RR R σ2 H2 G2 H2 (.v (.ref n)) (.ref a) := by
          show VR _ _ _ _ _
          unfold VR
          exact ⟨a, rfl, ev.ob a n g⟩
        obtain ⟨a3, ws, q3, k3, h3⟩ := list_of_seq rel rr2 (fun ys q => by cases q) ck.2
        cases q3
        exact ⟨ws, k3, h3⟩
      · exact o.elim
    | non => exact viaShare o
    | bl b => exact viaShare o
    | int i => exact viaShare o
    | str z => exact viaShare o
    | tup xs => exact viaShare o
    | lst xs => exact viaShare o
    | dct a b => exact viaShare o
theorem bind_id {α β : Type} {L : RL α β} {F : FI} {σ : L2.St} {G : Gh} {H : Hp} {o : Out α} {Q : β → Hp → Prop} (h : OutX L R F W σ G H o Q) : OutX L R F W σ G H (o.bind fun a s => .ok a s) Q := by
  cases o <;> exact h
theorem str_its {z : List Nat} {G : Gh} {H : Hp} : (∀ i, i < (z.map fun c => MV.str [c]).length → (Its ⟨z.toArray⟩).go i H) ∧ (Its ⟨z.toArray⟩).stop (z.map fun c => MV.str [c]).length H ∧
    ∀ i x v H3, (z.map fun c => MV.str [c])[i]? = some x → (Its ⟨z.toArray⟩).yld i H v H3 → H3 = H ∧ VR R.K G H x v := by
  refine ⟨fun i hi => ?_, ?_, fun i x v H3 hx y => ?_⟩
  · simpa [Its] using hi
  · simp [Its]
  · obtain ⟨e, c, hc, ev⟩ := y
    simp only [List.getElem?_map, Option.map_eq_some_iff] at hx
    obtain ⟨c', hc', rfl⟩ := hx
    simp only [List.getElem?_toArray] at hc
    rw [hc'] at hc; cases hc
    subst ev
    exact ⟨e, VR.mkStr⟩
theorem ji_any {l : Expr} {f : ME} (hl : JE X R W l f) : JI X R W tg l (mIt f) := fun hK F => PI.imp (pi_any (hl hK F)) fun σ H Rr h => by
  refine (first (M := rlE) h).mono fun v H1 ⟨G, r, s1, G1, w, rr, o⟩ => ?_
  obtain ⟨I, s2, G2, w2, sr, o2⟩ := src_way w rr (bind_id o)
  rcases sr with ⟨a, e, ⟨vs, k⟩, h⟩ | ⟨a, e, ⟨vs, k⟩, h⟩ | ⟨z, e, hz⟩
  · refine .inl ⟨a, e, ⟨vs, by rw [← hK]; exact k⟩, o2 _ _ _ w2.rel w2.evo ?_⟩
    intro F2 G3 H2 s3 σ2 rel ev ck
    obtain ⟨ws, k2, h2⟩ := h F2 G3 H2 s3 σ2 rel ev ck
    exact itl_ok hK (by rw [← hK]; exact k2) h2
  · refine .inr (.inl ⟨a, e, ⟨vs, by rw [← hK]; exact k⟩, o2 _ _ _ w2.rel w2.evo ?_⟩)
    intro F2 G3 H2 s3 σ2 rel ev ck
    obtain ⟨ws, k2, h2⟩ := h F2 G3 H2 s3 σ2 rel ev ck
    exact itt_ok hK (by rw [← hK]; exact k2) h2
  · refine .inr (.inr ⟨_, e, o2 _ _ _ w2.rel w2.evo ?_⟩)
    intro F2 G3 H2 s3 σ2 rel ev ck
    obtain ⟨a, b, c⟩ := str_its (R := R) (z := z) (G := G3) (H := H2)
    rw [hz]
    exact ⟨a, b, fun i x v H3 hx y => .inl (c i x v H3 hx y)⟩
/-! ranges -/
def mRange1 (fa : MS → Out (List RV)) : MS → Out MI := fun s => (fa s).bind fun rs s1 => match rs with
  | [.v (.int j)] => if -(2 ^ 62) ≤ j ∧ j < 2 ^ 62 then .ok ⟨(List.range j.toNat).map fun i : Nat => .int i, fun _ => True⟩ s1 else .bad
  | _ => .bad
theorem ji_range1 {a : Expr} {fa : MS → Out (List RV)} {p : Pos} (hm : X.mg "range" = none) (ha : JA X R W [a] fa) (hg : Gl X "range" := by rfl) (hs : starEach [a] X.env = [(false, eval a X.env)] := by rfl) : JI X R W tg (.Call (.Name "range" p) [a] [] pos) (mRange1 fa) := fun hK F =>
  PI.imp (pi_range1 hg hm (ha hK F) hs) fun σ H Rr h => (first (M := rlR) h).mono fun vs H1 ⟨G, rs, s1, G1, w, rr, o⟩ => by
    have rr : RRs R σ H G1 H1 rs vs := rr
    split at o
    · obtain ⟨v, t, rfl, r1, rfl⟩ := rr
      cases RR.int r1
      split at o
      · rename_i hj
        refine ⟨_, rfl, hj.1, hj.2, o _ _ _ w.rel w.evo ?_⟩
        intro F2 G2 H2 s2 σ2 rel ev _
        refine ⟨fun i hi => (by simp only [List.length_map, List.length_range] at hi; exact hi), (by simp only [List.length_map, List.length_range]; exact Nat.le_refl _), fun i x v H3 hx y => ?_⟩
        obtain ⟨e, y⟩ := y
        simp only [List.getElem?_map, Option.map_eq_some_iff] at hx
        obtain ⟨k, hk, rfl⟩ := hx
        have hk' := List.getElem?_eq_some_iff.mp hk
        obtain ⟨h1, h2⟩ := hk'
        simp at h2
        subst h2
        refine .inl ⟨e, ?_⟩
        rw [y]
        unfold VR
        simp
      · exact o.elim
    · exact o.elim
def mRange2 (fa : MS → Out (List RV)) : MS → Out MI := fun s => (fa s).bind fun rs s1 => match rs with
  | [.v (.int a), .v (.int b)] => if -(2 ^ 62) ≤ a ∧ a < 2 ^ 62 ∧ -(2 ^ 62) ≤ b ∧ b < 2 ^ 62 then .ok ⟨(List.range (b - a).toNat).map fun i : Nat => .int (a + i), fun _ => True⟩ s1 else .bad
  | _ => .bad
theorem ji_range2 {a b : Expr} {fa : MS → Out (List RV)} {p : Pos} (hm : X.mg "range" = none) (ha : JA X R W [a, b] fa) (hg : Gl X "range" := by rfl) (hs : starEach [a, b] X.env = [(false, eval a X.env), (false, eval b X.env)] := by rfl) (hs2 : starEach [b] X.env = [(false, eval b X.env)] := by rfl) : JI X R W tg (.Call (.Name "range" p) [a, b] [] pos) (mRange2 fa) := fun hK F =>
  PI.imp (pi_range2 hg hm (ha hK F) hs hs2) fun σ H Rr h => (first (M := rlR) h).mono fun vs H1 ⟨G, rs, s1, G1, w, rr, o⟩ => by
    have rr : RRs R σ H G1 H1 rs vs := rr
    split at o
    · obtain ⟨v, t, rfl, r1, v2, t2, rfl, r2, rfl⟩ := rr
      cases RR.int r1
      cases RR.int r2
      split at o
      · rename_i hj
        refine ⟨_, _, rfl, hj, o _ _ _ w.rel w.evo ?_⟩
        intro F2 G2 H2 s2 σ2 rel ev _
        refine ⟨fun i hi => (by simp only [List.length_map, List.length_range] at hi; exact hi), (by simp only [List.length_map, List.length_range]; exact Nat.le_refl _), fun i x v H3 hx y => ?_⟩
        obtain ⟨e, y⟩ := y
        simp only [List.getElem?_map, Option.map_eq_some_iff] at hx
        obtain ⟨k, hk, rfl⟩ := hx
        obtain ⟨h1, h2⟩ := List.getElem?_eq_some_iff.mp hk
        simp at h2
        subst h2
        refine .inl ⟨e, ?_⟩
        rw [y]
        unfold VR
        simp
      · exact o.elim
    · exact o.elim
end
end Mi
set_option Elab.async false
set_option linter.all false
set_option maxRecDepth 100000
set_option maxHeartbeats 4000000
namespace Mi
open PySem PySem.Spec PyProof.Rows L2
/-! the slots of a comprehension's own names -/
def wipeM {α : Type} (env : List (Option α)) : List Nat → List (Option α)
  | [] => env
  | v :: vs => (wipeM env vs).set v none
theorem wipeM_eq (σ : L2.St) : ∀ vs, wipe σ vs = wipeM σ vs
  | [] => rfl
  | v :: vs => by unfold wipe wipeM; rw [wipeM_eq σ vs]
theorem wipeM_length {α : Type} (env : List (Option α)) : ∀ vs, (wipeM env vs).length = env.length
  | [] => rfl
  | v :: vs => by unfold wipeM; rw [List.length_set, wipeM_length env vs]
theorem wipeM_get {α : Type} (env : List (Option α)) : ∀ (vs : List Nat) (i : Nat), (wipeM env vs)[i]? = if i ∈ vs ∧ i < env.length then some none else env[i]?
  | [], i => by simp [wipeM]
  | v :: vs, i => by
    unfold wipeM
    by_cases h : i = v
    · subst h
      by_cases hl : i < env.length
      · rw [List.getElem?_set_self (by rw [wipeM_length]; exact hl), if_pos ⟨by simp, hl⟩]
      · rw [if_neg fun z => hl z.2, List.getElem?_eq_none (by rw [List.length_set, wipeM_length]; omega), List.getElem?_eq_none (by omega)]
    · rw [List.getElem?_set_ne (Ne.symm h), wipeM_get env vs i]
      have : (i ∈ v :: vs) ↔ i ∈ vs := by simp [h]
      simp only [this]
/-- behind a comprehension: the own names' slots as they were (containers let go) -/
def backEnv (env0 env : List (Option SV)) : List Nat → List (Option SV)
  | [] => env
  | v :: vs => (backEnv env0 env vs).set v (match env0[v]? with | some (some (.v x)) => some (.v x) | _ => none)
theorem backEnv_length (env0 env : List (Option SV)) : ∀ vs, (backEnv env0 env vs).length = env.length
  | [] => rfl
  | v :: vs => by unfold backEnv; rw [List.length_set, backEnv_length env0 env vs]
theorem backEnv_out (env0 env : List (Option SV)) : ∀ (vs : List Nat) (i : Nat), i ∉ vs → (backEnv env0 env vs)[i]? = env[i]?
  | [], i, _ => rfl
  | v :: vs, i, h => by
    unfold backEnv
    rw [List.getElem?_set_ne (fun z => h (by simp [z])), backEnv_out env0 env vs i fun z => h (List.mem_cons_of_mem _ z)]
theorem backEnv_in (env0 env : List (Option SV)) : ∀ (vs : List Nat) (i : Nat) (sv : SV), i ∈ vs → (backEnv env0 env vs)[i]? = some (some sv) → env0[i]? = some (some sv) ∧ ∃ x, sv = .v x
  | v :: vs, i, sv, h, e => by
    unfold backEnv at e
    by_cases hv : i = v
    · subst hv
      by_cases hl : i < (backEnv env0 env vs).length
      · rw [List.getElem?_set_self hl] at e
        have e := Option.some.inj e
        split at e
        · rename_i x hx; cases e; exact ⟨hx, x, rfl⟩
        · cases e
      · rw [List.getElem?_eq_none (by rw [List.length_set]; omega)] at e; cases e
    · rw [List.getElem?_set_ne (Ne.symm hv)] at e
      rcases List.mem_cons.mp h with z | z
      · exact absurd z hv
      · exact backEnv_in env0 env vs i sv z e
section
variable {R : RC} {F : FI} {G G1 : Gh} {H H1 : Hp} {s s1 : MS} {σ : L2.St}
theorem Rel.wipe (h : Rel R F G s σ H) (vs : List Nat) : Rel R F G { s with env := wipeM s.env vs } (L2.wipe σ vs) H := by
  refine ⟨h.hp, by simp only [wipeM_length, wipe_length]; exact h.len, fun i sv e => ?_, h.since, h.base, h.le, h.ent⟩
  rw [wipeM_eq, wipeM_get]
  simp only [wipeM_get] at e
  split at e
  · cases e
  · rename_i hn
    rw [h.len] at hn
    rw [if_neg hn]
    exact h.env i sv e
theorem Rel.unwipe {vs : List Nat} (h0 : Rel R F G s σ H) (h : Rel R F G1 s1 (L2.wipe σ vs) H1) (m : Mo G H G1 H1) : Rel R F G1 { s1 with env := backEnv s.env s1.env vs } σ H1 := by
  refine ⟨h.hp, ?_, fun i sv e => ?_, h.since, h.base, h.le, h.ent⟩
  · simp only [backEnv_length]
    rw [h.len, wipe_length]
  · by_cases hi : i ∈ vs
    · obtain ⟨e0, x, rfl⟩ := backEnv_in _ _ _ _ _ hi e
      obtain ⟨v, q, k⟩ := h0.env i _ e0
      exact ⟨v, q, VR.mono m x v k⟩
    · simp only [backEnv_out _ _ _ _ hi] at e
      obtain ⟨v, q, k⟩ := h.env i _ e
      rw [wipeM_eq, wipeM_get, if_neg fun z => hi z.1] at q
      exact ⟨v, q, k⟩
/-- a thing under construction is written -/
theorem Rel.updNone {a : Addr} {o : HO} (h : Rel R F G s σ H) (g : G a = none) (h0 : F.H0 a = none) (nt : NT H a := by first | exact ntN (by assumption) | exact ntO (by assumption)) : Rel R F G s σ (L2.upd H a o) := by
  refine ⟨h.hp.upd (.inl g) nt, h.len, env_keep (Mo.upd (by rw [g]; simp) nt) h.env fun b i gb => ⟨gb, upd_ne fun z => by rw [z, g] at gb; cases gb⟩, ?_, h.base, h.le, h.ent⟩
  exact h.since.updNew h0 g
end
/-- nothing is let out -/
def noExc {α : Type} (o : Out α) : Out α := match o with | .exc _ _ _ => .bad | o => o
section
variable {X : Cx} {R : RC} {W : WX} {pos : Pos}
def JTs (X : Cx) (R : RC) (W : WX) (ifs : List Expr) (f : MS → Out Bool) : Prop := R.K = X.K → ∀ F, PTs X ifs (tT R F W f)
def mYes : MS → Out Bool := fun s => .ok true s
theorem PTs.imp {X : Cx} {e : List Expr} {t t' : TT} (h : PTs X e t) (k : ∀ σ H Q, t' σ H Q → t σ H Q) : PTs X e t' := ⟨fun pins s σ H Q I q => h.run pins s σ H Q I (k σ H Q q)⟩
theorem jts_nil : JTs X R W [] mYes := fun _ F => PTs.imp pts_nil fun σ H Q ⟨G, s, rel, h⟩ => h G H true rel .refl rfl
theorem jts_one {c : Expr} {f : MS → Out Bool} (h : JT X R W c f) : JTs X R W [c] f := fun hK F => pts_one (h hK F)
open Classical in
noncomputable def lcGo (vs : List Nat) (chk : MS → Prop) (tg : MG) (tt : MS → Out Bool) (te : ME) : List MV → List MV → MS → Out (List MV)
  | [], acc, s => if chk s then .ok acc s else .bad
  | x :: xs, acc, s => if chk s then (match tg x s with
    | none => .bad
    | some s1 => (tt s1).bind fun b s2 => if b = true then (mSh te s2).bind fun y s3 => if acc.length < sizeLine then lcGo vs chk tg tt te xs (acc ++ [y]) { s3 with env := wipeM s3.env vs } else .bad
      else lcGo vs chk tg tt te xs acc { s2 with env := wipeM s2.env vs }) else .bad
noncomputable def mLc (vs : List Nat) (it : MS → Out MI) (tg : MG) (tt : MS → Out Bool) (te : ME) : ME := fun s => (it s).bind fun I s1 =>
  (noExc (lcGo vs I.chk tg tt te I.items [] { s1 with env := wipeM s1.env vs })).bind fun acc s2 => .ok (.own (.lst acc)) { s2 with env := backEnv s1.env s2.env vs }
theorem wipe_out {σ σ' : L2.St} {ws vs : List Nat} (o : Out_ ws σ σ') (h : ∀ i ∈ ws, i ∈ vs) : L2.wipe σ' vs = L2.wipe σ vs := by
  rw [wipeM_eq, wipeM_eq]
  refine List.ext_getElem? fun i => ?_
  rw [wipeM_get, wipeM_get, o.1]
  by_cases hi : i ∈ vs
  · by_cases hl : i < σ.length
    · rw [if_pos ⟨hi, hl⟩, if_pos ⟨hi, hl⟩]
    · rw [if_neg fun z => hl z.2, if_neg fun z => hl z.2, List.getElem?_eq_none (by rw [o.1]; omega), List.getElem?_eq_none (by omega)]
  · rw [if_neg fun z => hi z.1, if_neg fun z => hi z.1]
    exact o.2 i fun z => hi (h i z)
theorem wipe_wipe {σ : L2.St} {vs : List Nat} : L2.wipe (L2.wipe σ vs) vs = L2.wipe σ vs := by
  refine List.ext_getElem? fun i => ?_
  simp only [wipeM_eq, wipeM_get, wipeM_length]
  by_cases hi : i ∈ vs ∧ i < σ.length
  · simp only [if_pos hi]
  · simp only [if_neg hi]
theorem je_lc {elt tg iter : Expr} {ifs : List Expr} {scope : Scope} {own : List (Str × Nat)} {ws : List Nat} {fi : MS → Out MI} {ft : MG} {ftt : MS → Out Bool} {fe : ME} (hc : X.calm = true) (hN : X.N.Nodup) (hi : JI X R W tg iter fi) (ok : BlkOk X.N X.env.scope scope own)
    (hg : ∀ (s : Shared) (H : Hp) (C : Addr) (cl : List (Str × Addr)) (fp : List Addr), JG (X.blk s H scope (compEnvC scope cl C X.env) fp) R tg ws ft)
    (ht : ∀ (s : Shared) (H : Hp) (C : Addr) (cl : List (Str × Addr)) (fp : List Addr), JTs (X.blk s H scope (compEnvC scope cl C X.env) fp) R (fun _ _ _ _ => False) ifs ftt)
    (he : ∀ (s : Shared) (H : Hp) (C : Addr) (cl : List (Str × Addr)) (fp : List Addr), JE (X.blk s H scope (compEnvC scope cl C X.env) fp) R (fun _ _ _ _ => False) elt fe)
    (hw : ∀ i ∈ ws, i ∈ own.map (·.2) := by decide) (hs : ∀ x, foldedSetIterable iter X.env x = pure x := by intro _; rfl) : JE X R W (.ListComp elt [⟨tg, iter, ifs, 0⟩] scope pos) (mLc (own.map (·.2)) fi ft ftt fe) := fun hK F => by
  generalize hvs : own.map (·.2) = vs at hw
  refine PE.imp (pe_lc hc hN (hi hK F) ok (fun s H C cl fp => hg s H C cl fp hK F) (fun s H C cl fp => ht s H C cl fp hK F) (fun s H C cl fp => jv_of (he s H C cl fp) hK F) hs) fun σ H Q h => ?_
  rw [hvs]
  refine (first (M := rlI) h).mono fun J H1 ⟨G, I, s1, G1, w, ir, o⟩ => ?_
  have ir : ItRel R G1 H1 I J := ir
  intro D hD
  have gD := w.rel.noRole hD
  have hDs := fresh_back w.evo hD
  have hD0 := fresh_back w.st hDs
  refine ⟨fun i m H' => i ≤ I.items.length ∧ m = I.items.length - i ∧ ∃ G2 s2 acc ws', Rel R F G2 s2 (L2.wipe σ vs) H' ∧ Evo EvT G1 H1 G2 H' ∧ G2 D = none ∧ H' D = some (.lst ws') ∧ VRs R.K G2 H' acc ws' ∧
    OutX rlE R F W σ G H ((noExc (lcGo vs I.chk ft ftt fe (I.items.drop i) acc s2)).bind fun acc s2 => .ok (.own (.lst acc)) { s2 with env := backEnv s1.env s2.env vs }) Q,
    ⟨_, Nat.zero_le _, rfl, G1, _, [], [], (w.rel.alloc (o := .lst []) hD).wipe vs, Evo.refl.updNew hD gD, gD, upd_same, VRs.nil, by simpa using o⟩, ?_⟩
  rintro i m H' ⟨hi, rfl, G2, s2, acc, ws', rel, ev, gD2, hD2, vacc, o⟩
  by_cases hlt : i < I.items.length
  · right
    rw [List.drop_eq_getElem_cons hlt] at o
    unfold lcGo at o
    split at o
    · rename_i hck
      obtain ⟨go, _, yl⟩ := ir F G2 H' s2 _ rel (ev.weak fun _ _ => trivial) hck
      refine ⟨go i hlt, fun H3 => ∃ G3 s3 acc ws', Rel R F G3 s3 (L2.wipe σ vs) H3 ∧ Evo EvT G1 H1 G3 H3 ∧ G3 D = none ∧ H3 D = some (.lst ws') ∧ VRs R.K G3 H3 acc ws' ∧
        OutX rlE R F W σ G H ((noExc (lcGo vs I.chk ft ftt fe (I.items.drop (i + 1)) acc s3)).bind fun acc s2 => .ok (.own (.lst acc)) { s2 with env := backEnv s1.env s2.env vs }) Q,
        fun H3 ⟨G3, s3, a3, w3, k⟩ => ⟨I.items.length - (i + 1), by omega, hlt, rfl, G3, s3, a3, w3, k⟩, fun x H3 y => ?_⟩
      have hx : I.items[i]? = some I.items[i] := List.getElem?_eq_getElem hlt
      obtain ⟨G3, rel3, vr3, ev3⟩ := yield_in (G0 := G) (H0 := H) rel (yl i _ x H3 hx y)
      refine ⟨G3, s2, _, rel3, vr3, ?_⟩
      split at o
      · exact o.elim
      · rename_i s3 e
        rw [e]
        intro σ4 rel4 so
        have hwp : L2.wipe σ4 vs = L2.wipe (L2.wipe σ vs) vs := wipe_out so hw
        have hwp : L2.wipe σ4 vs = L2.wipe σ vs := by rw [hwp, wipe_wipe]
        refine ⟨hwp, ?_⟩
        obtain ⟨hD3, gD3⟩ := ev3.un D _ hD2 gD2
        -- the test
        refine ⟨G3, s3, rel4, ?_⟩
        cases q : ftt s3 with
        | bad => rw [q] at o; exact o.elim
        | exc c xs s4 => rw [q] at o; exact o.elim
        | ok b s4 =>
          rw [q] at o
          intro G4 H4 b' rel5 ev5 eb
          have eb : b' = b := eb
          subst eb
          obtain ⟨hD4, gD4⟩ := ev5.un D _ hD3 gD3
          have ev4 : Evo EvT G1 H1 G4 H4 := ev.trans (ev3.trans ev5)
          have vacc4 := VRs.mono (ev3.trans ev5).mo _ _ vacc
          simp only [Out.bind_ok] at o
          cases b' with
          | false =>
            simp only [Bool.false_eq_true, if_false] at o ⊢
            exact ⟨G4, _, acc, ws', by have := rel5.wipe vs; rw [hwp] at this; exact this, ev4, gD4, hD4, vacc4, o⟩
          | true =>
            simp only [if_true] at o ⊢
            refine ⟨G4, s4, rel5, ?_⟩
            cases q2 : mSh fe s4 with
            | bad => rw [q2] at o; exact o.elim
            | exc c xs s5 => rw [q2] at o; exact o.elim
            | ok y5 s5 =>
              rw [q2] at o
              intro G5 H5 yv rel6 ev6 vy
              have vy : VR R.K G5 H5 y5 yv := vy
              simp only [Out.bind_ok] at o
              obtain ⟨hD5, gD5⟩ := ev6.un D _ hD4 gD4
              split at o
              · rename_i hz
                have v5 := VRs.mono ev6.mo _ _ vacc4
                refine ⟨ws', hD5, by rw [← v5.length]; exact hz, ?_⟩
                have mu : Mo G5 H5 G5 (upd H5 D (.lst (ws' ++ [yv]))) := Mo.upd (by rw [gD5]; simp)
                refine ⟨G5, _, acc ++ [y5], ws' ++ [yv], ?_, (ev4.trans ev6).updNew hD gD5, gD5, upd_same, (VRs.mono mu _ _ v5).append (.cons (VR.mono mu _ _ vy) .nil), o⟩
                have r7 := (rel6.updNone (o := .lst (ws' ++ [yv])) gD5 hD0).wipe vs
                rw [hwp] at r7
                exact r7
              · exact o.elim
    · exact o.elim
  · left
    have e : i = I.items.length := by omega
    subst e
    rw [List.drop_length] at o
    unfold lcGo at o
    split at o
    · rename_i hck
      obtain ⟨_, st, _⟩ := ir F G2 H' s2 _ rel (ev.weak fun _ _ => trivial) hck
      exact ⟨st, o G2 H' (.ref D) (w.rel.unwipe rel ev.mo) (w.evo.trans ev) ⟨D, rfl, hDs, gD2, ws', hD2, vacc⟩⟩
    · exact o.elim
end
end Mi
set_option Elab.async false
set_option linter.all false
set_option maxRecDepth 100000
set_option maxHeartbeats 4000000
namespace Mi
open PySem PySem.Spec PyProof.Rows L2
def env0 (n : Nat) (args : List MV) : List (Option SV) := args.map (fun x => some (.v x)) ++ List.replicate (n - args.length) none
/-- a body run as a function; n: its slots -/
def runOf (n : Nat) (fb : MSt) : Fn := fun args hp => match fb ⟨env0 n args, hp, hp.length⟩ with
  | .ok .next s => .ok (.v .non) s.hp
  | .ok (.ret r) s => .ok r s.hp
  | .exc c xs s => .exc c xs s.hp
  | .bad => .bad
theorem Evo.ofNoLoc {P : Nat → Prop} {G G' : Gh} {H H' : Hp} (e : Evo P (noLoc G) H G' H') : Evo P G H G' H' :=
  ⟨fun a o h g => e.un a o h (noLoc_of g rfl), fun a g => e.fz a (noLoc_of g rfl), fun a n g => e.ob a n (noLoc_of g rfl), fun a n f p g => e.fl a n f p (noLoc_of g rfl), e.tk⟩
theorem start_rel {R : RC} {G : Gh} {hp : List MO} {H : Hp} {args : List MV} {vs : List V} {N : List Str} (h : HRel R G hp H) (r : VRs R.K G H args vs) (hn : args.length ≤ N.length) : Rel R ⟨noLoc G, H, hp.length⟩ (noLoc G) ⟨env0 N.length args, hp, hp.length⟩ (L2.start N vs) H := by
  have hl := r.length
  refine ⟨h.noLoc, ?_, fun i sv e => ?_, .refl, rfl, Nat.le_refl _, fun a q (g : noLoc G a = some q) => ?_⟩
  · simp [env0, L2.start, hl]
  · have r' := VRs.mono Mo.noLoc _ _ r
    simp only [env0] at e
    by_cases hi : i < args.length
    · rw [List.getElem?_append_left (by simpa using hi)] at e
      simp only [List.getElem?_map, Option.map_eq_some_iff] at e
      obtain ⟨x, hx, e2⟩ := e
      cases e2
      obtain ⟨v, hv, q⟩ := r'.get hx
      refine ⟨v, ?_, q⟩
      unfold L2.start
      rw [List.getElem?_append_left (by rw [List.length_map, ← hl]; exact hi), List.getElem?_map, hv]; rfl
    · rw [List.getElem?_append_right (by simpa using hi)] at e
      have := List.mem_of_getElem? e
      simp at this
  · have g0 := g
    have g := of_noLoc g
    cases q with
    | frz => exact .inl rfl
    | obj n => exact .inr (.inl ⟨n, rfl⟩)
    | fld n f =>
      obtain ⟨c, cl, fs, dx, hfs, nm, gc, _⟩ := h.fldOk a n f g
      exact .inr (.inr (.inl ⟨n, f, h.lt c n gc, rfl⟩))
    | tab => exact .inr (.inr (.inr (h.tabs.of a g)))
    | loc i =>
      unfold noLoc at g0
      rw [g] at g0
      cases g0
section
variable {P : Program} {w : World} {K : PySem.W.Frag} {mg : Str → Option Value} {base : Heap} {R : RC}
theorem fn_def {x qual : Str} {st : Stmt} {f : Addr} {fd : FuncData} {N ps : List Str} {k : Nat} {fb : MSt} (Fu : Fun K x qual st f fd) (S : FnScope N ps (defScope st)) (hK : R.K = K) (hps : ps.length ≤ N.length)
    (body : ∀ (cdv : Value) (A : Around) (outer : List Env) (s : Shared) (H : Hp) (E : XK), Room k (A.deeper (envOfC qual (defScope st) s.heap.objs.size f cdv)) →
      Takes (cxOf (L2.CX P w) P w K mg base N qual (defScope st) f cdv A outer s H E) (fun cls d _ H => E cls d H) →
      PassesOwn (model P w) (cxOf (L2.CX P w) P w K mg base N qual (defScope st) f cdv A outer s H E).A (cxOf (L2.CX P w) P w K mg base N qual (defScope st) f cdv A outer s H E).env (cxOf (L2.CX P w) P w K mg base N qual (defScope st) f cdv A outer s H E).xe →
      JB (cxOf (L2.CX P w) P w K mg base N qual (defScope st) f cdv A outer s H E) R (fun cls d _ H => E cls d H) (defBody st) fb) :
    FnOk P w K mg base (L2.CX P w) (k + 1) f fd ps (spF R ps.length (runOf N.length fb)) := by
  refine fn_body Fu S (fun vs H Q E h => spF.len h) fun cdv A outer s H vs Q E hr h => ?_
  obtain ⟨G, hp, args, hh, r, hl, o⟩ := h
  refine ⟨_, body cdv A outer s H E hr (takes_of rfl rfl rfl rfl) (passes_of rfl) hK ⟨noLoc G, H, hp.length⟩, noLoc G, _, start_rel hh r (by rw [hl]; exact hps), ?_⟩
  unfold runOf at o
  cases q : fb ⟨env0 N.length args, hp, hp.length⟩ with
  | ok fl s' =>
    rw [q] at o
    cases fl with
    | next => exact fun G' σ' H' rel ev => o G' H' .non rel.hp rel.since.ofNoLoc rel.le (VR.mkNon (K := R.K) (G := G') (H := H'))
    | ret fr => exact fun G' σ' H' v rel k => o G' H' v rel.hp rel.since.ofNoLoc rel.le k
  | exc c xs s' => rw [q] at o; exact fun G' σ' H' cls d rel ev k => o G' H' cls d rel.hp rel.since.ofNoLoc rel.le k
  | bad => rw [q] at o; exact o.elim
end
end Mi
set_option Elab.async false
set_option linter.all false
set_option maxRecDepth 100000
set_option maxHeartbeats 4000000
namespace Mi
open PySem PySem.Spec PyProof.Rows L2
/-! enumerate, over a list, a tuple, a text, from a start -/
def ItEn (k0 : Int) (J0 : It) (stp : Nat → Hp → Prop) : It := ⟨J0.go, fun i H v H' => ∃ T x, v = .ref T ∧ H T = none ∧ H' = upd H T (.tup [.int (k0 + (i : Nat)), x]) ∧ J0.yld i H x H, stp⟩
/-- what is enumerated: its iterator at it -/
structure EnSrc (P : Program) (w : World) (K : PySem.W.Frag) (J0 : It) (stp : Nat → Hp → Prop) (tn0 : Nat → Heap → Prop) (it : Addr) : Prop where
  live : ∀ i h, tn0 i h → ∃ o, h.get? it = some o ∧ (∀ v, o.data ≠ .cell v) ∧ o.cls ≠ .type "enumerate"
  keep : ∀ i h h', tn0 i h → (∀ o, h.get? it = some o → h'.get? it = some o) → tn0 i h'
  draw : ∀ (X : Cx), X.prog = P → X.w = w → X.K = K → ∀ (pins : List (Addr × Obj)) (s : Shared) (σ : L2.St) (H : Hp) (i : Nat), Inv X pins σ H s → X.A.handled = none → tn0 i s.heap → J0.go i H →
    ∃ (fp : List Addr) (n : Nat) (Pd : Nat → Value → Prop) (Sd : Nat → Heap → Prop), Draws P w X.A.in1 it fp n Pd Sd ∧ Sd i s.heap ∧ i < n ∧ (∀ b ∈ fp, ∃ o, s.heap.get? b = some o ∧ o.cls ≠ .type "enumerate") ∧ (∀ h', Sd (i + 1) h' → tn0 (i + 1) h') ∧ ∀ u, Pd i u → ∃ x, RelV x u ∧ J0.yld i H x H
  fin : ∀ (X : Cx), X.prog = P → X.w = w → X.K = K → ∀ (pins : List (Addr × Obj)) (s : Shared) (σ : L2.St) (H : Hp) (i : Nat), Inv X pins σ H s → X.A.handled = none → tn0 i s.heap → stp i H →
    ∃ (fp : List Addr) (n : Nat) (Pd : Nat → Value → Prop) (Sd : Nat → Heap → Prop), Draws P w X.A.in1 it fp n Pd Sd ∧ Sd n s.heap
theorem turn_en {P : Program} {w : World} {K : PySem.W.Frag} {elts : List Expr} {kk : Nat} {tpos : Pos} {J0 : It} {stp : Nat → Hp → Prop} {tn0 : Nat → Heap → Prop} (k0 : Int) (e it : Addr) (S : EnSrc P w K J0 stp tn0 it) :
    Turn P w K (.Tuple elts kk tpos) (ItEn k0 J0 stp) [e, it] e (fun i h => (∃ old, IsEnum h e it (k0 + (i : Nat)) old) ∧ tn0 i h ∧ e ≠ it) where
  mem := by simp
  obj := fun i h st b hb => by
    obtain ⟨⟨old, he⟩, h0, _⟩ := st
    obtain ⟨o, ho, hd, _⟩ := S.live i h h0
    have e' : b = e ∨ b = it := by simpa using hb
    rcases e' with z | z
    · rw [z]; exact ⟨_, he, fun v q => nomatch q⟩
    · rw [z]; exact ⟨o, ho, hd⟩
  keep := fun i h h' st k => let ⟨⟨old, he⟩, hi, hne⟩ := st; ⟨⟨old, k e (by simp) _ he⟩, S.keep i h h' hi fun o q => k it (by simp) o q, hne⟩
  item := by
    intro X hP hw hK hc i pins s σ H E I hf st hg
    obtain ⟨⟨old, he⟩, hit, hne⟩ := st
    obtain ⟨fp, n, Pd, Sd, D, hst, hlt, hfp, back, val⟩ := S.draw X hP hw hK pins s σ H i I (I.ok.hd hc) hit hg
    subst hP hw hK
    have hef : e ∉ fp := fun hb => by
      obtain ⟨o, ho, hcl⟩ := hfp e hb
      rw [he] at ho; cases ho; exact hcl rfl
    have hel : e < s.heap.objs.size := Heap.lt_size he
    have hil : it < s.heap.objs.size := by obtain ⟨o, q, _⟩ := S.live _ _ hit; exact Heap.lt_size q
    refine wpAny_pyNext_enum_itemC D he hst hlt hne hef fun u h' tk hPx ho hst' hT hsz hk => ?_
    refine ⟨_, rfl, wpAny_letOwnedTupleGo_enum (s := { s with heap := h', toks := tk + 1 }) ho fun h'' he' sb => ?_⟩
    obtain ⟨x, ru, yx⟩ := val u hPx
    have hT2 : h''.get? s.heap.objs.size = some { cls := .type "tuple", data := .seq #[.int (k0 + (i : Nat)) tk, u] } := (sb.2 _ (Nat.ne_of_gt hel)).trans hT
    have new : ObjOk X.prog X.w (upd H s.heap.objs.size (.tup [.int (k0 + (i : Nat)), x])) h'' s.heap.objs.size (.tup [.int (k0 + (i : Nat)), x]) :=
      ⟨by show 2 ≤ sizeLine; decide, [.int (k0 + (i : Nat)) tk, u], .cons ⟨_, rfl⟩ (.cons ru .nil), ⟨_, hT2, rfl, _, rfl⟩⟩
    have I1 : Inv X pins σ (upd H s.heap.objs.size (.tup [.int (k0 + (i : Nat)), x])) { s with heap := h'', toks := tk + 1 } :=
      I.turnedNew (ch := [e, it]) (fun b ob hb q => (sb.2 b (fun z => hb (by simp [z]))).trans (hk b ob (fun z => hb (by simp [z])) (fun z => hb (by simp [z])) q)) hf (Nat.le_refl _) new
    refine ⟨.ref s.heap.objs.size, _, I1, rfl, ⟨_, x, rfl, I.hok.fresh (Nat.le_refl _), rfl, yx⟩, ⟨⟨u, ?_⟩, S.keep _ h' h'' (back _ hst') (fun o q => (sb.2 it (Ne.symm hne)).trans q), hne⟩, fun b hb => ?_⟩
    · have e1 : k0 + ((i + 1 : Nat) : Int) = k0 + (i : Int) + 1 := by omega
      rw [e1]; exact he'
    · have hb' : b < s.heap.objs.size := by
        have e' : b = e ∨ b = it := by simpa using hb
        rcases e' with z | z
        · rw [z]; exact hel
        · rw [z]; exact hil
      rw [upd_ne (Nat.ne_of_lt hb')]
      exact (hf b hb).1
  done := by
    intro X hP hw hK hc i pins s σ H E I hf st hg
    obtain ⟨⟨old, he⟩, hit, hne⟩ := st
    obtain ⟨fp, n, Pd, Sd, D, hst⟩ := S.fin X hP hw hK pins s σ H i I (I.ok.hd hc) hit hg
    subst hP hw hK
    obtain ⟨f0, f1, f2, f3, f4, f5⟩ := hf it (by simp)
    exact wpAny_pyNext_enum_endD D he hst fun h' eb => ⟨rfl, I.turned (t' := s.toks) (fun b o hb q => eb b o hb q) f0 f1 f3 f4 f5⟩
  self := fun A i s Q E st h => let ⟨⟨_, he⟩, _⟩ := st; wpAny_pyIter_enum he h
theorem isListCls {h : Heap} {a : Addr} {items : Array Value} (x : h.IsList a items) : ∃ o, h.get? a = some o ∧ o.cls = .type "list" := let ⟨o, ho, hc, _⟩ := x; ⟨o, ho, hc⟩
theorem apart_list {h : Heap} {it a : Addr} {i : Nat} {items : Array Value} (st : h.IsListIter it a i) (p : h.IsList a items) : a ≠ it := by
  obtain ⟨oa, hoa, hca⟩ := isListCls p
  obtain ⟨o, ho, hc, hd⟩ := st
  rintro rfl
  rw [hoa] at ho; cases ho; rw [hca] at hc; exact absurd hc (by decide)
def stL (K : PySem.W.Frag) (a : Addr) : Nat → Hp → Prop := fun i H => ∃ xs, SqL K H a xs ∧ xs.length = i
def stT (K : PySem.W.Frag) (a : Addr) : Nat → Hp → Prop := fun i H => ∃ xs, SqT K H a xs ∧ xs.length = i
theorem en_list {P : Program} {w : World} {K : PySem.W.Frag} (a it : Addr) : EnSrc P w K (Itl K a) (stL K a) (fun i h => h.IsListIter it a i) it where
  live := fun i h ⟨o, ho, hc, hd⟩ => ⟨o, ho, fun v q => (by rw [hd] at q; cases q), by rw [hc]; decide⟩
  keep := fun i h h' st k => st.at k
  draw := by
    intro X hP hw hK pins s σ H i I hh st ⟨xs, x, hq, hx⟩
    subst hP hw hK
    obtain ⟨its, rv, p, hz⟩ := I.list hq
    obtain ⟨u, hu, ru⟩ := rv.get hx
    obtain ⟨oa, hoa, hca⟩ := isListCls p.isList
    refine ⟨_, _, _, _, Draws.list (show X.A.in1.handled = none from hh) it a (apart_list st p.isList) its.toArray, ⟨st, p.isList⟩, ?_, fun b hb => ?_, fun h' k => k.1, fun v hv => ?_⟩
    · have := (List.getElem?_eq_some_iff.mp hu).1; simpa using this
    · have e' : b = it ∨ b = a := by simpa using hb
      rcases e' with z | z
      · subst z; obtain ⟨o, ho, hc, hd⟩ := st; exact ⟨o, ho, by rw [hc]; decide⟩
      · subst z; exact ⟨oa, hoa, by rw [hca]; decide⟩
    · have hv : its.toArray[i]? = some v := hv
      simp only [List.getElem?_toArray] at hv
      rw [hu] at hv; cases hv
      exact ⟨x, ru, rfl, fun ys hy => by rw [I.list_inj hy hq]; exact hx⟩
  fin := by
    intro X hP hw hK pins s σ H i I hh st ⟨xs, hq, hx⟩
    subst hP hw hK
    obtain ⟨its, rv, p, hz⟩ := I.list hq
    have hn : its.toArray.size = i := by rw [List.size_toArray, ← rv.length]; exact hx
    subst hn
    exact ⟨_, _, _, _, Draws.list (show X.A.in1.handled = none from hh) it a (apart_list st p.isList) its.toArray, st, p.isList⟩
theorem en_tup {P : Program} {w : World} {K : PySem.W.Frag} (a it : Addr) : EnSrc P w K (Itt K a) (stT K a) (fun i h => h.IsTupleIter it a i) it where
  live := fun i h ⟨o, ho, hc, hd⟩ => ⟨o, ho, fun v q => (by rw [hd] at q; cases q), by rw [hc]; decide⟩
  keep := fun i h h' ⟨o, ho, r⟩ k => ⟨o, k o ho, r⟩
  draw := by
    intro X hP hw hK pins s σ H i I hh st ⟨xs, x, hq, hx⟩
    subst hP hw hK
    obtain ⟨its, rv, p, hz⟩ := I.tuple hq
    obtain ⟨u, hu, ru⟩ := rv.get hx
    have p' : s.heap.IsTuple a its.toArray := p
    obtain ⟨oa, hoa, hca, _⟩ := id p
    have hne : a ≠ it := by
      obtain ⟨o, ho, hc, hd⟩ := st
      rintro rfl
      rw [hoa] at ho; cases ho; rw [hca] at hc; exact absurd hc (by decide)
    refine ⟨_, _, _, _, Draws.tuple (show X.A.in1.handled = none from hh) it a hne its.toArray, ⟨st, p'⟩, ?_, fun b hb => ?_, fun h' k => k.1, fun v hv => ?_⟩
    · have := (List.getElem?_eq_some_iff.mp hu).1; simpa using this
    · have e' : b = it ∨ b = a := by simpa using hb
      rcases e' with z | z
      · subst z; obtain ⟨o, ho, hc, hd⟩ := st; exact ⟨o, ho, by rw [hc]; decide⟩
      · subst z; exact ⟨oa, hoa, by rw [hca]; decide⟩
    · have hv : its.toArray[i]? = some v := hv
      simp only [List.getElem?_toArray] at hv
      rw [hu] at hv; cases hv
      exact ⟨x, ru, rfl, fun ys hy => by rw [I.tuple_inj hy hq]; exact hx⟩
  fin := by
    intro X hP hw hK pins s σ H i I hh st ⟨xs, hq, hx⟩
    subst hP hw hK
    obtain ⟨its, rv, p, hz⟩ := I.tuple hq
    have p' : s.heap.IsTuple a its.toArray := p
    obtain ⟨oa, hoa, hca, _⟩ := id p
    have hne : a ≠ it := by
      obtain ⟨o, ho, hc, hd⟩ := st
      rintro rfl
      rw [hoa] at ho; cases ho; rw [hca] at hc; exact absurd hc (by decide)
    have hn : its.toArray.size = i := by rw [List.size_toArray, ← rv.length]; exact hx
    subst hn
    exact ⟨_, _, _, _, Draws.tuple (show X.A.in1.handled = none from hh) it a hne its.toArray, st, p'⟩
theorem sit_ne (x : Str) : (Value.type (strIterType x) : Value) ≠ .type "enumerate" := by
  unfold strIterType; split <;> decide
theorem en_str {P : Program} {w : World} {K : PySem.W.Frag} (x : Str) (t : Tok) (it : Addr) : EnSrc P w K (Its x) (fun i _ => i = x.cps.size) (fun i h => h.IsStrIter it (strIterType x) x t i) it where
  live := fun i h ⟨o, ho, hc, hd⟩ => ⟨o, ho, fun v q => (by rw [hd] at q; cases q), by rw [hc]; exact sit_ne x⟩
  keep := fun i h h' ⟨o, ho, r⟩ k => ⟨o, k o ho, r⟩
  draw := by
    intro X hP hw hK pins s σ H i I hh st hi
    subst hP hw hK
    refine ⟨_, _, _, _, Draws.text (show X.A.in1.handled = none from hh) it x t, st, hi, fun b hb => ?_, fun h' k => k, fun v hv => ?_⟩
    · have z : b = it := by simpa using hb
      subst z; obtain ⟨o, ho, hc, hd⟩ := st; exact ⟨o, ho, by rw [hc]; exact sit_ne x⟩
    · obtain ⟨c, u, hc, rfl⟩ := hv
      exact ⟨.str ⟨#[c]⟩, ⟨u, rfl⟩, rfl, c, hc, rfl⟩
  fin := by
    intro X hP hw hK pins s σ H i I hh st hi
    subst hP hw hK hi
    exact ⟨_, _, _, _, Draws.text (show X.A.in1.handled = none from hh) it x t, st⟩
/-- enumerate(e), enumerate(e, start=k) -/
def iEn (K : PySem.W.Frag) (k0 : Int) : V → Hp → (It → Hp → Prop) → Prop := fun v H1 R =>
  (∃ a, v = .ref a ∧ (∃ xs, SqL K H1 a xs) ∧ R (ItEn k0 (Itl K a) (stL K a)) H1) ∨ (∃ a, v = .ref a ∧ (∃ xs, SqT K H1 a xs) ∧ R (ItEn k0 (Itt K a) (stT K a)) H1) ∨ ∃ x, v = .str x ∧ R (ItEn k0 (Its x) fun i _ => i = x.cps.size) H1
section
variable {X : Cx} {R : RC} {W : WX} {pos tpos p : Pos} {elts : List Expr} {kk : Nat} {e : Expr}
/-- from the call's value on -/
theorem en_go {pins : List (Addr × Obj)} {s1 : Shared} {σ : L2.St} {H1 : Hp} {Rr : It → Hp → Prop} {v : V} {u : Value} {k0 : Int} {trees : Sem Value} (I1 : Inv X pins σ H1 s1) (rv : RelV v u) (q : iEn X.K k0 v H1 Rr)
    (call : ∀ (o : Obj) (Hb : Heap → Prop) (Q : Value → Shared → Prop), Begins u o Hb → Hb s1.heap → (∀ h', IsEnum h' (s1.heap.objs.size + 1) s1.heap.objs.size k0 .none → h'.get? s1.heap.objs.size = some o → h'.objs.size = s1.heap.objs.size + 2 →
      (∀ b o, s1.heap.get? b = some o → h'.get? b = some o) → Q (.ref (s1.heap.objs.size + 1)) { s1 with heap := h' }) → wpAny (model X.prog X.w) X.A trees Q X.xe s1) :
    wpAny (model X.prog X.w) X.A trees (fun v s1 => wpAny (model X.prog X.w) X.A (pyIter v) (PIE X pins σ (.Tuple elts kk tpos) Rr) X.xe s1) X.xe s1 := by
  have fin : ∀ {J0 : It} {stp : Nat → Hp → Prop} {tn0 : Nat → Heap → Prop} {h' : Heap}, EnSrc X.prog X.w X.K J0 stp tn0 s1.heap.objs.size → IsEnum h' (s1.heap.objs.size + 1) s1.heap.objs.size k0 .none → tn0 0 h' →
      (∀ b o, s1.heap.get? b = some o → h'.get? b = some o) → Rr (ItEn k0 J0 stp) H1 → wpAny (model X.prog X.w) X.A (pyIter (.ref (s1.heap.objs.size + 1))) (PIE X pins σ (.Tuple elts kk tpos) Rr) X.xe { s1 with heap := h' } := fun {J0 stp tn0 h'} S he ht hk r => by
    refine wpAny_pyIter_enum he ?_
    have I2 : Inv X pins σ H1 { s1 with heap := h' } := I1.kept (t' := s1.toks) hk
    refine ⟨s1.heap.objs.size + 1, [s1.heap.objs.size + 1, s1.heap.objs.size], _, _, H1, rfl, I2, turn_en k0 (s1.heap.objs.size + 1) s1.heap.objs.size S, ⟨⟨.none, by simpa using he⟩, ht, Nat.succ_ne_self _⟩, fun b hb => ?_, r⟩
    have e' : b = s1.heap.objs.size + 1 ∨ b = s1.heap.objs.size := by simpa using hb
    have hle : s1.heap.objs.size ≤ b := by
      rcases e' with z | z
      · rw [z]; exact Nat.le_add_right _ _
      · rw [z]; exact Nat.le_refl _
    exact I1.fpOk hle (I1.hok.fresh hle)
  rcases q with ⟨a, e, ⟨xs, hq⟩, r⟩ | ⟨a, e, ⟨xs, hq⟩, r⟩ | ⟨x, e, r⟩
  · subst e
    cases rv
    obtain ⟨its, rv, p', hz⟩ := I1.list hq
    exact call _ _ _ (begins_list a its.toArray) p'.isList fun h' he ho hsz hk => fin (en_list a _) he ⟨_, ho, rfl, rfl⟩ hk r
  · subst e
    cases rv
    obtain ⟨its, rv, p', hz⟩ := I1.tuple hq
    exact call _ _ _ (begins_tuple a its.toArray) p' fun h' he ho hsz hk => fin (en_tup a _) he ⟨_, ho, rfl, rfl⟩ hk r
  · subst e
    obtain ⟨t, rfl⟩ := rv
    exact call _ _ _ (begins_text x t) trivial fun h' he ho hsz hk => fin (en_str x t _) he ⟨_, ho, rfl, rfl⟩ hk r
theorem meets_enumerate_new0 {v : Value} {o : Obj} {Hb : Heap → Prop} (B : Begins v o Hb) :
    Meets (Builtin.«enumerate.__new__» ⟨[.type "enumerate", v], []⟩) (fun _ R s => Hb s.heap ∧
      R (.ok (.ret (.ref (s.heap.push o).objs.size))) { s with heap := (s.heap.push o).push { cls := .type "enumerate", data := .fields #[.none, .bool false, .ref s.heap.objs.size, rawInt 0, .none, .none] } }) :=
  .of_wp fun prog w A R s h => by
    obtain ⟨hp, g, d, tk, os⟩ := s; obtain ⟨h1, h⟩ := h
    have hsub := sub_enumerate
    have q1 : ∀ {A' : Around} {E : Value → Shared → Prop} {Q : Value → Shared → Prop}, Q (.ref hp.objs.size) ⟨hp.push o, g, d, tk, os⟩ → wpAny (model prog w) A' (pyIter v) Q E ⟨hp, g, d, tk, os⟩ :=
      fun q => B.iter prog w _ _ ⟨hp, g, d, tk, os⟩ _ h1 q
    wp_walk using q1
    refine wpAny_stack_any fun st => wpAny_pure ?_
    split
    · rename_i c _ _ _ _ _
      cases (c == Value.type "enumerate")
      · wp_walk using q1
        exact ⟨_, rfl, h⟩
      · wp_walk using q1
        exact ⟨_, rfl, h⟩
    · wp_walk using q1
      exact ⟨_, rfl, h⟩
theorem enum_begins0 {prog : Program} {w : World} {A : Around} {E : Value → Shared → Prop} {s : Shared} {v : Value} {o : Obj} {Hb : Heap → Prop} {Q : Value → Shared → Prop} (B : Begins v o Hb) (h1 : Hb s.heap)
    (h : ∀ h', IsEnum h' (s.heap.objs.size + 1) s.heap.objs.size 0 .none → h'.get? s.heap.objs.size = some o → h'.objs.size = s.heap.objs.size + 2 →
      (∀ b o, s.heap.get? b = some o → h'.get? b = some o) → Q (.ref (s.heap.objs.size + 1)) { s with heap := h' }) :
    wpAny (model prog w) A (call (.type "enumerate") [v]) Q E s := by
  refine callType_new F.called_enumerate (by decide) (F.typeCall_enumerate_1 _) (F.newCall_enumerate_1 _) (fun obj => F.args_object_init_2 obj _) F.entry_enumerate_new
    (meets_enumerate_new0 B) ⟨h1, ?_⟩
  have hz : (s.heap.push o).objs.size = s.heap.objs.size + 1 := Heap.size_push ..
  show _ ∧ _
  rw [hz]
  have he : IsEnum ((s.heap.push o).push { cls := .type "enumerate", data := .fields #[.none, .bool false, .ref s.heap.objs.size, rawInt 0, .none, .none] }) (s.heap.objs.size + 1) s.heap.objs.size 0 .none := by
    have := Heap.get?_push_size (s.heap.push o) (o := { cls := .type "enumerate", data := .fields #[.none, .bool false, .ref s.heap.objs.size, rawInt 0, .none, .none] }) rfl
    rw [hz] at this; exact this
  refine ⟨⟨_, he, rfl⟩, h _ he (Heap.get?_push_of_some _ (Heap.get?_push_size _ B.free)) (by rw [Heap.size_push, hz]) fun b o x => Heap.get?_push_of_some _ (Heap.get?_push_of_some _ x)⟩
/-- a built-in class called with keywords -/
theorem callWith_typeKw {M : Model} {A : Around} {E : Value → Shared → Prop} {s : Shared} {env : Env} {pos : Pos} {T : String} {e : Expr} {rest : List Expr} {kws : List Keyword} {Q : Value → Shared → Prop} (hall : (backToKw pos (keywordEach kws env)).all (·.1.isSome) = true)
    (h : wpAny M A (spliced (backTo pos (starEach (e :: rest) env))) (fun vs s₁ => wpAny M A (evalAll ((backToKw pos (keywordEach kws env)).map (·.2)))
      (fun ks s₂ => wpAny M A (call (.type T) vs (((backToKw pos (keywordEach kws env)).filterMap (·.1)).zip ks)) Q E s₂) E s₁) E s)
    (hplain : ((backTo pos (starEach (e :: rest) env)).any (·.1) || (backToKw pos (keywordEach kws env)).any (·.1.isNone)) = false := by rfl) (he : starEach (e :: rest) env = (false, eval e env) :: starEach rest env := by rfl) :
    wpAny M A (callWith pos (.type T) [] (backTo pos (starEach (e :: rest) env)) (backToKw pos (keywordEach kws env))) Q E s := by
  unfold callWith
  refine wpAny_bind (wpAny_holding (wpAny_mono (evalArgs_kw2 (f := .type T) (Q := fun a s₁ => wpAny M A (call (.type T) ([] ++ a.pos) a.kw) Q E s₁) hall h he) (fun a s₁ h₁ => wpAny_bind (wpAny_standAt ?_)) fun _ _ x => x))
  simp only [hplain]
  refine wpAny_bind (wpAny_pure ?_)
  exact wpAny_bind (wpAny_mono h₁ (fun r s₂ hr => wpAny_bind (wpAny_holding (wpAny_point (wpAny_pure hr)))) fun _ _ x => x)
theorem pi_en0 {te : TE} (hg : Gl X "enumerate") (hm : X.mg "enumerate" = none) (he : PE X e te) (hs : starEach [e] X.env = [(false, eval e X.env)] := by rfl) :
    PI X (.Tuple elts kk tpos) (.Call (.Name "enumerate" p) [e] [] pos) (fun σ H Rr => te σ H fun x H1 => ∃ v, [x] = [v] ∧ iEn X.K 0 v H1 Rr) := by
  refine ⟨fun pins s σ H Rr I h => ?_⟩
  refine Call_ (ld_blt I hg hm boot_enumerate (PyProof.Rows.callWith_type1 (thn ((pa_cons he pa_nil hs).run pos pins s σ H (fun vs H1 => ∃ v, vs = [v] ∧ iEn X.K 0 v H1 Rr) I h) fun us s1 ⟨vs, H1, I1, r1, v, ev, q1⟩ => ?_) hs rfl))
  subst ev
  cases r1 with
  | cons r rr =>
    cases rr
    exact en_go I1 r q1 fun o Hb Q B h1 k => enum_begins0 B h1 k
theorem pi_enK {te : TE} {k0 : Int} {j : Nat} {kp kpos : Pos} (hg : Gl X "enumerate") (hm : X.mg "enumerate" = none) (he : PE X e te) (h0 : -(2 ^ 63) ≤ k0) (h1 : k0 < 2 ^ 63) (hs : starEach [e] X.env = [(false, eval e X.env)] := by rfl) :
    PI X (.Tuple elts kk tpos) (.Call (.Name "enumerate" p) [e] [⟨some (Str.ofString "start"), .Constant (.int k0) j kp, kpos⟩] pos) (fun σ H Rr => te σ H fun x H1 => ∃ v, [x] = [v] ∧ iEn X.K k0 v H1 Rr) := by
  refine ⟨fun pins s σ H Rr I h => ?_⟩
  refine wpAny_Call_Name_kw (ld_blt I hg hm boot_enumerate (callWith_typeKw rfl (thn ((pa_cons he pa_nil hs).run pos pins s σ H (fun vs H1 => ∃ v, vs = [v] ∧ iEn X.K k0 v H1 Rr) I h) fun us s1 ⟨vs, H1, I1, r1, v, ev, q1⟩ => ?_) (by rw [hs]; rfl) hs))
  subst ev
  cases r1 with
  | cons r rr =>
    cases rr
    refine thn ((pk_cons (X := X) (kws := []) (pe_int (X := X) (i := k0) (j := j) (pos := kp)) pk_nil).run pos pins s1 σ H1 (fun vs H2 => vs = [V.int k0] ∧ H2 = H1) I1 ⟨rfl, rfl⟩) fun ks s2 ⟨zs, H2, I2, r2, e2, eH⟩ => ?_
    subst e2 eH
    cases r2 with
    | cons rk rr =>
      cases rr
      obtain ⟨t, rfl⟩ := rk
      exact en_go I2 r q1 fun o Hb Q B hb k => enum_begins_start B hb h0 h1 k
/-! the mini walk -/
def enumItems (k0 : Int) (xs : List MV) : List MV := xs.zipIdx.map fun p => .tup [.int (k0 + (p.2 : Nat)), p.1]
def mEnum (k0 : Int) (f : ME) : MS → Out MI := fun s => (f s).bind fun r s1 => (itOf r s1).bind fun I s2 => .ok ⟨enumItems k0 I.items, I.chk⟩ s2
theorem enum_len {k0 : Int} {xs : List MV} : (enumItems k0 xs).length = xs.length := by simp [enumItems]
theorem enum_get {k0 : Int} {xs : List MV} {i : Nat} {x : MV} (h : (enumItems k0 xs)[i]? = some x) : ∃ y, xs[i]? = some y ∧ x = .tup [.int (k0 + (i : Nat)), y] := by
  simp only [enumItems, List.getElem?_map, Option.map_eq_some_iff, List.getElem?_zipIdx] at h
  obtain ⟨⟨y, j⟩, ⟨y', hy, e⟩, e2⟩ := h
  cases e
  exact ⟨_, hy, by rw [← e2]; simp⟩
theorem en_yield {K : PySem.W.Frag} {G : Gh} {H : Hp} {k0 : Int} {J0 : It} {stp : Nat → Hp → Prop} {xs : List MV} (hR : ∀ i x v, xs[i]? = some x → J0.yld i H v H → VR R.K G H x v) :
    ∀ i x v H3, (enumItems k0 xs)[i]? = some x → (ItEn k0 J0 stp).yld i H v H3 → Yields R G H x v H3 := fun i x v H3 hx y => by
  obtain ⟨T, u, rfl, hT, rfl, y⟩ := y
  obtain ⟨z, hz, rfl⟩ := enum_get hx
  exact .inr ⟨T, _, _, rfl, rfl, hT, rfl, .cons VR.mkInt (.cons (hR i z u hz y) .nil)⟩
theorem en_src {F : FI} {σ : L2.St} {G G1 : Gh} {H H1 : Hp} {s1 : MS} {r : RV} {v : V} {k0 : Int} {Rr : It → Hp → Prop} (hK : R.K = X.K) (w : Way R F σ G H G1 H1 s1) (rr : RR R σ H G1 H1 r v)
    (o : OutX rlI R F W σ G H ((itOf r s1).bind fun I s2 => .ok ⟨enumItems k0 I.items, I.chk⟩ s2) Rr) : iEn X.K k0 v H1 Rr := by
  obtain ⟨I, s2, G2, w2, sr, o2⟩ := src_way w rr o
  rcases sr with ⟨a, e, ⟨vs, k⟩, h⟩ | ⟨a, e, ⟨vs, k⟩, h⟩ | ⟨z, e, hz⟩
  · refine .inl ⟨a, e, ⟨vs, by rw [← hK]; exact k⟩, o2 _ _ _ w2.rel w2.evo ?_⟩
    intro F2 G3 H2 s3 σ2 rel ev ck
    obtain ⟨ws, k2, h2⟩ := h F2 G3 H2 s3 σ2 rel ev ck
    obtain ⟨a1, _, a3⟩ := itl_ok (R := R) (xs := I.items) hK (by rw [← hK]; exact k2) h2
    refine ⟨fun i hi => a1 i (by rwa [enum_len] at hi), ⟨ws, by rw [← hK]; exact k2, by rw [enum_len]; exact h2.length.symm⟩, en_yield (K := X.K) fun i x v hx y => ?_⟩
    rcases a3 i x v H2 hx y with ⟨_, q⟩ | ⟨T, _, _, _, _, hT, eT, _⟩
    · exact q
    · exfalso
      have q := congrFun eT T
      rw [upd_same, hT] at q; cases q
  · refine .inr (.inl ⟨a, e, ⟨vs, by rw [← hK]; exact k⟩, o2 _ _ _ w2.rel w2.evo ?_⟩)
    intro F2 G3 H2 s3 σ2 rel ev ck
    obtain ⟨ws, k2, h2⟩ := h F2 G3 H2 s3 σ2 rel ev ck
    obtain ⟨a1, _, a3⟩ := itt_ok (R := R) (xs := I.items) hK (by rw [← hK]; exact k2) h2
    refine ⟨fun i hi => a1 i (by rwa [enum_len] at hi), ⟨ws, by rw [← hK]; exact k2, by rw [enum_len]; exact h2.length.symm⟩, en_yield (K := X.K) fun i x v hx y => ?_⟩
    rcases a3 i x v H2 hx y with ⟨_, q⟩ | ⟨T, _, _, _, _, hT, eT, _⟩
    · exact q
    · exfalso
      have q := congrFun eT T
      rw [upd_same, hT] at q; cases q
  · refine .inr (.inr ⟨_, e, o2 _ _ _ w2.rel w2.evo ?_⟩)
    intro F2 G3 H2 s3 σ2 rel ev ck
    obtain ⟨a1, _, a3⟩ := str_its (R := R) (z := z) (G := G3) (H := H2)
    refine ⟨fun i hi => a1 i (by rw [enum_len] at hi; rw [← hz]; exact hi), by rw [enum_len, hz, List.length_map]; exact (List.size_toArray ..).symm, en_yield (K := X.K) fun i x v hx y => (a3 i x v H2 (by rw [← hz]; exact hx) y).2⟩
theorem ji_enum {f : ME} (hm : X.mg "enumerate" = none) (he : JE X R W e f) (hg : Gl X "enumerate" := by rfl) (hs : starEach [e] X.env = [(false, eval e X.env)] := by rfl) :
    JI X R W (.Tuple elts kk tpos) (.Call (.Name "enumerate" p) [e] [] pos) (mEnum 0 f) := fun hK F => PI.imp (pi_en0 hg hm (he hK F) hs) fun σ H Rr h =>
  (first (M := rlE) h).mono fun v H1 ⟨G, r, s1, G1, w, rr, o⟩ => ⟨v, rfl, en_src hK w rr o⟩
theorem ji_enumK {f : ME} {k0 : Int} {j : Nat} {kp kpos : Pos} (hm : X.mg "enumerate" = none) (he : JE X R W e f) (hg : Gl X "enumerate" := by rfl) (h0 : -(2 ^ 63) ≤ k0 := by decide) (h1 : k0 < 2 ^ 63 := by decide) (hs : starEach [e] X.env = [(false, eval e X.env)] := by rfl) :
    JI X R W (.Tuple elts kk tpos) (.Call (.Name "enumerate" p) [e] [⟨some (Str.ofString "start"), .Constant (.int k0) j kp, kpos⟩] pos) (mEnum k0 f) := fun hK F => PI.imp (pi_enK hg hm (he hK F) h0 h1 hs) fun σ H Rr h =>
  (first (M := rlE) h).mono fun v H1 ⟨G, r, s1, G1, w, rr, o⟩ => ⟨v, rfl, en_src hK w rr o⟩
end
end Mi
set_option Elab.async false
set_option linter.all false
set_option maxRecDepth 100000
set_option maxHeartbeats 4000000
namespace Mi
open PySem PySem.Spec PyProof.Rows L2
theorem PO.imp {X : Cx} {e : Option Expr} {t t' : TO} (h : PO X e t) (k : ∀ σ H Q, t' σ H Q → t σ H Q) : PO X e t' := ⟨fun pins s σ H Q I q => h.run pins s σ H Q I (k σ H Q q)⟩
section
variable {X : Cx} {R : RC} {W : WX} {F : FI} {σ : L2.St} {G G1 : Gh} {H H1 : Hp} {s s1 : MS} {pos : Pos}
/-! slices -/
def rlO : RL (Option Int) (Option Int) := ⟨fun _ _ _ _ _ r v => v = r, fun _ h => h, fun _ h => h⟩
def JO (X : Cx) (R : RC) (W : WX) (e : Option Expr) (f : MS → Out (Option Int)) : Prop := R.K = X.K → ∀ F, PO X e (tX rlO R F W f)
theorem jo_none : JO X R W none (fun s => .ok none s) := fun _ F => PO.imp po_none fun σ H Q ⟨G, s, rel, h⟩ => h G H _ rel .refl rfl
def mPart (f : ME) : MS → Out (Option Int) := fun s => (f s).bind fun r s1 => match r with | .v (.int i) => .ok (some i) s1 | _ => .bad
theorem jo_some {e : Expr} {f : ME} (he : JE X R W e f) : JO X R W (some e) (mPart f) := fun hK F => PO.imp (po_some (he hK F)) fun σ H Q h =>
  (first (M := rlE) h).mono fun y H1 ⟨G, r, s1, G1, w, rr, o⟩ => by
    have rr : RR R σ H G1 H1 r y := rr
    split at o
    · cases RR.int rr; exact ⟨_, rfl, o _ _ _ w.rel w.evo rfl⟩
    · exact o.elim
def cutM {α : Type} (xs : List α) (lo hi : Option Int) : List α := (xs.drop (HT.sIx xs.length 0 lo)).take (HT.sIx xs.length xs.length hi - HT.sIx xs.length 0 lo)
def opSlice (r : RV) (lo hi : Option Int) (s : MS) : Out RV := match r with
  | .v (.str z) => if z.length ≤ sizeLine then .ok (.v (.str (cutM z lo hi))) s else .bad
  | .v (.tup xs) => .ok (.v (.tup (cutM xs lo hi))) s
  | r => match lstOf s r with | some xs => .ok (.own (.lst (cutM xs lo hi))) s | none => .bad
theorem cut_whole {α : Type} {xs : List α} {lo hi : Option Int} (h : HT.sIx xs.length 0 lo = 0 ∧ HT.sIx xs.length xs.length hi = xs.length) : cutM xs lo hi = xs := by
  unfold cutM; rw [h.1, h.2]; simp
def mSlice (fa : ME) (fl fh : MS → Out (Option Int)) : ME := fun s => (fa s).bind fun r s1 => (fl s1).bind fun lo s2 => (fh s2).bind fun hi s3 => opSlice r lo hi s3
theorem VRs.cut {K : PySem.W.Frag} {G : Gh} {H : Hp} {xs : List MV} {vs : List V} (h : VRs K G H xs vs) (lo hi : Option Int) : VRs K G H (cutM xs lo hi) (cutV vs lo hi) := by
  unfold cutM cutV
  rw [← h.length]
  exact (h.drop _).take _
theorem je_slice {a : Expr} {lo hi : Option Expr} {p2 : Pos} {fa : ME} {fl fh : MS → Out (Option Int)} (ha : JE X R W a fa) (hl : JO X R W lo fl) (hu : JO X R W hi fh) : JE X R W (.Subscript a (.Slice lo hi none p2) pos) (mSlice fa fl fh) := fun hK F =>
  PE.imp (pe_slice ((sl_list.or sl_str).or sl_tupA) (ha hK F) (hl hK F) (hu hK F)) fun σ H Q h => by
    refine (first (M := rlE) h).mono fun x H1 ⟨G, r, s1, G1, w, rr, o⟩ => ?_
    refine (next (M := rlO) w o).mono fun l H2 ⟨l', s2, G2, w2, e12, el, o2⟩ => ?_
    refine (next (M := rlO) w2 o2).mono fun u H3 ⟨u', s3, G3, w3, e23, eu, o3⟩ => ?_
    have el : l = l' := el
    have eu : u = u' := eu
    subst el eu
    have rr : RR R σ H G1 H1 r x := rr
    have rr3 : RR R σ H G3 H3 r x := (rr.mono e12).mono e23
    unfold opSlice at o3
    split at o3
    · cases RR.str rr3
      split at o3
      · rename_i z hz
        refine .inl (.inr ⟨_, rfl, by simpa [PySem.Str.length] using hz, finS w3 o3 ?_⟩)
        unfold cutS cutM
        simp [PySem.Str.length]
      · exact o3.elim
    · obtain ⟨a, vs, rfl, k, q⟩ := RR.tup rr3
      refine .inr ⟨a, vs, rfl, by rw [← hK]; exact k, fun e => ?_, fun _ => newTup w3 (q.cut l u) o3⟩
      rw [← q.length] at e
      rw [cut_whole e] at o3
      exact finV w3 o3 rr3
    · split at o3
      · rename_i xs hx
        obtain ⟨a, vs, rfl, k, q⟩ := lst_ok w3.rel rr3 hx
        exact .inl (.inl ⟨a, vs, rfl, by rw [← hK]; exact k, newLst w3 (q.cut l u) o3⟩)
      · exact o3.elim
/-! [::-1] -/
theorem rev_pick (z : List Nat) : ((Builtin.Str.strSliceIndices none none (-1) ({cps := z.toArray} : Str).length).filterMap (({cps := z.toArray} : Str).cps[·]?)) = z.reverse := by
  rw [picked_rev, filterMap_get, List.map_map]
  · apply List.ext_getElem
    · simp [PySem.Str.length]
    · intro i h1 h2
      have hl : i < z.length := by simpa using h2
      simp only [List.getElem_map, List.getElem_range, Function.comp, List.getElem_reverse, PySem.Str.length, List.size_toArray]
      simp [Array.getD]
      rw [dif_pos (by omega)]
  · intro i hi
    obtain ⟨k, hk, rfl⟩ := List.mem_map.mp hi
    have hk' := List.mem_range.mp hk
    show _ < ({cps := z.toArray} : Str).length
    omega
def tRevA (K : PySem.W.Frag) (te : TE) : TE := fun σ H Q => te σ H fun x H1 => (∃ a xs, x = .ref a ∧ SqL K H1 a xs ∧ ∀ p, H1 p = none → Q (.ref p) (upd H1 p (.lst xs.reverse))) ∨ ∃ z : List Nat, x = .str ⟨z.toArray⟩ ∧ z.length ≤ sizeLine ∧ Q (.str ⟨z.reverse.toArray⟩) H1
theorem pe_revA {e : Expr} {te : TE} {k : Nat} {p1 p2 p3 pos : Pos} (he : PE X e te) : PE X (.Subscript e (.Slice none none (some (.UnaryOp .USub (.Constant (.int 1) k p1) p2)) p3) pos) (tRevA X.K te) := by
  refine ⟨fun pins s σ H Q I h => ?_⟩
  refine Subscript_ (thn (he.run pins s σ H _ I h) fun v s1 ⟨x, H1, I1, r1, q1⟩ => ?_)
  have hst : PO X (some (.UnaryOp .USub (.Constant (.int 1) k p1) p2)) (tPart (tUn (rU fun i => .int (-i)) (tC (.int 1)))) := po_some (pe_un un_neg pe_int)
  refine wpAny_Slice (thn (po_none.run pins s1 σ H1 (fun o H2 => o = none ∧ H2 = H1) I1 ⟨rfl, rfl⟩) fun vl s2 ⟨l, H2, I2, pl, el, e2⟩ => ?_)
  subst el e2
  refine thn (po_none.run pins s2 σ H2 (fun o H3 => o = none ∧ H3 = H2) I2 ⟨rfl, rfl⟩) fun vu s3 ⟨u, H3, I3, pu, eu, e3⟩ => ?_
  subst eu e3
  refine thn (hst.run pins s3 σ H3 (fun o H4 => o = some (-1) ∧ H4 = H3) I3 ⟨1, rfl, -1, rfl, rfl, rfl⟩) fun vs s4 ⟨o, H4, I4, ps, eo, e4⟩ => ?_
  subst eo e4
  have I5 : Inv X pins σ H4 { s4 with heap := s4.heap.push { cls := .type "slice", data := .fields #[vl, vu, vs] } } := I4.kept (t' := s4.toks) fun b ob q => Heap.get?_push_of_some _ q
  rcases q1 with ⟨a, xs, ex, hx, q⟩ | ⟨z, ex, hz, q⟩
  · subst ex
    cases r1
    obtain ⟨its, r, ht, hz⟩ := I5.list hx
    have hlen := r.length
    show wpAny (model X.prog X.w) X.A (subscriptTail e (.Slice none none (some (.UnaryOp .USub (.Constant (.int 1) k p1) p2)) p3) (.ref a) (.ref s4.heap.objs.size)) (EP X pins σ Q) X.xe { s4 with heap := s4.heap.push { cls := .type "slice", data := .fields #[vl, vu, vs] } }
    refine tail_any (ops := [.ref a, .ref s4.heap.objs.size]) ht.isList.typeIs (PySem.slot_list_getitem.lookup) ?_ (by with_unfolding_all rfl)
    refine wpAny_getItem_list_slice ht.isList (Heap.IsSliceOf.new _ vl vu vs) pl pu ps (by decide) ?_ (by rw [List.size_toArray]; omega)
    rw [PySem.W.krv_pick]
    refine ⟨.ref _, _, I5.laid (t' := s4.toks) (o := .lst xs.reverse) (fun b ob q => Heap.get?_push_of_some _ q) (Nat.le_refl _) ?_, rfl, q _ (I5.hok.fresh (Nat.le_refl _))⟩
    exact ⟨by rw [List.length_reverse]; exact hz, _, 0, r.reverse, Heap.get?_push_size _ rfl⟩
  · subst ex
    obtain ⟨t, rfl⟩ := r1
    obtain ⟨l, rfl, el⟩ := IsPart.raw pl
    obtain ⟨u, rfl, eu⟩ := IsPart.raw pu
    obtain ⟨w, rfl, ew⟩ := IsPart.raw ps
    have hl0 : l = none := by cases l with | none => rfl | some q => cases el
    have hu0 : u = none := by cases u with | none => rfl | some q => cases eu
    subst hl0 hu0
    cases w with
    | none => cases ew
    | some w =>
      obtain ⟨w0, tw⟩ := w
      cases ew
      show wpAny (model X.prog X.w) X.A (subscriptTail e (.Slice none none (some (.UnaryOp .USub (.Constant (.int 1) k p1) p2)) p3) (.str ⟨z.toArray⟩ t) (.ref s4.heap.objs.size)) (EP X pins σ Q) X.xe { s4 with heap := s4.heap.push { cls := .type "slice", data := .fields #[_, _, _] } }
      refine tail_any (ops := [.str ⟨z.toArray⟩ t, .ref s4.heap.objs.size]) (typeIs_str _ _ _) F.slot_str_getitem.lookup ?_ (by with_unfolding_all rfl)
      refine wpAny_getItem_str_slice (l := none) (u := none) (st := some (-1, tw)) ⟨_, Heap.get?_push_size _ rfl, rfl, rfl⟩ (by rfl) ?_
      unfold sliceMade
      rw [if_neg (by simp)]
      have e2 : slicePicked ⟨z.toArray⟩ none none (some (-1, tw)) = Builtin.Str.strSliceIndices none none (-1) ({cps := z.toArray} : Str).length := rfl
      rw [e2, rev_pick]
      refine ⟨by simpa [PySem.Str.length] using hz, .str _, _, I5.tok _, ⟨_, rfl⟩, q⟩
def opRev (r : RV) (s : MS) : Out RV := match r with
  | .v (.str z) => if z.length ≤ sizeLine then .ok (.v (.str z.reverse)) s else .bad
  | r => match lstOf s r with | some xs => .ok (.own (.lst xs.reverse)) s | none => .bad
def mRev (fa : ME) : ME := fun s => (fa s).bind opRev
theorem je_rev {a : Expr} {fa : ME} {k : Nat} {p1 p2 p3 : Pos} (ha : JE X R W a fa) : JE X R W (.Subscript a (.Slice none none (some (.UnaryOp .USub (.Constant (.int 1) k p1) p2)) p3) pos) (mRev fa) := fun hK F =>
  PE.imp (pe_revA (ha hK F)) fun σ H Q h => by
    refine (first (M := rlE) h).mono fun x H1 ⟨G, r, s1, G1, w, rr, o⟩ => ?_
    have rr : RR R σ H G1 H1 r x := rr
    unfold opRev at o
    split at o
    · cases RR.str rr
      split at o
      · rename_i z hz
        exact .inr ⟨_, rfl, hz, finS w o rfl⟩
      · exact o.elim
    · split at o
      · rename_i xs hx
        obtain ⟨a, vs, rfl, k, q⟩ := lst_ok w.rel rr hx
        exact .inl ⟨a, vs, rfl, by rw [← hK]; exact k, newLst w q.reverse o⟩
      · exact o.elim
/-! methods of texts -/
def PrimS (R : RC) (r : V → List V → Hp → VK → Prop) (p : List Nat → List RV → MS → Out RV) : Prop := ∀ {F : FI} {W : WX} {σ : L2.St} {G : Gh} {H : Hp} {G2 : Gh} {H2 : Hp} {s2 : MS} {z : List Nat} {rs : List RV} {vs : List V} {Q : VK},
  Way R F σ G H G2 H2 s2 → RRs R σ H G2 H2 rs vs → OutX rlE R F W σ G H (p z rs s2) Q → r (.str ⟨z.toArray⟩) vs H2 Q
def mSM (p : List Nat → List RV → MS → Out RV) (fo : ME) (fa : MS → Out (List RV)) : ME := fun s => (fo s).bind fun r s1 => match r with
  | .v (.str z) => (fa s1).bind fun rs s2 => p z rs s2
  | _ => .bad
theorem je_sm {o e : Expr} {es : List Expr} {name : Str} {id : String} {apos cpos : Pos} {r : V → List V → Hp → VK → Prop} {p : List Nat → List RV → MS → Out RV} {fo : ME} {fa : MS → Out (List RV)} (slot : Slot "str" name id) (hty : typeOf (.builtin id) = pure (.type "method_descriptor")) (hm : MtR X id r) (pr : R.K = X.K → PrimS R r p) (ho : JE X R W o fo) (ha : JA X R W (e :: es) fa)
    (hbase : attributeBase o name X.env (eval o X.env) = eval o X.env := by rfl)
    (hfew : ((backTo cpos (starEach (e :: es) X.env)).all (fun x => !x.1) && (backToKw cpos (keywordEach [] X.env)).all (fun x => x.1.isSome)
      && decide ((e :: es).length + ([] : List Keyword).length + (if ([] : List Keyword).isEmpty then 0 else 1) < 30)) = true := by rfl)
    (hline : (apos.endLine == cpos.line) = true := by rfl) (hs : starEach (e :: es) X.env = (false, eval e X.env) :: starEach es X.env := by rfl) (hplain : (backTo cpos (starEach es X.env)).any (·.1) = false := by rfl) :
    JE X R W (.Call (.Attribute o name apos) (e :: es) [] cpos) (mSM p fo fa) := fun hK F =>
  PE.imp (pe_bm PySem.F.plainAttrs_str slot hty hm (ho hK F) (ha hK F) hbase hfew hline hs hplain) fun σ H Q h => by
    refine (first (M := rlE) h).mono fun x H1 ⟨G, r, s1, G1, w, rr, o⟩ => ?_
    have rr : RR R σ H G1 H1 r x := rr
    split at o
    · cases RR.str rr
      refine ⟨rfl, ?_⟩
      refine (next (M := rlR) w o).mono fun vs H2 ⟨rs, s2, G2, w2, e12, rr2, o2⟩ => ?_
      exact pr hK w2 rr2 o2
    · exact o.elim
def joinM (a : List Nat) : List (List Nat) → List Nat
  | [] => []
  | [x] => x
  | x :: y :: r => x ++ a ++ joinM a (y :: r)
theorem fold_cps (a : List Nat) : ∀ (l : List (List Nat)) (i : Array Nat), (List.foldl (fun acc (p : Str) => acc ++ (a.toArray ++ p.cps)) i (l.map fun s => (⟨s.toArray⟩ : Str))).toList = i.toList ++ l.flatMap (a ++ ·)
  | [], i => by simp
  | x :: l, i => by rw [List.map_cons, List.foldl_cons, fold_cps a l]; simp
theorem join_cps (a : List Nat) : ∀ ys : List (List Nat), (Txt.join ⟨a.toArray⟩ (ys.map fun s => (⟨s.toArray⟩ : Str))).cps.toList = joinM a ys
  | [] => rfl
  | [x] => rfl
  | x :: y :: r => by
    have ih := join_cps a (y :: r)
    simp only [joinM, ← ih]
    simp [Txt.join, Builtin.Str.glued, fold_cps]
def pJoin (z : List Nat) (rs : List RV) (s : MS) : Out RV := match rs with
  | [r] => match (seqOf s r).bind strsOf with
    | some ys => if (ys.map (·.length)).sum + ys.length * z.length ≤ 16777216 then .ok (.v (.str (joinM z ys))) s else .bad
    | none => .bad
  | _ => .bad
theorem pr_join : PrimS R (fun x xs H Q => ∃ a p, ∃ ys : List Str, x = .str a ∧ xs = [.ref p] ∧ (SqL R.K H p (ys.map V.str) ∨ SqT R.K H p (ys.map V.str)) ∧
    (ys.map (·.length)).sum + ys.length * a.length ≤ 16777216 ∧ Q (.str (Txt.join a ys)) H) pJoin := fun {F W σ G H G2 H2 s2 z rs vs Q} w rr o => by
  unfold pJoin at o
  split at o
  · obtain ⟨v, t, rfl, r1, rfl⟩ := rr
    split at o
    · rename_i ys e
      split at o
      · rename_i hz
        obtain ⟨xs, e1, e2⟩ := Option.bind_eq_some_iff.mp e
        obtain ⟨a, ws, rfl, k, h⟩ := seq_ok w.rel r1 e1
        rw [strs_ok h e2] at k
        refine ⟨_, a, _, rfl, rfl, k, ?_, finS w o (join_cps z ys)⟩
        simpa [PySem.Str.length, Function.comp_def] using hz
      · exact o.elim
    · exact o.elim
  · exact o.elim
def pIndexS (z : List Nat) (rs : List RV) (s : MS) : Out RV := match rs with
  | [.v (.str y)] => match Builtin.Str.occurrences ⟨z.toArray⟩ ⟨y.toArray⟩ 0 z.length 1 with
    | i :: _ => .ok (.v (.int i)) s
    | [] => .bad
  | _ => .bad
theorem pr_sindex : PrimS R (fun x xs H Q => ∃ a b i rest, x = .str a ∧ xs = [.str b] ∧ Builtin.Str.occurrences a b 0 a.length 1 = i :: rest ∧ Q (.int (i : Nat)) H) pIndexS := fun {F W σ G H G2 H2 s2 z rs vs Q} w rr o => by
  unfold pIndexS at o
  split at o
  · obtain ⟨v, t, rfl, r1, rfl⟩ := rr
    cases RR.str r1
    split at o
    · rename_i i rest e
      exact ⟨_, _, i, rest, rfl, rfl, by simpa [PySem.Str.length] using e, finI w o⟩
    · exact o.elim
  · exact o.elim
/-! globals -/
theorem je_glob {x : Str} {v : V} {u : Value} {y : MV} (hm : X.mg x = some u) (r : RelV v u) (vr : ∀ G H, VR R.K G H y v) (hg : Gl X x := by rfl) (hd : (x == ("__debug__" : Str)) = false := by decide) : JE X R W (.Name x pos) (mC y) := fun _ F =>
  PE.imp (pe_glob hg hm r hd) fun σ H Q ⟨G, s, rel, h⟩ => h G H _ rel .refl (vr G H)
/-! repr -/
theorem call_repr_bl : CallR X (.builtin "repr") (fun xs H Q => ∃ b, xs = [.bl b] ∧ Q (.str (if b then "True" else "False")) H) := by
  intro pins s σ H xs us Q I r h
  obtain ⟨i, rfl, q⟩ := h
  cases r with
  | cons r1 r2 =>
    cases r2
    cases r1
    exact PySem.P.repr_of_bool ⟨.str _, H, I.tok _, ⟨_, rfl⟩, q⟩
def pReprB (rs : List RV) (s : MS) : Out RV := match rs with
  | [.v (.bl b)] => .ok (.v (.str (if b then [84, 114, 117, 101] else [70, 97, 108, 115, 101]))) s
  | _ => .bad
theorem pr_reprB : PrimC R (fun xs H Q => ∃ b, xs = [.bl b] ∧ Q (.str (if b then "True" else "False")) H) pReprB := fun {F W σ G H G2 H2 s2 rs vs Q} w rr o => by
  unfold pReprB at o
  split at o
  · obtain ⟨v, t, rfl, r1, rfl⟩ := rr
    cases RR.bl r1
    rename_i b
    refine ⟨_, rfl, finS w o ?_⟩
    cases b <;> rfl
  · exact o.elim
/-! a[i] = e -/
theorem nextS {γ δ : Type} {M : RL γ δ} {fb : MS → Out γ} {k : γ → MS → Out Fl} {D : Ends} (w : Way R F σ G H G1 H1 s1) (h : OutS R F W G H ((fb s1).bind k) D) :
    tX M R F W fb σ H1 (fun y H2 => ∃ r s2 G2, Way R F σ G H G2 H2 s2 ∧ Evo EvT G1 H1 G2 H2 ∧ M.rel R σ H G2 H2 r y ∧ OutS R F W G H (k r s2) D) := by
  refine ⟨G1, s1, w.rel, ?_⟩
  cases q : fb s1 with
  | ok r s2 =>
    rw [q] at h
    intro G' H' v rel' ev rr
    exact ⟨r, s2, G', ⟨rel', w.evo.trans ev, w.st⟩, ev, M.back w.evo rr, h⟩
  | exc c xs s2 => rw [q] at h; exact fun G' H' cls d rel' ev e => h G' σ H' cls d rel' (w.evS.trans (ev.weak fun _ _ => trivial)) e
  | bad => rw [q] at h; exact h
def setIx (r : RV) (i : RV) (x : MV) (s : MS) : Out Fl := match i with
  | .v (.int k) => match place s r with
    | some (.lst xs) => match ixN xs.length k with
      | some j => .ok .next (putC s r (.lst (xs.set j x)))
      | none => .bad
    | _ => .bad
  | _ => .bad
def mSetIx (fe fo fi : ME) : MSt := fun s => (mSh fe s).bind fun x s1 => (fo s1).bind fun r s2 => (fi s2).bind fun i s3 => setIx r i x s3
theorem js_setix {o i e : Expr} {fe fo fi : ME} {tpos : Pos} (he : JE X R W e fe) (ho : JE X R W o fo) (hi : JE X R W i fi) (hs : swapsWithSole [.Subscript o i tpos] e pos.line X.env = pure false := by rfl) (hw : swappedStores [.Subscript o i tpos] e X.env = pure none := by rfl)
    (h1 : (assignEach [.Subscript o i tpos] X.env).map (·.2) = [assign (.Subscript o i tpos) X.env] := by rfl)
    (ha : ∀ v, assign (.Subscript o i tpos) X.env v = (do
      let ov ← holding [v] (eval o X.env)
      let iv ← holding [v, ov] (eval i X.env)
      standAt tpos
      holding [v, ov, iv] (setItem ov iv v)
      release [v, ov, iv] []) := by intro _; rfl) : JS X R W (.Assign [.Subscript o i tpos] e pos) (mSetIx fe fo fi) := fun hK F =>
  PS.imp (ps_asg (jv_of he hK F) (pg_sub (ho hK F) (hi hK F) set_list ha) hs hw h1) fun D σ H h => by
    refine (firstS (M := rlV) h).mono fun v H1 ⟨G, x, s1, G1, w, vx, o⟩ => ?_
    refine (nextS (M := rlE) w o).mono fun ov H2 ⟨r, s2, G2, w2, e12, rr, o2⟩ => ?_
    refine (nextS (M := rlE) w2 o2).mono fun iv H3 ⟨ir, s3, G3, w3, e23, ri, o3⟩ => ?_
    have rr : RR R σ H G2 H2 r ov := rr
    have ri : RR R σ H G3 H3 ir iv := ri
    have vx : VR R.K G1 H1 x v := vx
    have rr3 := rr.mono e23
    have vx3 := VR.mono (e12.trans e23).mo _ _ vx
    unfold setIx at o3
    split at o3
    · cases RR.int ri
      split at o3
      · rename_i xs hp
        split at o3
        · rename_i j hj
          obtain ⟨a, rfl, ⟨vs, ha, hvs⟩, ⟨q, gq, nf⟩, put⟩ := put_ok w3.rel rr3 hp
          refine ⟨a, vs, _, j, rfl, rfl, ha, by rw [← hvs.length]; exact hj, ?_⟩
          have gn : G3 a ≠ some .frz := fun z => nf (by rw [z] at gq; exact (Option.some.inj gq).symm)
          have mu : Mo G3 H3 G3 (upd H3 a (.lst (vs.set j v))) := Mo.upd gn
          have hc : CR R.K G3 (upd H3 a (.lst (vs.set j v))) (.lst (xs.set j x)) a := ⟨_, upd_same, VRs.set (VR.mono mu _ _ vx3) j (VRs.mono mu _ _ hvs)⟩
          exact o3 _ _ _ (put _ hc) (w3.evS.trans (Evo.updRole gn (by rw [gq]; simp) (fun x u z => by rw [ha] at z; cases z)))
        · exact o3.elim
      · exact o3.elim
    · exact o3.elim
/-! targets taken apart -/
def mAsg (f : ME) (ft : MG) : MSt := fun s => (mSh f s).bind fun x s1 => match ft x s1 with | some s2 => .ok .next s2 | none => .bad
theorem js_asg {tg e : Expr} {f : ME} {ws : List Nat} {ft : MG} (he : JE X R W e f) (hg : JG X R tg ws ft) (hs : swapsWithSole [tg] e pos.line X.env = pure false := by rfl) (hw : swappedStores [tg] e X.env = pure none := by rfl)
    (h1 : (assignEach [tg] X.env).map (·.2) = [assign tg X.env] := by rfl) : JS X R W (.Assign [tg] e pos) (mAsg f ft) := fun hK F =>
  PS.imp (ps_asg (jv_of he hK F) (hg hK F) hs hw h1) fun D σ H h => by
    refine (firstS (M := rlV) h).mono fun v H1 ⟨G, x, s1, G1, w, vx, o⟩ => ?_
    refine ⟨G1, s1, x, w.rel, vx, ?_⟩
    split at o
    · rename_i s2 e
      first | rw [e] | skip
      exact fun σ' rel' _ => o _ _ _ rel' w.evS
    · exact o.elim
/-- a, b = x, y -/
def mPar (i j : Nat) (fa : MS → Out (List MV)) : MSt := fun s => (fa s).bind fun xs s1 => match xs with
  | [x, y] => if i < s1.env.length ∧ j < s1.env.length then .ok .next { s1 with env := (s1.env.set i (some (.v x))).set j (some (.v y)) } else .bad
  | _ => .bad
/-- name targets stored in order -/
def putSlots : List (Nat × MV) → MS → Out Fl
  | [], s => .ok .next s
  | (i, x) :: r, s => if i < s.env.length then putSlots r { s with env := s.env.set i (some (.v x)) } else .bad
theorem js_par {i j : Nat} {x y : Str} {a b : Expr} {fa : MS → Out (List MV)} {px py pt : Pos} {kt k2 pt2} (hc : X.calm = true) (hN : X.N.Nodup) (hi : X.N[i]? = some x) (hj : X.N[j]? = some y) (hij : i ≠ j) (ha : JAs X R W [a, b] fa)
    (hx : X.env.scope.names.lookup x = some .local := by rfl) (hy : X.env.scope.names.lookup y = some .local := by rfl)
    (hw : swappedStores [.Tuple [.Name x px, .Name y py] kt pt] (.Tuple [a, b] k2 pt2) X.env = pure (some [x, y]) := by rfl)
    (hs : swapsWithSole [.Tuple [.Name x px, .Name y py] kt pt] (.Tuple [a, b] k2 pt2) pos.line X.env = pure false := by rfl) :
    JS X R W (.Assign [.Tuple [.Name x px, .Name y py] kt pt] (.Tuple [a, b] k2 pt2) pos) (mPar i j fa) := fun hK F =>
  PS.imp (ps_par hc hN hi hj hij hx hy (ha hK F) hw hs) fun D σ H h => by
    refine (firstS (M := rlS) h).mono fun vs H1 ⟨G, xs, s1, G1, w, vx, o⟩ => ?_
    have vx : VRs R.K G1 H1 xs vs := vx
    split at o
    · rename_i rr0 x1 y1
      obtain ⟨v, r, rfl, p, q⟩ := vx.inv
      obtain ⟨u, r2, rfl, p2, q2⟩ := q.inv
      unfold VRs at q2
      subst q2
      split at o
      · rename_i hij
        refine ⟨v, u, rfl, ?_⟩
        have r1 := w.rel.setSlot (sv := some (.v rr0)) hij.1 fun z e => by cases e; exact p
        exact o _ _ _ (r1.setSlot (sv := some (.v x1)) (by simpa using hij.2) fun z e => by cases e; exact p2) w.evS
      · exact o.elim
    · exact o.elim
end
end Mi
set_option Elab.async false
set_option linter.all false
set_option maxRecDepth 100000
set_option maxHeartbeats 4000000
namespace Mi
open PySem PySem.Spec PyProof.Rows L2
def permL {α : Type} (idx : List Nat) (l : List α) : List α := idx.filterMap fun i => l[i]?
theorem VRs.none {K : PySem.W.Frag} {G : Gh} {H : Hp} {xs : List MV} {vs : List V} {i : Nat} (h : VRs K G H xs vs) (e : xs[i]? = none) : vs[i]? = none := by
  have := h.length
  rw [List.getElem?_eq_none_iff] at *
  omega
theorem VRs.perm {K : PySem.W.Frag} {G : Gh} {H : Hp} {xs : List MV} {vs : List V} (h : VRs K G H xs vs) : ∀ idx, VRs K G H (permL idx xs) (permL idx vs)
  | [] => VRs.nil (K := K) (G := G) (H := H)
  | i :: r => by
    unfold permL
    cases e : xs[i]? with
    | none => simp only [List.filterMap_cons, e, h.none e]; exact h.perm r
    | some x =>
      obtain ⟨v, hv, q⟩ := h.get e
      simp only [List.filterMap_cons, e, hv]
      exact .cons q (h.perm r)
theorem vals_get {vs : List V} {us : List Value} (h : Vals vs us) : ∀ i : Nat, (vs[i]? = none ∧ us[i]? = none) ∨ ∃ (v : V) (u : Value), vs[i]? = some v ∧ us[i]? = some u ∧ RelV v u := by
  induction h with
  | nil => exact fun i => .inl ⟨rfl, rfl⟩
  | cons r _ ih =>
    intro i
    cases i with
    | zero => exact .inr ⟨_, _, rfl, rfl, r⟩
    | succ i => simpa using ih i
theorem vals_perm {vs : List V} {us : List Value} (h : Vals vs us) : ∀ idx, Vals (permL idx vs) (permL idx us)
  | [] => .nil
  | i :: r => by
    unfold permL
    rcases vals_get h i with ⟨e1, e2⟩ | ⟨v, u, e1, e2, q⟩
    · simp only [List.filterMap_cons, e1, e2]; exact vals_perm h r
    · simp only [List.filterMap_cons, e1, e2]; exact .cons q (vals_perm h r)
def KB (fd : FuncData) (ps ks : List Str) (np : Nat) (idx : List Nat) : Prop := ∀ (s : Shared) (us ws : List Value), us.length = np → ws.length = ks.length → BindsTo s fd ⟨us, ks.zip ws⟩ (ps.zip (permL idx (us ++ ws)))
section
variable {X : Cx} {R : RC} {W : WX} {pos pp apos : Pos} {x : Str} {f : Addr} {fd : FuncData} {ps ks : List Str} {n np k : Nat} {run : Fn} {idx : List Nat} {kws : List Keyword}
def JKs (X : Cx) (R : RC) (W : WX) (kws : List Keyword) (f : MS → Out (List MV)) : Prop := R.K = X.K → ∀ F, PK X kws (tVs R F W f)
theorem PK.imp {X : Cx} {e : List Keyword} {t t' : TA} (h : PK X e t) (k : ∀ σ H Q, t' σ H Q → t σ H Q) : PK X e t' := ⟨fun pos pins s σ H Q I q => h.run pos pins s σ H Q I (k σ H Q q)⟩
theorem jks_nil : JKs X R W [] (fun s => .ok [] s) := fun _ F => PK.imp pk_nil fun σ H Q ⟨G, s, rel, h⟩ => h G H _ rel .refl (VRs.nil (K := R.K) (G := G) (H := H))
theorem jks_cons {e : Expr} {kpos : Pos} {nm : Option Str} {f : ME} {fs : MS → Out (List MV)} (he : JE X R W e f) (hs : JKs X R W kws fs) : JKs X R W (⟨nm, e, kpos⟩ :: kws) (mConsS f fs) := fun hK F =>
  PK.imp (pk_cons (jv_of he hK F) (hs hK F)) fun σ H Q h => by
    refine (first (M := rlV) h).mono fun x H1 ⟨G, r1, s1, G1, w, rr, o⟩ => ?_
    exact (next (M := rlS) w o).mono fun ys H2 ⟨rs, s2, G2, w2, e12, rr2, o2⟩ => o2 _ _ _ w2.rel w2.evo (VRs.cons (VR.mono e12.mo _ _ rr) rr2)
/-- f(k = v, ..) -/
def mCallK0 (run : Fn) (n nk : Nat) (idx : List Nat) (fk : MS → Out (List MV)) : ME := fun s => (fk s).bind fun ys s1 => if ys.length = nk ∧ (permL idx ys).length = n then mRun run (permL idx ys) s1 else .bad
theorem je_callK0 {fk : MS → Out (List MV)} (Fo : FnOk X.prog X.w X.K X.mg X.base (L2.CX X.prog X.w) k f fd ps (spF R n run)) (tk : Takes X W) (hr : Room k X.A) (hm : X.mg x = some (.ref f)) (hk : PySem.W.keepIn X.K (.ref f) = true) (hb : KB fd ps ks 0 idx)
    (ha : JKs X R W kws fk) (hg : Gl X x := by rfl) (hdb : (x == ("__debug__" : Str)) = false := by decide) (hall : (backToKw pos (keywordEach kws X.env)).all (·.1.isSome) = true := by rfl) (hks : (backToKw pos (keywordEach kws X.env)).filterMap (·.1) = ks := by rfl)
    (hpl : ((backTo pos (starEach [] X.env)).any (·.1) || (backToKw pos (keywordEach kws X.env)).any (·.1.isNone)) = false := by rfl) :
    JE X R W (.Call (.Name x pp) [] kws pos) (mCallK0 run n ks.length idx fk) := fun hK F => by
  refine ⟨fun pins s σ H Q I h => ?_⟩
  refine wpAny_Call_Name_kw (ld_glob I hg hm ?_ hdb)
  refine PySem.W.callWith_KW0 (h₀ := X.base) I.ok.mod.kin hk hall (thn ((ha hK F).run pos pins s σ H _ I (first (M := rlS) h)) fun ws s2 ⟨zs, H2, I2, rz, G, ys, s1, G1, w, rr, o⟩ => ⟨I2.kIn, ?_⟩) hpl
  have rr : VRs R.K G1 H2 ys zs := rr
  split at o
  · rename_i hl
    rw [hks]
    have hw : ws.length = ks.length := by rw [← rz.length, ← rr.length]; exact hl.1
    have hb' := hb s2 [] ws rfl hw
    rw [List.nil_append] at hb'
    exact run_args (E := WE W) (args := ⟨[], ks.zip ws⟩) Fo hr hb' (passAt tk σ) I2 (vals_perm rz idx) (run_sp w (rr.perm idx) hl.2 o)
  · exact o.elim
/-- f() -/
def mCall0 (run : Fn) : ME := fun s => mRun run [] s
theorem je_call0 (Fo : FnOk X.prog X.w X.K X.mg X.base (L2.CX X.prog X.w) k f fd ps (spF R 0 run)) (tk : Takes X W) (hr : Room k X.A) (hm : X.mg x = some (.ref f)) (hk : PySem.W.keepIn X.K (.ref f) = true) (hb : Binds X.K fd ps [])
    (hg : Gl X x := by rfl) (hdb : (x == ("__debug__" : Str)) = false := by decide) : JE X R W (.Call (.Name x pp) [] [] pos) (mCall0 run) := fun hK F => by
  refine ⟨fun pins s σ H Q I h => ?_⟩
  refine wpAny_Call_Name_kw (ld_glob I hg hm ?_ hdb)
  obtain ⟨G, s1, rel, o⟩ := h
  have w : Way R F σ G H G H s1 := ⟨rel, .refl, rel.since⟩
  exact PySem.W.callWith_K0 I.kIn hk (run_all (us := []) (vs := []) (E := WE W) Fo hr hb (passAt tk σ) I .nil (run_sp (xs := []) w (VRs.nil (K := R.K) (G := G) (H := H)) rfl o))
/-- f(e, .., k = v, ..) -/
def mCallK (run : Fn) (n np nk : Nat) (idx : List Nat) (fa fk : MS → Out (List MV)) : ME := fun s => (fa s).bind fun xs s1 => (fk s1).bind fun ys s2 => if xs.length = np ∧ ys.length = nk ∧ (permL idx (xs ++ ys)).length = n then mRun run (permL idx (xs ++ ys)) s2 else .bad
theorem je_callK {e : Expr} {es : List Expr} {fa fk : MS → Out (List MV)} (Fo : FnOk X.prog X.w X.K X.mg X.base (L2.CX X.prog X.w) k f fd ps (spF R n run)) (tk : Takes X W) (hr : Room k X.A) (hm : X.mg x = some (.ref f)) (hk : PySem.W.keepIn X.K (.ref f) = true) (hb : KB fd ps ks np idx)
    (ha : JAs X R W (e :: es) fa) (hkw : JKs X R W kws fk) (hg : Gl X x := by rfl) (hdb : (x == ("__debug__" : Str)) = false := by decide) (hall : (backToKw pos (keywordEach kws X.env)).all (·.1.isSome) = true := by rfl) (hks : (backToKw pos (keywordEach kws X.env)).filterMap (·.1) = ks := by rfl)
    (he : starEach (e :: es) X.env = (false, eval e X.env) :: starEach es X.env := by rfl)
    (hpl : ((backTo pos (starEach (e :: es) X.env)).any (·.1) || (backToKw pos (keywordEach kws X.env)).any (·.1.isNone)) = false := by rfl) :
    JE X R W (.Call (.Name x pp) (e :: es) kws pos) (mCallK run n np ks.length idx fa fk) := fun hK F => by
  refine ⟨fun pins s σ H Q I h => ?_⟩
  refine wpAny_Call_Name_kw (ld_glob I hg hm ?_ hdb)
  refine PySem.W.callWith_KW (h₀ := X.base) I.ok.mod.kin hk hall (thn ((ha hK F).run pos pins s σ H _ I (first (M := rlS) h)) fun us s2 ⟨vs, H1, I1, r, G, xs, s1, G1, w, rr, o⟩ => ?_) hpl he
  refine thn ((hkw hK F).run pos pins s2 σ H1 _ I1 (next (M := rlS) w o)) fun ws s3 ⟨zs, H2, I2, rz, ys, s4, G2, w2, e12, rr2, o2⟩ => ⟨I2.kIn, ?_⟩
  have rr : VRs R.K G1 H1 xs vs := rr
  have rr2 : VRs R.K G2 H2 ys zs := rr2
  split at o2
  · rename_i hl
    rw [hks]
    have hw : ws.length = ks.length := by rw [← rz.length, ← rr2.length]; exact hl.2.1
    have hu : us.length = np := by rw [← r.length, ← rr.length]; exact hl.1
    exact run_args (E := WE W) (args := ⟨us, ks.zip ws⟩) Fo hr (hb s3 us ws hu hw) (passAt tk σ) I2 (vals_perm (r.append rz) idx) (run_sp w2 (((VRs.mono e12.mo _ _ rr).append rr2).perm idx) hl.2.2 o2)
  · exact o2.elim
end
end Mi
set_option Elab.async false
set_option linter.all false
set_option maxRecDepth 100000
set_option maxHeartbeats 4000000
namespace Mi
open PySem PySem.Spec PyProof.Rows L2
section
variable {X : Cx} {R : RC} {W : WX} {pos pp : Pos} {a b : Expr} {fa fb : ME} {k : Nat}
theorem takes_no : Takes X (fun _ _ _ _ => False) := fun _ _ ⟨_, _, _, _, _, _, _, _, _, _, _, _, _, _, _, _, w⟩ => w.elim
theorem hu_eq {A : Around} (hr : Room k A) : A.units + 64 < cLine := by have := hr.un; omega
theorem je_add (ha : JE X R W a fa) (hb : JE X R W b fb) : JE X R W (.BinOp a .Add b pos) (mBin opAdd fa fb) := se_bin op_addM (fun h => h ▸ pr_add) ha hb
theorem je_sub (ha : JE X R W a fa) (hb : JE X R W b fb) : JE X R W (.BinOp a .Sub b pos) (mBin opSub fa fb) := se_bin op_sub (fun _ => pr_sub) ha hb
theorem je_mul (ha : JE X R W a fa) (hb : JE X R W b fb) : JE X R W (.BinOp a .Mult b pos) (mBin opMul fa fb) := se_bin op_mul (fun _ => pr_mul) ha hb
theorem je_mod (ha : JE X R W a fa) (hb : JE X R W b fb) : JE X R W (.BinOp a .Mod b pos) (mBin opMod fa fb) := se_bin op_mod (fun _ => pr_mod) ha hb
theorem je_div (ha : JE X R W a fa) (hb : JE X R W b fb) : JE X R W (.BinOp a .FloorDiv b pos) (mBin opDiv fa fb) := se_bin op_fdiv (fun _ => pr_div) ha hb
theorem je_pow (ha : JE X R W a fa) (hb : JE X R W b fb) : JE X R W (.BinOp a .Pow b pos) (mBin opPow fa fb) := se_bin op_pow (fun _ => pr_pow) ha hb
theorem je_lt (ha : JE X R W a fa) (hb : JE X R W b fb) (hm : behindInMarks .Lt b = false := by rfl) : JE X R W (.Compare a [.Lt] [b] pos) (mBin opLt fa fb) := se_cmp op_lt (fun _ => pr_lt) ha hb hm
theorem je_le (ha : JE X R W a fa) (hb : JE X R W b fb) (hm : behindInMarks .LtE b = false := by rfl) : JE X R W (.Compare a [.LtE] [b] pos) (mBin opLe fa fb) := se_cmp op_le (fun _ => pr_le) ha hb hm
theorem je_gt (ha : JE X R W a fa) (hb : JE X R W b fb) (hm : behindInMarks .Gt b = false := by rfl) : JE X R W (.Compare a [.Gt] [b] pos) (mBin opGt fa fb) := se_cmp op_gt (fun _ => pr_gt) ha hb hm
theorem je_ge (ha : JE X R W a fa) (hb : JE X R W b fb) (hm : behindInMarks .GtE b = false := by rfl) : JE X R W (.Compare a [.GtE] [b] pos) (mBin opGe fa fb) := se_cmp op_ge (fun _ => pr_ge) ha hb hm
theorem je_eq (hr : Room k X.A) (ha : JE X R W a fa) (hb : JE X R W b fb) (hm : behindInMarks .Eq b = false := by rfl) : JE X R W (.Compare a [.Eq] [b] pos) (mBin (opEqv false) fa fb) := se_cmp (op_eqD (hu_eq hr)) (fun h => h ▸ pr_eqv) ha hb hm
theorem je_ne (hr : Room k X.A) (ha : JE X R W a fa) (hb : JE X R W b fb) (hm : behindInMarks .NotEq b = false := by rfl) : JE X R W (.Compare a [.NotEq] [b] pos) (mBin (opEqv true) fa fb) := se_cmp (op_neD (hu_eq hr)) (fun h => h ▸ pr_nev) ha hb hm
theorem jt_lt (ha : JE X R W a fa) (hb : JE X R W b fb) (hm : behindInMarks .Lt b = false := by rfl) : JT X R W (.Compare a [.Lt] [b] pos) (mTestB (mBin opLt fa fb)) := jt_cmp op_lt (fun _ => pr_lt) ha hb hm
theorem jt_le (ha : JE X R W a fa) (hb : JE X R W b fb) (hm : behindInMarks .LtE b = false := by rfl) : JT X R W (.Compare a [.LtE] [b] pos) (mTestB (mBin opLe fa fb)) := jt_cmp op_le (fun _ => pr_le) ha hb hm
theorem jt_gt (ha : JE X R W a fa) (hb : JE X R W b fb) (hm : behindInMarks .Gt b = false := by rfl) : JT X R W (.Compare a [.Gt] [b] pos) (mTestB (mBin opGt fa fb)) := jt_cmp op_gt (fun _ => pr_gt) ha hb hm
theorem jt_ge (ha : JE X R W a fa) (hb : JE X R W b fb) (hm : behindInMarks .GtE b = false := by rfl) : JT X R W (.Compare a [.GtE] [b] pos) (mTestB (mBin opGe fa fb)) := jt_cmp op_ge (fun _ => pr_ge) ha hb hm
theorem jt_eq (hr : Room k X.A) (ha : JE X R W a fa) (hb : JE X R W b fb) (hm : behindInMarks .Eq b = false := by rfl) : JT X R W (.Compare a [.Eq] [b] pos) (mTestB (mBin (opEqv false) fa fb)) := jt_cmp (op_eqD (hu_eq hr)) (fun h => h ▸ pr_eqv) ha hb hm
theorem jt_ne (hr : Room k X.A) (ha : JE X R W a fa) (hb : JE X R W b fb) (hm : behindInMarks .NotEq b = false := by rfl) : JT X R W (.Compare a [.NotEq] [b] pos) (mTestB (mBin (opEqv true) fa fb)) := jt_cmp (op_neD (hu_eq hr)) (fun h => h ▸ pr_nev) ha hb hm
theorem je_join {o e : Expr} {apos cpos : Pos} {fo : ME} {fs : MS → Out (List RV)} (ho : JE X R W o fo) (ha : JA X R W [e] fs)
    (hbase : attributeBase o "join" X.env (eval o X.env) = eval o X.env := by rfl) (hfew : ((backTo cpos (starEach [e] X.env)).all (fun x => !x.1) && (backToKw cpos (keywordEach [] X.env)).all (fun x => x.1.isSome) && decide ([e].length + ([] : List Keyword).length + (if ([] : List Keyword).isEmpty then 0 else 1) < 30)) = true := by rfl)
    (hline : (apos.endLine == cpos.line) = true := by rfl) (hs : starEach [e] X.env = (false, eval e X.env) :: starEach [] X.env := by rfl) : JE X R W (.Call (.Attribute o "join" apos) [e] [] cpos) (mSM pJoin fo fs) :=
  je_sm PySem.F.slot_str_join PySem.F.type_str_join mt_join (fun h => h ▸ pr_join) ho ha hbase hfew hline hs
theorem je_sindex {o e : Expr} {apos cpos : Pos} {fo : ME} {fs : MS → Out (List RV)} (ho : JE X R W o fo) (ha : JA X R W [e] fs)
    (hbase : attributeBase o "index" X.env (eval o X.env) = eval o X.env := by rfl) (hfew : ((backTo cpos (starEach [e] X.env)).all (fun x => !x.1) && (backToKw cpos (keywordEach [] X.env)).all (fun x => x.1.isSome) && decide ([e].length + ([] : List Keyword).length + (if ([] : List Keyword).isEmpty then 0 else 1) < 30)) = true := by rfl)
    (hline : (apos.endLine == cpos.line) = true := by rfl) (hs : starEach [e] X.env = (false, eval e X.env) :: starEach [] X.env := by rfl) : JE X R W (.Call (.Attribute o "index" apos) [e] [] cpos) (mSM pIndexS fo fs) :=
  je_sm PySem.F.slot_str_index PySem.F.type_str_index mt_sindex (fun _ => pr_sindex) ho ha hbase hfew hline hs
/-- a text among the globals -/
theorem je_gstr {x : Str} {z : List Nat} (hm : ∃ t, X.mg x = some (.str ⟨z.toArray⟩ t)) (hg : Gl X x := by rfl) (hd : (x == ("__debug__" : Str)) = false := by decide) : JE X R W (.Name x pos) (mC (.str z)) := by
  obtain ⟨t, hm⟩ := hm
  exact je_glob hm (v := .str ⟨z.toArray⟩) ⟨t, rfl⟩ (fun G H => VR.mkStr (K := R.K) (G := G) (H := H)) hg hd
end
theorem boot_int' : bootBuiltins "int" = some (.type "int") := by decide +kernel
theorem boot_abs : bootBuiltins "abs" = some (.builtin "abs") := by decide +kernel
theorem boot_max : bootBuiltins "max" = some (.builtin "max") := by decide +kernel
theorem boot_min : bootBuiltins "min" = some (.builtin "min") := by decide +kernel
theorem boot_ord : bootBuiltins "ord" = some (.builtin "ord") := by decide +kernel
theorem boot_sum : bootBuiltins "sum" = some (.builtin "sum") := by decide +kernel
theorem boot_repr : bootBuiltins "repr" = some (.builtin "repr") := by decide +kernel
theorem boot_all : bootBuiltins "all" = some (.builtin "all") := by decide +kernel
theorem boot_any : bootBuiltins "any" = some (.builtin "any") := by decide +kernel
section
variable {X : Cx} {R : RC} {W : WX} {pos pp : Pos} {e : Expr} {es : List Expr} {fs : MS → Out (List RV)}
variable (ha : JA X R W (e :: es) fs) (hpl : (backTo pos (starEach es X.env)).any (·.1) = false := by rfl) (he : starEach (e :: es) X.env = (false, eval e X.env) :: starEach es X.env := by rfl)
include ha hpl he
theorem je_len (hm : X.mg "len" = none) (hg : Gl X "len" := by rfl) : JE X R W (.Call (.Name "len" pp) (e :: es) [] pos) (mCallB pLen fs) := je_callB call_len (fun h => h ▸ pr_len) hm PySem.boot_len ha hg (he := he) (hpl := hpl)
theorem je_abs (hm : X.mg "abs" = none) (hg : Gl X "abs" := by rfl) : JE X R W (.Call (.Name "abs" pp) (e :: es) [] pos) (mCallB pAbs fs) := je_callB call_abs (fun _ => pr_abs) hm boot_abs ha hg (he := he) (hpl := hpl)
theorem je_max (hm : X.mg "max" = none) (hg : Gl X "max" := by rfl) (hc : X.calm = true := by rfl) : JE X R W (.Call (.Name "max" pp) (e :: es) [] pos) (mCallB pMax fs) := je_callB (call_max2 hc) (fun _ => pr_int2) hm boot_max ha hg (he := he) (hpl := hpl)
theorem je_min (hm : X.mg "min" = none) (hg : Gl X "min" := by rfl) (hc : X.calm = true := by rfl) : JE X R W (.Call (.Name "min" pp) (e :: es) [] pos) (mCallB pMin fs) := je_callB (call_min2 hc) (fun _ => pr_int2) hm boot_min ha hg (he := he) (hpl := hpl)
theorem je_ord (hm : X.mg "ord" = none) (hg : Gl X "ord" := by rfl) : JE X R W (.Call (.Name "ord" pp) (e :: es) [] pos) (mCallB pOrd fs) := je_callB call_ord (fun _ => pr_ord) hm boot_ord ha hg (he := he) (hpl := hpl)
theorem je_reprB (hm : X.mg "repr" = none) (hg : Gl X "repr" := by rfl) : JE X R W (.Call (.Name "repr" pp) (e :: es) [] pos) (mCallB pReprB fs) := je_callB call_repr_bl (fun _ => pr_reprB) hm boot_repr ha hg (he := he) (hpl := hpl)
theorem je_int (hm : X.mg "int" = none) (hg : Gl X "int" := by rfl) : JE X R W (.Call (.Name "int" pp) (e :: es) [] pos) (mCallB pInt fs) := je_callTy call_int1 (fun _ => pr_int) hm boot_int' ha hg (he := he) (hpl := hpl)
theorem je_sum (hm : X.mg "sum" = none) (hg : Gl X "sum" := by rfl) (hc : X.calm = true := by rfl) : JE X R W (.Call (.Name "sum" pp) (e :: es) [] pos) (mCallB pSum fs) := je_callB (cr_sum hc) (fun h => h ▸ pr_sum) hm boot_sum ha hg (he := he) (hpl := hpl)
theorem je_all (hm : X.mg "all" = none) (hg : Gl X "all" := by rfl) (hc : X.calm = true := by rfl) : JE X R W (.Call (.Name "all" pp) (e :: es) [] pos) (mCallB (pAll (·.all id)) fs) := je_callB (cr_all hc) (fun h => h ▸ pr_all) hm boot_all ha hg (he := he) (hpl := hpl)
theorem je_any (hm : X.mg "any" = none) (hg : Gl X "any" := by rfl) (hc : X.calm = true := by rfl) : JE X R W (.Call (.Name "any" pp) (e :: es) [] pos) (mCallB (pAll (·.any id)) fs) := je_callB (cr_any hc) (fun h => h ▸ pr_any) hm boot_any ha hg (he := he) (hpl := hpl)
end
end Mi
set_option Elab.async false
set_option linter.all false
set_option maxRecDepth 100000
set_option maxHeartbeats 4000000
namespace Mi
open PySem PySem.Spec PyProof.Rows L2
section
variable {X : Cx} {R : RC} {W : WX} {F : FI} {σ : L2.St} {G G1 : Gh} {H H1 : Hp} {s s1 : MS} {pos : Pos}
/-! isinstance of a built-in class -/
def kindR (s : MS) (r : RV) : Option String := match r with
  | .v .non => some "NoneType"
  | .v (.bl _) => some "bool"
  | .v (.int _) => some "int"
  | .v (.str _) => some "str"
  | .v (.tup _) => some "tuple"
  | r => match cont s r with
    | some (.lst _) => some "list"
    | some (.dict _) => some "dict"
    | _ => none
theorem sqL_ty {K : PySem.W.Frag} {a : Addr} {xs : List V} (h : SqL K H a xs) : TyX K H (.ref a) (.type "list") := by
  rcases h with (h | ⟨o, h⟩) | ⟨o, its, n, hk, hc, _⟩
  · exact .base (.lst h)
  · exact .base (.frz h)
  · exact .kList hk hc
theorem sqT_ty {K : PySem.W.Frag} {a : Addr} {xs : List V} (h : SqT K H a xs) : TyX K H (.ref a) (.type "tuple") := by
  rcases h with (h | ⟨o, h⟩) | ⟨o, its, n, hk, hc, _⟩
  · exact .base (.tup h)
  · exact .fTuple h
  · exact .kTuple hk hc
theorem kind_ok {Hs : Hp} {r : RV} {v : V} {T : String} (rel : Rel R F G s σ H) (rr : RR R σ Hs G H r v) (e : kindR s r = some T) : TyX R.K H v (.type T) := by
  unfold kindR at e
  split at e
  · cases RR.non rr; cases e; exact .base .non
  · cases RR.bl rr; cases e; exact .base (.bl _)
  · cases RR.int rr; cases e; exact .base (.int _)
  · cases RR.str rr; cases e; exact .base (.str _)
  · obtain ⟨a, vs, rfl, k, _⟩ := RR.tup rr
    cases e
    exact sqT_ty k
  · split at e
    · rename_i xs c
      obtain ⟨a, rfl, vs, k, _⟩ := cont_ok rel rr c
      cases e
      exact sqL_ty k
    · rename_i kvs c
      obtain ⟨a, rfl, ho, k, d⟩ := cont_ok rel rr c
      cases e
      obtain ⟨dk, rfl, _⟩ := d
      exact .base (.dK k)
    · cases e
def pIsi (T : String) (r : RV) (s : MS) : Out RV := match (kindR s r).bind fun k => kitB k T with
  | some b => .ok (.v (.bl b)) s
  | none => .bad
def mIsi (T : String) (f : ME) : ME := fun s => (f s).bind fun r s1 => pIsi T r s1
theorem je_isi {e : Expr} {f : ME} {x : Str} {T : String} {p tp : Pos} (he : JE X R W e f) (hm : X.mg "isinstance" = none) (hx : X.mg x = none) (hb : bootBuiltins x = some (.type T)) (hg : Gl X "isinstance" := by rfl) (hgx : Gl X x := by rfl) (hn : x ≠ "__name__" := by decide) (hd : (x == ("__debug__" : Str)) = false := by decide)
    (hs : starEach (e :: [.Name x tp]) X.env = (false, eval e X.env) :: starEach [.Name x tp] X.env := by rfl) (hs2 : starEach [.Name x tp] X.env = (false, eval (.Name x tp) X.env) :: starEach [] X.env := by rfl) (hpl : (backTo pos (starEach [.Name x tp] X.env)).any (·.1) = false := by rfl) :
    JE X R W (.Call (.Name "isinstance" p) [e, .Name x tp] [] pos) (mIsi T f) := fun hK F =>
  PE.imp (pe_callB call_isi hg hm PyProof.Rows.boot_isinstance (pa_cons (he hK F) (pa_cons (pe_bltn (v := .ty T) hgx hx hb rfl hn hd) pa_nil hs2) hs) (by decide) (by decide) hs hpl) fun σ H Q h => by
    refine (first (M := rlE) h).mono fun y H1 ⟨G, r, s1, G1, w, rr, o⟩ => ?_
    unfold pIsi at o
    split at o
    · rename_i b e
      obtain ⟨k, e1, e2⟩ := Option.bind_eq_some_iff.mp e
      exact ⟨y, _, _, _, b, rfl, .ty T, by rw [← hK]; exact kind_ok w.rel rr e1, kit_ty e2, finB w o⟩
    · exact o.elim
/-! in, not in -/
def flatOf : MV → Option V
  | .non => some .non
  | .bl b => some (.bl b)
  | .int i => some (.int i)
  | .str z => some (.str ⟨z.toArray⟩)
  | _ => none
def flatsOf : List MV → Option (List V)
  | [] => some []
  | x :: xs => match flatOf x, flatsOf xs with | some v, some vs => some (v :: vs) | _, _ => none
theorem flat_ok {K : PySem.W.Frag} {x : MV} {v u : V} (h : VR K G H x v) (e : flatOf x = some u) : v = u ∧ flatV u = true := by
  cases x with
  | non => cases e; exact ⟨VR.non h, rfl⟩
  | bl b => cases e; exact ⟨VR.bl h, rfl⟩
  | int b => cases e; exact ⟨VR.int h, rfl⟩
  | str b => cases e; exact ⟨VR.str h, rfl⟩
  | _ => cases e
theorem flats_ok {K : PySem.W.Frag} : ∀ {xs : List MV} {vs us : List V}, VRs K G H xs vs → flatsOf xs = some us → vs = us ∧ us.all flatV = true
  | [], _, _, h, e => by unfold VRs at h; subst h; cases e; exact ⟨rfl, rfl⟩
  | x :: xs, _, _, h, e => by
    obtain ⟨v, r, rfl, p, q⟩ := h.inv
    simp only [flatsOf] at e
    split at e
    · rename_i u us e1 e2
      cases e
      obtain ⟨rfl, f1⟩ := flat_ok p e1
      obtain ⟨rfl, f2⟩ := flats_ok q e2
      exact ⟨rfl, by rw [List.all_cons, f1, f2]; rfl⟩
    · cases e
def opIn (neg : Bool) (r1 r2 : RV) (s : MS) : Out RV := match r1, r2 with
  | .v (.str [c]), .v (.str z) => .ok (.v (.bl (neg ^^ decide (c ∈ z)))) s
  | .v x, r2 => match flatOf x, (seqOf s r2).bind flatsOf with
    | some v, some vs => .ok (.v (.bl (neg ^^ inV v vs))) s
    | _, _ => .bad
  | _, _ => .bad
theorem in_seq {Hs : Hp} {x : MV} {r2 : RV} {y z : V} {v : V} {vs : List V} {neg : Bool} {Q : VK} (rel : Rel R F G s σ H) (h1 : VR R.K G H x y) (h2 : RR R σ Hs G H r2 z) (e1 : flatOf x = some v) (e2 : (seqOf s r2).bind flatsOf = some vs) (q : Q (.bl (neg ^^ inV v vs)) H) : rIn R.K neg y z H Q := by
  obtain ⟨xs, e3, e4⟩ := Option.bind_eq_some_iff.mp e2
  obtain ⟨a, ws, rfl, k, h⟩ := seq_ok rel h2 e3
  obtain ⟨rfl, f1⟩ := flat_ok h1 e1
  obtain ⟨rfl, f2⟩ := flats_ok h e4
  refine ⟨a, _, rfl, k, f1, f2, ?_⟩
  cases neg <;> simpa using q
theorem pr_in : PrimR R (fun x y H Q => (∃ (c : Nat) (z : Str), x = .str ⟨#[c]⟩ ∧ y = .str z ∧ Q (.bl (decide (c ∈ z.cps.toList))) H) ∨ rIn R.K false x y H Q) (opIn false) := fun {F W σ G H G2 H2 s2 r1 r2 x y Q} w h1 h2 o => by
  unfold opIn at o
  split at o
  · cases RR.str h1; cases RR.str h2
    exact .inl ⟨_, _, rfl, rfl, by simpa using finB w o⟩
  · split at o
    · rename_i v vs e1 e2
      exact .inr (in_seq w.rel h1 h2 e1 e2 (finB w o))
    · exact o.elim
  · exact o.elim
theorem pr_notIn : PrimR R (fun x y H Q => (∃ (c : Nat) (z : Str), x = .str ⟨#[c]⟩ ∧ y = .str z ∧ Q (.bl (!decide (c ∈ z.cps.toList))) H) ∨ rIn R.K true x y H Q) (opIn true) := fun {F W σ G H G2 H2 s2 r1 r2 x y Q} w h1 h2 o => by
  unfold opIn at o
  split at o
  · cases RR.str h1; cases RR.str h2
    exact .inl ⟨_, _, rfl, rfl, by simpa using finB w o⟩
  · split at o
    · rename_i v vs e1 e2
      exact .inr (in_seq w.rel h1 h2 e1 e2 (finB w o))
    · exact o.elim
  · exact o.elim
/-! is -/
def nonR (s : MS) : RV → Option Bool
  | .v .non => some true
  | .v _ => some false
  | .own _ => some false
  | .fld _ _ => some false
  | .loc i => match s.env[i]? with | some (some (.own _)) => some false | _ => none
def opIs (neg : Bool) (r1 r2 : RV) (s : MS) : Out RV := match r2 with
  | .v .non => match nonR s r1 with | some b => .ok (.v (.bl (neg ^^ b))) s | none => .bad
  | .v (.bl b) => match r1 with | .v (.bl a) => .ok (.v (.bl (neg ^^ decide (a = b)))) s | _ => .bad
  | _ => .bad
theorem rr_non {Hs : Hp} {r : RV} {v : V} (rel : Rel R F G s σ H) (rr : RR R σ Hs G H r v) {b : Bool} (e : nonR s r = some b) : decide (v = .non) = b := by
  have ref : ∀ {a : Addr}, v = .ref a → decide (v = .non) = false := fun {a} e => by subst e; exact decide_eq_false (by simp)
  cases r with
  | v x =>
    cases x with
    | non => cases RR.non rr; cases e; rfl
    | bl b => cases RR.bl rr; cases e; rfl
    | int i => cases RR.int rr; cases e; rfl
    | str z => cases RR.str rr; cases e; rfl
    | tup xs => obtain ⟨a, vs, q, _⟩ := RR.tup rr; cases e; exact ref q
    | lst xs =>
      have rr : VR R.K G H (.lst xs) v := rr
      unfold VR at rr
      obtain ⟨a, vs, q, _⟩ := rr; cases e; exact ref q
    | dct ks vs =>
      have rr : VR R.K G H (.dct ks vs) v := rr
      unfold VR at rr
      obtain ⟨a, vs, q, _⟩ := rr; cases e; exact ref q
    | ref n =>
      have rr : VR R.K G H (.ref n) v := rr
      unfold VR at rr
      obtain ⟨a, q, _⟩ := rr; cases e; exact ref q
  | own c => obtain ⟨a, q, _⟩ := rr; cases e; exact ref q
  | loc i =>
    simp only [nonR] at e
    split at e
    case h_2 => cases e
    rename_i c hc
    cases e
    obtain ⟨w, q, a, ev, _⟩ := rel.env i _ hc
    have rr' : σ[i]? = some (some v) := rr
    rw [rr'] at q; cases q
    exact ref ev
  | fld n f => obtain ⟨a, q, _⟩ := rr; cases e; exact ref q
theorem pr_is : PrimR R (fun x y H Q => rIsN x y H Q ∨ rIsB x y H Q) (opIs false) := fun {F W σ G H G2 H2 s2 r1 r2 x y Q} w h1 h2 o => by
  unfold opIs at o
  split at o
  · cases RR.non h2
    split at o
    · rename_i b e
      exact .inl ⟨rfl, by rw [rr_non w.rel h1 e]; simpa using finB w o⟩
    · exact o.elim
  · cases RR.bl h2
    split at o
    · cases RR.bl h1
      exact .inr ⟨_, _, rfl, rfl, by simpa using finB w o⟩
    · exact o.elim
  · exact o.elim
theorem pr_isnot : PrimR R (fun x y H Q => rNotN x y H Q ∨ rNotB x y H Q) (opIs true) := fun {F W σ G H G2 H2 s2 r1 r2 x y Q} w h1 h2 o => by
  unfold opIs at o
  split at o
  · cases RR.non h2
    split at o
    · rename_i b e
      exact .inl ⟨rfl, by rw [rr_non w.rel h1 e]; simpa using finB w o⟩
    · exact o.elim
  · cases RR.bl h2
    split at o
    · cases RR.bl h1
      exact .inr ⟨_, _, rfl, rfl, by simpa using finB w o⟩
    · exact o.elim
  · exact o.elim
/-! text order -/
def opOrd (g : Int → Int → Bool) (h : List Nat → List Nat → Bool) (r1 r2 : RV) (s : MS) : Out RV := match r1, r2 with
  | .v (.int i), .v (.int j) => .ok (.v (.bl (g i j))) s
  | .v (.str a), .v (.str b) => .ok (.v (.bl (h a b))) s
  | _, _ => .bad
theorem pr_ord2 {g : Int → Int → Bool} {h : List Nat → List Nat → Bool} {hV : Str → Str → Bool} (e : ∀ a b : List Nat, hV ⟨a.toArray⟩ ⟨b.toArray⟩ = h a b) :
    PrimR R (fun x y H Q => rI0 (fun i j => .bl (g i j)) x y H Q ∨ ∃ i j, x = .str i ∧ y = .str j ∧ Q (.bl (hV i j)) H) (opOrd g h) := fun {F W σ G H G2 H2 s2 r1 r2 x y Q} w h1 h2 o => by
  unfold opOrd at o
  split at o
  · cases RR.int h1; cases RR.int h2
    exact .inl ⟨_, _, rfl, rfl, finB w o⟩
  · cases RR.str h1; cases RR.str h2
    exact .inr ⟨_, _, rfl, rfl, by rw [e]; exact finB w o⟩
  · exact o.elim
abbrev opLt2 := opOrd (fun i j => decide (i < j)) fun a b => decide (a < b)
abbrev opLe2 := opOrd (fun i j => decide (i ≤ j)) fun a b => !decide (b < a)
abbrev opGt2 := opOrd (fun i j => decide (j < i)) fun a b => decide (b < a)
abbrev opGe2 := opOrd (fun i j => decide (j ≤ i)) fun a b => !decide (a < b)
theorem op_lt2 : OpR X (compareOp .Lt) (fun x y H Q => rI0 (fun i j => .bl (decide (i < j))) x y H Q ∨ ∃ i j, x = .str i ∧ y = .str j ∧ Q (.bl (decide (i.cps.toList < j.cps.toList))) H) := OpR.or op_lt op_lt_str
theorem op_le2 : OpR X (compareOp .LtE) (fun x y H Q => rI0 (fun i j => .bl (decide (i ≤ j))) x y H Q ∨ ∃ i j, x = .str i ∧ y = .str j ∧ Q (.bl (!decide (j.cps.toList < i.cps.toList))) H) := OpR.or op_le op_le_str
theorem op_gt2 : OpR X (compareOp .Gt) (fun x y H Q => rI0 (fun i j => .bl (decide (j < i))) x y H Q ∨ ∃ i j, x = .str i ∧ y = .str j ∧ Q (.bl (decide (j.cps.toList < i.cps.toList))) H) := OpR.or op_gt op_gt_str
theorem op_ge2 : OpR X (compareOp .GtE) (fun x y H Q => rI0 (fun i j => .bl (decide (j ≤ i))) x y H Q ∨ ∃ i j, x = .str i ∧ y = .str j ∧ Q (.bl (!decide (i.cps.toList < j.cps.toList))) H) := OpR.or op_ge op_ge_str
theorem pr_lt2 : PrimR R (fun x y H Q => rI0 (fun i j => .bl (decide (i < j))) x y H Q ∨ ∃ i j, x = .str i ∧ y = .str j ∧ Q (.bl (decide (i.cps.toList < j.cps.toList))) H) opLt2 := pr_ord2 (g := fun i j => decide (i < j)) (h := fun a b => decide (a < b)) (hV := fun i j => decide (i.cps.toList < j.cps.toList)) fun a b => rfl
theorem pr_le2 : PrimR R (fun x y H Q => rI0 (fun i j => .bl (decide (i ≤ j))) x y H Q ∨ ∃ i j, x = .str i ∧ y = .str j ∧ Q (.bl (!decide (j.cps.toList < i.cps.toList))) H) opLe2 := pr_ord2 (g := fun i j => decide (i ≤ j)) (h := fun a b => !decide (b < a)) (hV := fun i j => !decide (j.cps.toList < i.cps.toList)) fun a b => rfl
theorem pr_gt2 : PrimR R (fun x y H Q => rI0 (fun i j => .bl (decide (j < i))) x y H Q ∨ ∃ i j, x = .str i ∧ y = .str j ∧ Q (.bl (decide (j.cps.toList < i.cps.toList))) H) opGt2 := pr_ord2 (g := fun i j => decide (j < i)) (h := fun a b => decide (b < a)) (hV := fun i j => decide (j.cps.toList < i.cps.toList)) fun a b => rfl
theorem pr_ge2 : PrimR R (fun x y H Q => rI0 (fun i j => .bl (decide (j ≤ i))) x y H Q ∨ ∃ i j, x = .str i ∧ y = .str j ∧ Q (.bl (!decide (i.cps.toList < j.cps.toList))) H) opGe2 := pr_ord2 (g := fun i j => decide (j ≤ i)) (h := fun a b => !decide (a < b)) (hV := fun i j => !decide (i.cps.toList < j.cps.toList)) fun a b => rfl
variable {a b : Expr} {fa fb : ME}
theorem je_in (ha : JE X R W a fa) (hb : JE X R W b fb) (hm : behindInMarks .In b = false := by rfl) : JE X R W (.Compare a [.In] [b] pos) (mBin (opIn false) fa fb) := se_cmp (OpR.or op_in_sign op_in_seq) (fun h => h ▸ pr_in) ha hb hm
theorem je_notIn (ha : JE X R W a fa) (hb : JE X R W b fb) (hm : behindInMarks .NotIn b = false := by rfl) : JE X R W (.Compare a [.NotIn] [b] pos) (mBin (opIn true) fa fb) := se_cmp (OpR.or op_notIn_sign op_notIn_seq) (fun h => h ▸ pr_notIn) ha hb hm
theorem je_is (ha : JE X R W a fa) (hb : JE X R W b fb) (hm : behindInMarks .Is b = false := by rfl) : JE X R W (.Compare a [.Is] [b] pos) (mBin (opIs false) fa fb) := se_cmp (OpR.or op_isN1 op_isBl) (fun _ => pr_is) ha hb hm
theorem je_isnot (ha : JE X R W a fa) (hb : JE X R W b fb) (hm : behindInMarks .IsNot b = false := by rfl) : JE X R W (.Compare a [.IsNot] [b] pos) (mBin (opIs true) fa fb) := se_cmp (OpR.or op_notN1 op_notBl) (fun _ => pr_isnot) ha hb hm
theorem jt_in (ha : JE X R W a fa) (hb : JE X R W b fb) (hm : behindInMarks .In b = false := by rfl) : JT X R W (.Compare a [.In] [b] pos) (mTestB (mBin (opIn false) fa fb)) := jt_cmp (OpR.or op_in_sign op_in_seq) (fun h => h ▸ pr_in) ha hb hm
theorem jt_notIn (ha : JE X R W a fa) (hb : JE X R W b fb) (hm : behindInMarks .NotIn b = false := by rfl) : JT X R W (.Compare a [.NotIn] [b] pos) (mTestB (mBin (opIn true) fa fb)) := jt_cmp (OpR.or op_notIn_sign op_notIn_seq) (fun h => h ▸ pr_notIn) ha hb hm
theorem jt_is (ha : JE X R W a fa) (hb : JE X R W b fb) (hm : behindInMarks .Is b = false := by rfl) : JT X R W (.Compare a [.Is] [b] pos) (mTestB (mBin (opIs false) fa fb)) := jt_cmp (OpR.or op_isN1 op_isBl) (fun _ => pr_is) ha hb hm
theorem jt_isnot (ha : JE X R W a fa) (hb : JE X R W b fb) (hm : behindInMarks .IsNot b = false := by rfl) : JT X R W (.Compare a [.IsNot] [b] pos) (mTestB (mBin (opIs true) fa fb)) := jt_cmp (OpR.or op_notN1 op_notBl) (fun _ => pr_isnot) ha hb hm
theorem je_lt2 (ha : JE X R W a fa) (hb : JE X R W b fb) (hm : behindInMarks .Lt b = false := by rfl) : JE X R W (.Compare a [.Lt] [b] pos) (mBin opLt2 fa fb) := se_cmp op_lt2 (fun _ => pr_lt2) ha hb hm
theorem je_le2 (ha : JE X R W a fa) (hb : JE X R W b fb) (hm : behindInMarks .LtE b = false := by rfl) : JE X R W (.Compare a [.LtE] [b] pos) (mBin opLe2 fa fb) := se_cmp op_le2 (fun _ => pr_le2) ha hb hm
theorem je_gt2 (ha : JE X R W a fa) (hb : JE X R W b fb) (hm : behindInMarks .Gt b = false := by rfl) : JE X R W (.Compare a [.Gt] [b] pos) (mBin opGt2 fa fb) := se_cmp op_gt2 (fun _ => pr_gt2) ha hb hm
theorem je_ge2 (ha : JE X R W a fa) (hb : JE X R W b fb) (hm : behindInMarks .GtE b = false := by rfl) : JE X R W (.Compare a [.GtE] [b] pos) (mBin opGe2 fa fb) := se_cmp op_ge2 (fun _ => pr_ge2) ha hb hm
/-! list(x) -/
def pListOf (rs : List RV) (s : MS) : Out RV := match rs with
  | [r] => match seqOf s r with
    | some xs => .ok (.own (.lst xs)) s
    | none => .bad
  | _ => .bad
theorem pr_listOf : PrimC R (fun xs H Q => ∃ p ys, xs = [.ref p] ∧ (SqL R.K H p ys ∨ SqT R.K H p ys) ∧ ∀ l, H l = none → Q (.ref l) (upd H l (.lst ys))) pListOf := fun {F W σ G H G2 H2 s2 rs vs Q} w rr o => by
  unfold pListOf at o
  split at o
  · obtain ⟨v, t, rfl, r1, rfl⟩ := rr
    split at o
    · rename_i xs e
      obtain ⟨a, ws, rfl, k, h⟩ := seq_ok w.rel r1 e
      exact ⟨a, ws, rfl, k, newLst w h o⟩
    · exact o.elim
  · exact o.elim
theorem boot_list' : bootBuiltins "list" = some (.type "list") := by decide +kernel
theorem boot_tuple' : bootBuiltins "tuple" = some (.type "tuple") := by decide +kernel
theorem boot_bool' : bootBuiltins "bool" = some (.type "bool") := by decide +kernel
theorem boot_dict' : bootBuiltins "dict" = some (.type "dict") := by decide +kernel
theorem boot_str' : bootBuiltins "str" = some (.type "str") := by decide +kernel
theorem je_listOf {e : Expr} {pp : Pos} {fs : MS → Out (List RV)} (ha : JA X R W [e] fs) (hm : X.mg "list" = none) (hg : Gl X "list" := by rfl) (he : starEach [e] X.env = (false, eval e X.env) :: starEach [] X.env := by rfl) (hpl : (backTo pos (starEach [] X.env)).any (·.1) = false := by rfl) : JE X R W (.Call (.Name "list" pp) [e] [] pos) (mCallB pListOf fs) := je_callTy call_list_of (fun h => h ▸ pr_listOf) hm boot_list' ha hg (he := he) (hpl := hpl)
/-! methods that write a list -/
def PrimL (R : RC) (r : V → List V → Hp → VK → Prop) (p : RV → List MV → MS → Out RV) : Prop := ∀ {F : FI} {W : WX} {σ : L2.St} {G : Gh} {H : Hp} {G2 : Gh} {H2 : Hp} {s2 : MS} {r0 : RV} {rs : List MV} {v : V} {vs : List V} {Q : VK},
  Way R F σ G H G2 H2 s2 → RR R σ H G2 H2 r0 v → VRs R.K G2 H2 rs vs → OutX rlE R F W σ G H (p r0 rs s2) Q → r v vs H2 Q
def mLM (p : RV → List MV → MS → Out RV) (fo : ME) (fa : MS → Out (List MV)) : ME := fun s => (fo s).bind fun r s1 => match place s1 r with
  | some (.lst _) => (fa s1).bind fun rs s2 => p r rs s2
  | _ => .bad
theorem je_lm {o e : Expr} {es : List Expr} {name : Str} {id : String} {apos cpos : Pos} {r : V → List V → Hp → VK → Prop} {p : RV → List MV → MS → Out RV} {fo : ME} {fa : MS → Out (List MV)} (slot : Slot "list" name id) (hty : typeOf (.builtin id) = pure (.type "method_descriptor")) (hm : MtR X id r) (pr : R.K = X.K → PrimL R r p) (ho : JE X R W o fo) (ha : JAs X R W (e :: es) fa)
    (hbase : attributeBase o name X.env (eval o X.env) = eval o X.env := by rfl)
    (hfew : ((backTo cpos (starEach (e :: es) X.env)).all (fun x => !x.1) && (backToKw cpos (keywordEach [] X.env)).all (fun x => x.1.isSome)
      && decide ((e :: es).length + ([] : List Keyword).length + (if ([] : List Keyword).isEmpty then 0 else 1) < 30)) = true := by rfl)
    (hline : (apos.endLine == cpos.line) = true := by rfl) (hs : starEach (e :: es) X.env = (false, eval e X.env) :: starEach es X.env := by rfl) (hplain : (backTo cpos (starEach es X.env)).any (·.1) = false := by rfl) :
    JE X R W (.Call (.Attribute o name apos) (e :: es) [] cpos) (mLM p fo fa) := fun hK F =>
  PE.imp (pe_bm PySem.F.plainAttrs_list slot hty hm (ho hK F) (ha hK F) hbase hfew hline hs hplain) fun σ H Q h => by
    refine (first (M := rlE) h).mono fun x H1 ⟨G, r, s1, G1, w, rr, o⟩ => ?_
    have rr : RR R σ H G1 H1 r x := rr
    split at o
    · rename_i xs hp
      obtain ⟨a, rfl, ⟨vs, ha, _⟩, _⟩ := put_ok (c' := .lst []) w.rel rr hp
      refine ⟨.inl ⟨rfl, vs, .inl (.inl ha)⟩, ?_⟩
      refine (next (M := rlS) w o).mono fun vs H2 ⟨rs, s2, G2, w2, e12, rr2, o2⟩ => ?_
      exact pr hK w2 (rr.mono e12) rr2 o2
    · exact o.elim
theorem je_lm0 {o : Expr} {name : Str} {id : String} {apos cpos : Pos} {r : V → List V → Hp → VK → Prop} {p : RV → List MV → MS → Out RV} {fo : ME} (slot : Slot "list" name id) (hty : typeOf (.builtin id) = pure (.type "method_descriptor")) (hm : MtR X id r) (pr : R.K = X.K → PrimL R r p) (ho : JE X R W o fo)
    (hbase : attributeBase o name X.env (eval o X.env) = eval o X.env := by rfl) (hline : (apos.endLine == cpos.line) = true := by rfl) :
    JE X R W (.Call (.Attribute o name apos) [] [] cpos) (mLM p fo (fun s => .ok [] s)) := fun hK F =>
  PE.imp (pe_bm0 PySem.F.plainAttrs_list slot hty hm (ho hK F) hbase hline) fun σ H Q h => by
    refine (first (M := rlE) h).mono fun x H1 ⟨G, r, s1, G1, w, rr, o⟩ => ?_
    have rr : RR R σ H G1 H1 r x := rr
    split at o
    · rename_i xs hp
      obtain ⟨a, rfl, ⟨vs, ha, _⟩, _⟩ := put_ok (c' := .lst []) w.rel rr hp
      exact ⟨.inl ⟨rfl, vs, .inl (.inl ha)⟩, pr hK w rr (VRs.nil (K := R.K) (G := G1) (H := H1)) o⟩
    · exact o.elim
/-- a list at a place written anew -/
theorem put_lst {r : RV} {v : V} {xs ys : List MV} {x : MV} {Q : VK} (w : Way R F σ G H G1 H1 s1) (rr : RR R σ H G1 H1 r v) (e : place s1 r = some (.lst xs)) (o : OutX rlE R F W σ G H (.ok (.v x) (putC s1 r (.lst ys))) Q) :
    ∃ a vs, v = .ref a ∧ H1 a = some (.lst vs) ∧ VRs R.K G1 H1 xs vs ∧ ∀ ws u, VRs R.K G1 H1 ys ws → VR R.K G1 H1 x u → Q u (upd H1 a (.lst ws)) := by
  obtain ⟨a, rfl, ⟨vs, ha, hvs⟩, ⟨q, gq, nf⟩, put⟩ := put_ok w.rel rr e
  refine ⟨a, vs, rfl, ha, hvs, fun ws u hw hu => ?_⟩
  have gn : G1 a ≠ some .frz := fun z => nf (by rw [z] at gq; exact (Option.some.inj gq).symm)
  have mu : Mo G1 H1 G1 (upd H1 a (.lst ws)) := Mo.upd gn
  exact o _ _ _ (put _ ⟨_, upd_same, VRs.mono mu _ _ hw⟩) (w.evo.trans (Evo.updRole gn (by rw [gq]; simp) (fun x u z => by rw [ha] at z; cases z))) (VR.mono mu _ _ hu)
def lAppend (r : RV) (rs : List MV) (s : MS) : Out RV := match rs, place s r with
  | [x], some (.lst xs) => if xs.length < sizeLine then .ok (.v .non) (putC s r (.lst (xs ++ [x]))) else .bad
  | _, _ => .bad
theorem pr_append : PrimL R rAppend lAppend := fun {F W σ G H G2 H2 s2 r0 rs v vs Q} w rr rs o => by
  unfold lAppend at o
  split at o
  · rename_i x xs hp
    obtain ⟨u, t, rfl, p, q⟩ := rs.inv
    unfold VRs at q; subst q
    split at o
    · rename_i hz
      obtain ⟨a, vs, rfl, ha, hv, k⟩ := put_lst w rr hp o
      exact ⟨a, vs, u, rfl, rfl, ha, by rw [← hv.length]; exact hz, k _ _ (hv.append (.cons p (VRs.nil (K := R.K)))) (VR.mkNon (K := R.K))⟩
    · exact o.elim
  · exact o.elim
def lPop (r : RV) (rs : List MV) (s : MS) : Out RV := match rs, place s r with
  | [], some (.lst xs) => match xs[xs.length - 1]? with
    | some x => .ok (.v x) (putC s r (.lst xs.dropLast))
    | none => .bad
  | _, _ => .bad
theorem VRs.dropLast {K : PySem.W.Frag} {G : Gh} {H : Hp} {xs : List MV} {vs : List V} (h : VRs K G H xs vs) : VRs K G H xs.dropLast vs.dropLast := by
  rw [List.dropLast_eq_take, List.dropLast_eq_take, ← h.length]
  exact h.take _
theorem pr_pop : PrimL R rPop lPop := fun {F W σ G H G2 H2 s2 r0 rs v vs Q} w rr rs o => by
  unfold lPop at o
  split at o
  · rename_i xs hp
    unfold VRs at rs; subst rs
    split at o
    · rename_i x hx
      obtain ⟨a, vs, rfl, ha, hv, k⟩ := put_lst w rr hp o
      obtain ⟨u, hu, p⟩ := hv.get hx
      exact ⟨a, vs, u, rfl, rfl, ha, by rw [← hv.length]; exact hu, k _ _ hv.dropLast p⟩
    · exact o.elim
  · exact o.elim
def lClear (r : RV) (rs : List MV) (s : MS) : Out RV := match rs, place s r with
  | [], some (.lst _) => .ok (.v .non) (putC s r (.lst []))
  | _, _ => .bad
theorem pr_clear : PrimL R rClear lClear := fun {F W σ G H G2 H2 s2 r0 rs v vs Q} w rr rs o => by
  unfold lClear at o
  split at o
  · rename_i xs hp
    unfold VRs at rs; subst rs
    obtain ⟨a, vs, rfl, ha, hv, k⟩ := put_lst w rr hp o
    exact ⟨a, vs, rfl, rfl, ha, k _ _ (VRs.nil (K := R.K)) (VR.mkNon (K := R.K))⟩
  · exact o.elim
theorem je_append {o e : Expr} {apos cpos : Pos} {fo : ME} {fa : MS → Out (List MV)} (ho : JE X R W o fo) (ha : JAs X R W [e] fa) (hbase : attributeBase o "append" X.env (eval o X.env) = eval o X.env := by rfl)
    (hfew : ((backTo cpos (starEach [e] X.env)).all (fun x => !x.1) && (backToKw cpos (keywordEach [] X.env)).all (fun x => x.1.isSome) && decide ([e].length + ([] : List Keyword).length + (if ([] : List Keyword).isEmpty then 0 else 1) < 30)) = true := by rfl)
    (hline : (apos.endLine == cpos.line) = true := by rfl) (hs : starEach [e] X.env = (false, eval e X.env) :: starEach [] X.env := by rfl) : JE X R W (.Call (.Attribute o "append" apos) [e] [] cpos) (mLM lAppend fo fa) :=
  je_lm PySem.F.slot_list_append PySem.F.type_list_append mt_append (fun _ => pr_append) ho ha hbase hfew hline hs
theorem je_pop0 {o : Expr} {apos cpos : Pos} {fo : ME} (ho : JE X R W o fo) (hbase : attributeBase o "pop" X.env (eval o X.env) = eval o X.env := by rfl) (hline : (apos.endLine == cpos.line) = true := by rfl) : JE X R W (.Call (.Attribute o "pop" apos) [] [] cpos) (mLM lPop fo (fun s => .ok [] s)) :=
  je_lm0 PySem.F.slot_list_pop PySem.F.type_list_pop mt_pop (fun _ => pr_pop) ho hbase hline
theorem je_clear {o : Expr} {apos cpos : Pos} {fo : ME} (ho : JE X R W o fo) (hbase : attributeBase o "clear" X.env (eval o X.env) = eval o X.env := by rfl) (hline : (apos.endLine == cpos.line) = true := by rfl) : JE X R W (.Call (.Attribute o "clear" apos) [] [] cpos) (mLM lClear fo (fun s => .ok [] s)) :=
  je_lm0 PySem.F.slot_list_clear PySem.F.type_list_clear mt_clear (fun _ => pr_clear) ho hbase hline
end
end Mi
set_option Elab.async false
set_option linter.all false
set_option maxRecDepth 100000
set_option maxHeartbeats 4000000
namespace Mi
open PySem PySem.Spec PyProof.Rows L2
/-! fields -/
theorem putF_keys (f : Str) (v : V) : ∀ fs : List (Str × V), ∀ k, k ∈ (putF f v fs).map (·.1) → k = f ∨ k ∈ fs.map (·.1)
  | [], k, h => by simp [putF] at h; exact .inl h
  | (g, x) :: r, k, h => by
    unfold putF at h
    split at h
    · exact .inr (by simpa using h)
    · simp only [List.map_cons, List.mem_cons] at h ⊢
      rcases h with h | h
      · exact .inr (.inl h)
      · rcases putF_keys f v r k h with q | q
        · exact .inl q
        · exact .inr (.inr q)
theorem putF_nodup (f : Str) (v : V) : ∀ fs : List (Str × V), (fs.map (·.1)).Nodup → ((putF f v fs).map (·.1)).Nodup
  | [], _ => by simp [putF]
  | (g, x) :: r, h => by
    unfold putF
    simp only [List.map_cons, List.nodup_cons] at h
    split
    · simp only [List.map_cons, List.nodup_cons]; exact h
    · rename_i ne
      simp only [List.map_cons, List.nodup_cons]
      refine ⟨fun q => ?_, putF_nodup f v r h.2⟩
      rcases putF_keys f v r g q with z | z
      · exact ne z
      · exact h.1 z
theorem len_of_sub {α : Type} [DecidableEq α] : ∀ {l m : List α}, l.Nodup → (∀ k ∈ l, k ∈ m) → l.length ≤ m.length
  | [], _, _, _ => Nat.zero_le _
  | x :: l, m, h, s => by
    have hx := s x (List.mem_cons_self ..)
    simp only [List.nodup_cons] at h
    have ih := len_of_sub (m := m.erase x) h.2 fun k hk => (List.mem_erase_of_ne (fun z => h.1 (by rw [← z]; exact hk))).mpr (s k (List.mem_cons_of_mem _ hk))
    rw [List.length_erase_of_mem hx] at ih
    have : 0 < m.length := List.length_pos_of_mem hx
    simp only [List.length_cons]; omega
def dropG (G : Gh) (n j : Nat) : Gh := fun d => if G d = some (.fld n j) then none else G d
theorem dropG_of {G : Gh} {n j : Nat} {d : Addr} {r : Role} (h : dropG G n j d = some r) : G d = some r ∧ r ≠ .fld n j := by
  unfold dropG at h
  split at h
  · cases h
  · rename_i z
    exact ⟨h, fun e => z (e ▸ h)⟩
theorem dropG_to {G : Gh} {n j : Nat} {d : Addr} {r : Role} (h : G d = some r) (ne : r ≠ .fld n j) : dropG G n j d = some r := by
  unfold dropG
  rw [if_neg (by rw [h]; intro z; exact ne (Option.some.inj z))]
  exact h
theorem dropG_none {G : Gh} {n j : Nat} {d : Addr} (h : G d = none) : dropG G n j d = none := by
  unfold dropG; rw [if_neg (by rw [h]; simp)]; exact h
def noOwn : Option (Option SV) → Bool
  | some (some (.own _)) => false
  | _ => true
section
variable {R : RC} {F : FI} {G : Gh} {H : Hp} {s : MS} {σ : L2.St} {a : Addr} {n c j : Nat} {fs : List (Option SV)} {nm : Str} {v : V}
theorem drop_evo {o : HO} (ga : G a = some (.obj n)) (h : HRel R G s.hp H) (hn : s.hp[n]? = some (.inst c fs)) (hold : noOwn fs[j]? = true ∨ F.base ≤ n) : Evo (· < F.base) G H (dropG G n j) (upd H a o) := by
  refine ⟨fun d u hd g => ⟨(upd_ne fun z => by rw [z, ga] at g; cases g).trans hd, dropG_none g⟩, fun d g => ⟨dropG_to g (by simp), upd_ne fun z => by rw [z, ga] at g; cases g⟩, fun d m g => dropG_to g (by simp), fun d m f hm g => dropG_to g fun z => ?_, fun d u hd => ?_⟩
  · cases z
    rcases hold with q | q
    · obtain ⟨_, c2, fs2, _, _, _, _, hn2, _, _, _, C, hC⟩ := h.fldOk d n j g
      rw [hn] at hn2; cases hn2
      rw [hC] at q; cases q
    · exact absurd hm (Nat.not_lt.mpr q)
  · by_cases z : d = a
    · subst z
      obtain ⟨a', ga', dx, hfs, ha, _⟩ := h.objs n _ hn
      have ea := h.uniq _ _ _ ga ga'
      subst ea
      exact ⟨_, upd_same, fun q => by rcases q with ⟨x, w, e⟩ | ⟨xs, e⟩ <;> (rw [e, ha] at hd; cases hd)⟩
    · exact ⟨u, (upd_ne z).trans hd, fun _ => rfl⟩
/-- what the field j of the object n gets: the roles behind it -/
inductive NewF (R : RC) (F : FI) (G : Gh) (H : Hp) (n j : Nat) : SV → V → Gh → Prop where
  | v {x : MV} {v : V} (h : VR R.K G H x v) : NewF R F G H n j (.v x) v (dropG G n j)
  | own {C : C} {b : Addr} (g : G b = none) (h0 : F.H0 b = none) (h : CR R.K G H C b) : NewF R F G H n j (.own C) (.ref b) (setG (dropG G n j) b (some (.fld n j)))
theorem setFld_ok {sv : SV} {G' : Gh} (rel : Rel R F G s σ H) (ga : G a = some (.obj n)) (hn : s.hp[n]? = some (.inst c fs)) (hj : (R.flds c)[j]? = some nm) (nd : (R.flds c).Nodup) (hold : noOwn fs[j]? = true ∨ F.base ≤ n) (new : NewF R F G H n j sv v G') :
    ∃ dx hfs, H a = some (.ins (R.cls c) dx hfs) ∧ hfs.length ≤ (R.flds c).length ∧ Rel R F G' { s with hp := s.hp.set n (.inst c (fs.set j (some sv))) } σ (upd H a (.ins (R.cls c) dx (putF nm v hfs))) ∧
      ∀ Gs Hs, Evo (· < F.base) Gs Hs G H → (∀ b, sv.casesOn (fun _ => False) (fun _ => v = .ref b) → Hs b = none) → Evo (· < F.base) Gs Hs G' (upd H a (.ins (R.cls c) dx (putF nm v hfs))) := by
  obtain ⟨a', ga', dx, hfs, ha, hlen, hf, hno, hln, hnd, hks⟩ := rel.hp.objs n _ hn
  have ea := rel.hp.uniq _ _ _ ga ga'
  subst ea
  refine ⟨dx, hfs, ha, hln, ?_⟩
  obtain ⟨H', hH'⟩ : ∃ H', H' = upd H a (.ins (R.cls c) dx (putF nm v hfs)) := ⟨_, rfl⟩
  rw [← hH']
  have same : ∀ d, d ≠ a → H' d = H d := fun d z => by rw [hH']; exact upd_ne z
  have jl : j < fs.length := by rw [hlen]; exact (List.getElem?_eq_some_iff.mp hj).1
  have nme : ∀ f nm', (R.flds c)[f]? = some nm' → f ≠ j → nm' ≠ nm := fun f nm' e z q => by
    subst q
    obtain ⟨h1, e1⟩ := List.getElem?_eq_some_iff.mp e
    obtain ⟨h2, e2⟩ := List.getElem?_eq_some_iff.mp hj
    have pw := List.pairwise_iff_getElem.mp nd
    rcases Nat.lt_or_gt_of_ne z with q | q
    · exact pw f j h1 h2 q (e1.trans e2.symm)
    · exact pw j f h2 h1 q (e2.trans e1.symm)
  have ev0 : Evo (· < F.base) G H (dropG G n j) H' := by rw [hH']; exact drop_evo ga rel.hp hn hold
  -- the roles of G'
  have r1 : ∀ d r, r ≠ .fld n j → (G' d = some r ↔ G d = some r) := fun d r ne => by
    cases new with
    | v h => exact ⟨fun q => (dropG_of q).1, fun q => dropG_to q ne⟩
    | @own C b g h0 h =>
      by_cases z : d = b
      · subst z
        rw [setG_same, g]
        exact ⟨fun q => absurd (Option.some.inj q).symm ne, fun q => by cases q⟩
      · rw [setG_ne z]
        exact ⟨fun q => (dropG_of q).1, fun q => dropG_to q ne⟩
  have r2 : ∀ d, G' d = some (.fld n j) → (∃ C, sv = .own C) ∧ v = .ref d := fun d q => by
    cases new with
    | v h => exact absurd rfl (dropG_of q).2
    | @own C b g h0 h =>
      by_cases z : d = b
      · subst z; exact ⟨⟨_, rfl⟩, rfl⟩
      · rw [setG_ne z] at q; exact absurd rfl (dropG_of q).2
  have aNe : ∀ d r, G d = some r → r ≠ .obj n → d ≠ a := fun d r g ne z => by rw [z, ga] at g; exact ne (Option.some.inj g).symm
  have m : Mo G H G' H' := ⟨fun d g => ⟨(r1 d _ (by simp)).mpr g, same d (aNe d _ g (by simp))⟩, fun d k g => (r1 d _ (by simp)).mpr g, fun d xs q => (same d fun z => by rw [z, ha] at q; cases q).trans q⟩
  have hset : ∀ f, f ≠ j → (fs.set j (some sv))[f]? = fs[f]? := fun f z => List.getElem?_set_ne (Ne.symm z)
  have hr : HRel R G' (s.hp.set n (.inst c (fs.set j (some sv)))) H' := by
    refine ⟨fun k u e => ?_, fun x y k gx gy => rel.hp.uniq x y k ((r1 _ _ (by simp)).mp gx) ((r1 _ _ (by simp)).mp gy), fun x k gx => by rw [List.length_set]; exact rel.hp.lt x k ((r1 _ _ (by simp)).mp gx), fun b k f gb => ?_, fun b q gb => ?_, rel.hp.tabs.mono m (fun d g => ⟨(r1 d _ (by simp)).mpr g, same d (aNe d _ g (by simp))⟩) fun d g => (r1 d _ (by simp)).mp g⟩
    · by_cases hk : k = n
      · subst hk
        rw [List.getElem?_set_self (rel.hp.lt a k ga)] at e
        cases e
        refine ⟨a, (r1 _ _ (by simp)).mpr ga, dx, putF nm v hfs, by rw [hH']; exact upd_same, by simpa using hlen, fun f nm' ef => ?_, fun nm' hnm' => ?_, ?_, putF_nodup _ _ _ hnd, fun q hq => ?_⟩
        · by_cases z : f = j
          · subst z
            rw [hj] at ef; cases ef
            rw [List.getElem?_set_self jl, lookup_putF, if_pos rfl]
            cases new with
            | v h => exact ⟨v, rfl, VR.mono m _ _ h⟩
            | own g h0 h => exact ⟨_, rfl, setG_same, h.mono m (same _ fun z => by rw [z, ga] at g; cases g)⟩
          · rw [hset f z, lookup_putF, if_neg (nme f nm' ef z)]
            refine (hf f nm' ef).mono m fun b gb => ⟨(r1 _ _ (by intro q; cases q; exact z rfl)).mpr gb, same b (aNe b _ gb (by simp))⟩
        · rw [lookup_putF, if_neg fun z => hnm' (by rw [z]; exact List.mem_of_getElem? hj)]
          exact hno nm' hnm'
        · have := len_of_sub (m := R.flds c) (putF_nodup nm v hfs hnd) fun k hk => by
            rcases putF_keys nm v hfs k hk with z | z
            · rw [z]; exact List.mem_of_getElem? hj
            · exact hks k z
          simpa using this
        · rcases putF_keys nm v hfs q hq with z | z
          · rw [z]; exact List.mem_of_getElem? hj
          · exact hks q z
      · rw [List.getElem?_set_ne (Ne.symm hk)] at e
        obtain ⟨b, gb, q⟩ := rel.hp.objs k u e
        refine ⟨b, (r1 _ _ (by simp)).mpr gb, q.mono m (same b (aNe b _ gb (by intro z; cases z; exact hk rfl))) fun d f gd => ⟨(r1 _ _ (by intro z; cases z; exact hk rfl)).mpr gd, same d (aNe d _ gd (by simp))⟩⟩
    · by_cases z : k = n ∧ f = j
      · obtain ⟨rfl, rfl⟩ := z
        obtain ⟨⟨C, rfl⟩, rfl⟩ := r2 b gb
        exact ⟨a, c, _, dx, _, nm, (r1 _ _ (by simp)).mpr ga, List.getElem?_set_self (rel.hp.lt a k ga), by rw [hH']; exact upd_same, hj, by rw [lookup_putF, if_pos rfl], C, List.getElem?_set_self jl⟩
      · have gb' := (r1 b _ (by intro q; cases q; exact z ⟨rfl, rfl⟩)).mp gb
        obtain ⟨d, c2, fs2, dx2, hfs2, nm2, gd, hn2, hd2, e1, e2, C, e3⟩ := rel.hp.fldOk b k f gb'
        by_cases hk : k = n
        · subst hk
          have ed := rel.hp.uniq _ _ _ ga gd
          subst ed
          rw [hn] at hn2; cases hn2
          rw [ha] at hd2; cases hd2
          have fj : f ≠ j := fun q => z ⟨rfl, q⟩
          exact ⟨a, c, _, dx, _, nm2, (r1 _ _ (by simp)).mpr ga, List.getElem?_set_self (rel.hp.lt a k ga), by rw [hH']; exact upd_same, e1, by rw [lookup_putF, if_neg (nme f nm2 e1 fj)]; exact e2, C, by rw [hset f fj]; exact e3⟩
        · exact ⟨d, c2, fs2, dx2, hfs2, nm2, (r1 _ _ (by simp)).mpr gd, by rw [List.getElem?_set_ne (Ne.symm hk)]; exact hn2, (same d (aNe d _ gd (by intro q; cases q; exact hk rfl))).trans hd2, e1, e2, C, e3⟩
    · by_cases z : b = a
      · rw [z, hH']; exact ⟨_, upd_same⟩
      · rw [same b z]
        cases new with
        | v h => exact rel.hp.live b q (dropG_of gb).1
        | @own C b' g h0 h =>
          by_cases y : b = b'
          · subst y; exact h.there
          · rw [setG_ne y] at gb; exact rel.hp.live b q (dropG_of gb).1
  have since : ∀ Gs Hs, Evo (· < F.base) Gs Hs G H → (∀ b, sv.casesOn (fun _ => False) (fun _ => v = .ref b) → Hs b = none) → Evo (· < F.base) Gs Hs G' H' := fun Gs Hs e hb => by
    have e1 := e.trans ev0
    cases new with
    | v h => exact e1
    | own g h0 h => exact e1.setr (hb _ rfl) (dropG_none g)
  refine ⟨⟨hr, rel.len, env_keep m rel.env fun d i g => ⟨(r1 _ _ (by simp)).mpr g, same d (aNe d _ g (by simp))⟩, since _ _ rel.since fun b q => ?_, rel.base, by simpa using rel.le, rel.ent⟩, since⟩
  cases new with
  | v h => exact q.elim
  | own g h0 h => cases q; exact h0
end
end Mi
set_option Elab.async false
set_option linter.all false
set_option maxRecDepth 100000
set_option maxHeartbeats 4000000
namespace Mi
open PySem PySem.Spec PyProof.Rows L2
section
variable {X : Cx} {R : RC} {W : WX} {F : FI} {σ : L2.St} {G G1 : Gh} {H H1 : Hp} {s s1 : MS} {pos pos' : Pos} {e o : Expr} {nm : Str} {c j : Nat}
def mFld (c j : Nat) (f : ME) : ME := fun s => (f s).bind fun r s1 => match r with
  | .v (.ref n) => match s1.hp[n]? with
    | some (.inst c' fs) => if c' = c then (match fs[j]? with
      | some (some (.v x)) => .ok (.v x) s1
      | some (some (.own _)) => .ok (.fld n j) s1
      | _ => .bad) else .bad
    | _ => .bad
  | _ => .bad
theorem obj_at {n : Nat} {Hs : Hp} {v : V} {c : Nat} {fs : List (Option SV)} (rel : Rel R F G s σ H) (rr : RR R σ Hs G H (.v (.ref n)) v) (hn : s.hp[n]? = some (.inst c fs)) : ∃ a dx hfs, v = .ref a ∧ G a = some (.obj n) ∧ H a = some (.ins (R.cls c) dx hfs) ∧ InsF R G H n c fs hfs := by
  have rr : VR R.K G H (.ref n) v := rr
  unfold VR at rr
  obtain ⟨a, rfl, ga⟩ := rr
  obtain ⟨a', ga', dx, hfs, ha, q⟩ := rel.hp.objs n _ hn
  have ea := rel.hp.uniq _ _ _ ga ga'
  subst ea
  exact ⟨a, dx, hfs, rfl, ga, ha, q⟩
theorem je_fld {f : ME} (c j : Nat) (hc : Cls X.K (R.cls c)) (hno : NoAttr X.K (R.cls c) nm) (he : JE X R W e f) (hj : (R.flds c)[j]? = some nm := by rfl) (hb : attributeBase e nm X.env (eval e X.env) = eval e X.env := by rfl) : JE X R W (.Attribute e nm pos) (mFld c j f) := fun hK F =>
  PE.imp (pe_fld (he hK F) hb) fun σ H Q h => by
    refine (first (M := rlE) h).mono fun x H1 ⟨G, r, s1, G1, w, rr, o⟩ => ?_
    have rr : RR R σ H G1 H1 r x := rr
    split at o
    · rename_i n
      split at o
      · rename_i c' fs hn
        split at o
        · rename_i ec
          subst ec
          obtain ⟨a, dx, hfs, rfl, ga, ha, hlen, hf, _⟩ := obj_at w.rel rr hn
          have q := hf j nm hj
          split at o
          · rename_i y hy
            rw [hy] at q
            obtain ⟨v, hv, vr⟩ := q
            exact ⟨a, _, dx, hfs, v, rfl, ha, hc, hno, hv, finV w o vr⟩
          · rename_i C hy
            rw [hy] at q
            obtain ⟨b, hv, gb, _⟩ := q
            exact ⟨a, _, dx, hfs, _, rfl, ha, hc, hno, hv, o _ _ _ w.rel w.evo ⟨b, rfl, gb⟩⟩
          · exact o.elim
        · exact o.elim
      · exact o.elim
    · exact o.elim
theorem share_hp {r : RV} {x : MV} {s2 : MS} (q : share r s1 = .ok x s2) : s2.hp = s1.hp ∧ s2.base = s1.base := by
  cases r with
  | v y => cases q; exact ⟨rfl, rfl⟩
  | own c =>
    simp only [share] at q
    split at q
    · cases q
    · cases q; exact ⟨rfl, rfl⟩
  | loc i =>
    simp only [share] at q
    split at q
    · split at q
      · cases q
      · cases q; exact ⟨rfl, rfl⟩
    · cases q
  | fld n f => cases q
def putFldS (c j n : Nat) (r : RV) (s : MS) : Out Fl := match s.hp[n]? with
  | some (.inst c' fs) => if c' = c ∧ (noOwn fs[j]? = true ∨ s.base ≤ n) then (match r with
    | .own C => .ok .next { s with hp := s.hp.set n (.inst c (fs.set j (some (.own C)))) }
    | r => (share r s).bind fun x s2 => .ok .next { s2 with hp := s2.hp.set n (.inst c (fs.set j (some (.v x)))) }) else .bad
  | _ => .bad
def mSetFld (c j : Nat) (fe fo : ME) : MSt := fun s => (fe s).bind fun r s1 => (fo s1).bind fun ro s2 => match ro with
  | .v (.ref n) => putFldS c j n r s2
  | _ => .bad
theorem js_fld {fe fo : ME} (c j : Nat) (hc : Cls X.K (R.cls c)) (hno : NoAttr X.K (R.cls c) nm) (he : JE X R W e fe) (ho : JE X R W o fo) (hj : (R.flds c)[j]? = some nm := by rfl) (nd : (R.flds c).Nodup := by decide) (hl : (R.flds c).length < 1000 := by decide)
    (hs : swapsWith e (some (.Attribute o nm pos')) pos.line X.env = pure false := by rfl) : JS X R W (.Assign [.Attribute o nm pos'] e pos) (mSetFld c j fe fo) := fun hK F =>
  PS.imp (ps_fld (ho hK F) (he hK F) hs) fun D σ H h => by
    refine (firstS (M := rlE) h).mono fun y H1 ⟨G, r, s1, G1, w, rr, o⟩ => ?_
    refine (nextS (M := rlE) w o).mono fun x H2 ⟨ro, s2, G2, w2, e12, rx, o2⟩ => ?_
    have rr : RR R σ H G1 H1 r y := rr
    have rx : RR R σ H G2 H2 ro x := rx
    have rr2 := rr.mono e12
    split at o2
    · rename_i n rx0
      unfold putFldS at o2
      split at o2
      · rename_i c' fs hn
        split at o2
        · rename_i hcc
          obtain ⟨rfl, hold⟩ := hcc
          obtain ⟨a, _, _, rfl, ga, _⟩ := obj_at w2.rel rx hn
          have shared : OutS R F W G H ((share r s2).bind fun x s2 => .ok .next { s2 with hp := s2.hp.set n (.inst c' (fs.set j (some (.v x)))) }) D →
              ∃ a' C dx fs', V.ref a = .ref a' ∧ H2 a' = some (.ins C dx fs') ∧ Cls X.K C ∧ NoAttr X.K C nm ∧ fs'.length < 1000 ∧ D.nx σ (upd H2 a' (.ins C dx (putF nm y fs'))) := fun o2 => by
            cases q : share r s2 with
            | ok z s3 =>
              rw [q] at o2
              obtain ⟨G3, w3, m, vr⟩ := share_ok w2 rr2 q
              obtain ⟨e1, e2⟩ := share_hp q
              obtain ⟨dx, hfs, ha, hln, rel, evo⟩ := setFld_ok (sv := .v z) w3.rel (m.ob a n ga) (by rw [e1]; exact hn) hj nd (by rw [← w3.rel.base, e2]; exact hold) (.v vr)
              exact ⟨a, _, dx, hfs, rfl, ha, hc, hno, Nat.lt_of_le_of_lt hln hl, o2 _ _ _ rel (evo _ _ w3.evS fun b q => q.elim)⟩
            | exc c xs s3 => exact absurd q share_noexc
            | bad => rw [q] at o2; exact o2.elim
          cases r with
          | own C =>
            obtain ⟨b, rfl, hb, gb, cr⟩ := rr2
            obtain ⟨dx, hfs, ha, hln, rel, evo⟩ := setFld_ok (sv := .own C) w2.rel ga hn hj nd (by rw [← w2.rel.base]; exact hold) (.own gb (fresh_back w2.st hb) cr)
            exact ⟨a, _, dx, hfs, rfl, ha, hc, hno, Nat.lt_of_le_of_lt hln hl, o2 _ _ _ rel (evo _ _ w2.evS fun b' q => by cases q; exact hb)⟩
          | v z => exact shared o2
          | loc i => exact shared o2
          | fld n f => exact shared o2
        · exact o2.elim
      · exact o2.elim
    · exact o2.elim
/-! methods -/
variable {f : Addr} {fd : FuncData} {ps : List Str} {n k : Nat} {run : Fn} {m : Str} {apos : Pos} {es : List Expr}
def mMeth (c : Nat) (run : Fn) (n : Nat) (fo : ME) (fa : MS → Out (List MV)) : ME := fun s => (fo s).bind fun r s1 => match r with
  | .v (.ref q) => match s1.hp[q]? with
    | some (.inst c' _) => if c' = c then (fa s1).bind fun xs s2 => if xs.length + 1 = n then mRun run (.ref q :: xs) s2 else .bad else .bad
    | _ => .bad
  | _ => .bad
theorem je_meth {pl : Sem Bool} {fo : ME} {fa : MS → Out (List MV)} (c : Nat) (hc : Cls X.K (R.cls c)) (hm : Meth X.K (R.cls c) m f) (Fo : FnOk X.prog X.w X.K X.mg X.base (L2.CX X.prog X.w) k f fd ps (spF R n run)) (tk : Takes X W) (hr : Room k X.A) (hb : Binds X.K fd ps [])
    (ho : JE X R W o fo) (ha : JAs X R W (e :: es) fa) (hnm : m ∉ R.flds c := by decide) (hst : starEach (e :: es) X.env = (false, eval e X.env) :: starEach es X.env := by rfl) (hpl : (backTo pos (starEach es X.env)).any (·.1) = false := by rfl)
    (ht : eval (.Call (.Attribute o m apos) (e :: es) [] pos) X.env = (do
      let ov ← eval o X.env
      standAt apos.atName
      let (f, first) ← holding [ov] (getMethod ov m pl)
      callWith pos f first (backTo pos (starEach (e :: es) X.env)) (backToKw pos (keywordEach [] X.env))) := by rfl) : JE X R W (.Call (.Attribute o m apos) (e :: es) [] pos) (mMeth c run n fo fa) := fun hK F => by
  refine ⟨fun pins s σ H Q I h => ?_⟩
  refine PySem.W.methodCall_KW (pl := pl) (thn ((ho hK F).run pins s σ H _ I (first (M := rlE) h)) fun u s1 ⟨x, H1, I1, rx, G, r, m1, G1, w, rr, o⟩ => ?_) ht
  have rr : RR R σ H G1 H1 r x := rr
  split at o
  · rename_i q rr0
    split at o
    · rename_i c' fs hn
      split at o
      · rename_i ec
        subst ec
        obtain ⟨a, dx, hfs, rfl, ga, ha1, _, _, hno, _⟩ := obj_at w.rel rr hn
        obtain rfl : u = Value.ref a := rx
        refine getmeth_ok I1 ha1 hc hm (hno m hnm) ?_
        refine PySem.W.callWith_K (first := [.ref a]) (h₀ := X.base) I.ok.mod.kin hm.kp (thn ((ha hK F).run pos pins s1 σ H1 _ I1 (next (M := rlS) w o)) fun us s2 ⟨vs, H2, I2, r2, xs, m2, G2, w2, e12, rr2, o2⟩ => ⟨I2.kIn, ?_⟩) hst hpl
        have rr2 : VRs R.K G2 H2 xs vs := rr2
        split at o2
        · rename_i hl
          have vr : VR R.K G2 H2 (.ref q) (.ref a) := VR.mono e12.mo _ _ (show VR R.K G1 H1 (.ref q) (.ref a) from rr)
          have sp := run_sp (xs := .ref q :: xs) (n := n) w2 (VRs.cons vr rr2) (by simpa using hl) o2
          exact run_all (us := .ref a :: us) (vs := .ref a :: vs) (E := WE W) Fo hr hb (passAt tk σ) I2 (.cons rfl r2) sp
        · exact o2.elim
      · exact o.elim
    · exact o.elim
  · exact o.elim
theorem je_meth0 {pl : Sem Bool} {fo : ME} (c : Nat) (hc : Cls X.K (R.cls c)) (hm : Meth X.K (R.cls c) m f) (Fo : FnOk X.prog X.w X.K X.mg X.base (L2.CX X.prog X.w) k f fd ps (spF R 1 run)) (tk : Takes X W) (hr : Room k X.A) (hb : Binds X.K fd ps [])
    (ho : JE X R W o fo) (hnm : m ∉ R.flds c := by decide)
    (ht : eval (.Call (.Attribute o m apos) [] [] pos) X.env = (do
      let ov ← eval o X.env
      standAt apos.atName
      let (f, first) ← holding [ov] (getMethod ov m pl)
      callWith pos f first (backTo pos (starEach [] X.env)) (backToKw pos (keywordEach [] X.env))) := by rfl) : JE X R W (.Call (.Attribute o m apos) [] [] pos) (mMeth c run 1 fo (fun s => .ok [] s)) := fun hK F => by
  refine ⟨fun pins s σ H Q I h => ?_⟩
  refine PySem.W.methodCall_KW (pl := pl) (thn ((ho hK F).run pins s σ H _ I (first (M := rlE) h)) fun u s1 ⟨x, H1, I1, rx, G, r, m1, G1, w, rr, o⟩ => ?_) ht
  have rr : RR R σ H G1 H1 r x := rr
  split at o
  · rename_i q rr0
    split at o
    · rename_i c' fs hn
      split at o
      · rename_i ec
        subst ec
        obtain ⟨a, dx, hfs, rfl, ga, ha1, _, _, hno, _⟩ := obj_at w.rel rr hn
        obtain rfl : u = Value.ref a := rx
        refine getmeth_ok I1 ha1 hc hm (hno m hnm) ?_
        have sp := run_sp (xs := [.ref q]) (n := 1) w (VRs.cons (show VR R.K G1 H1 (.ref q) (.ref a) from rr) (VRs.nil (K := R.K))) rfl o
        exact PySem.W.callWith_K0 (first := [.ref a]) I1.kIn hm.kp (run_all (us := [.ref a]) (vs := [.ref a]) (E := WE W) Fo hr hb (passAt tk σ) I1 (.cons rfl .nil) sp)
      · exact o.elim
    · exact o.elim
  · exact o.elim
end
end Mi
set_option Elab.async false
set_option linter.all false
set_option maxRecDepth 100000
set_option maxHeartbeats 4000000
namespace Mi
open PySem PySem.Spec PyProof.Rows L2
section
variable {X : Cx} {R : RC} {W : WX} {F : FI} {σ : L2.St} {G G1 : Gh} {H H1 : Hp} {s s1 : MS} {pos pp : Pos} {e : Expr} {es : List Expr} {x : Str} {c n k : Nat} {f : Addr} {fd : FuncData} {ps : List Str} {run : Fn}
/-- a new instance in the mini heap -/
theorem make_way {p d : Addr} {C : Addr} (w : Way R F σ G H G1 H1 s1) (hC : R.cls c = C) (hp : H1 p = none) (hd : H1 d = none) (ne : d ≠ p) :
    Rel R F (setG G1 p (some (.obj s1.hp.length))) { s1 with hp := s1.hp ++ [.inst c (List.replicate (R.flds c).length none)] } σ (upd (upd H1 d (.own p)) p (.ins C d [])) ∧
    Evo EvT G H (setG G1 p (some (.obj s1.hp.length))) (upd (upd H1 d (.own p)) p (.ins C d [])) ∧ Mo G1 H1 (setG G1 p (some (.obj s1.hp.length))) (upd (upd H1 d (.own p)) p (.ins C d [])) := by
  subst hC
  have gp := w.rel.noRole hp
  have gd := w.rel.noRole hd
  have hpd : (upd H1 d (.own p)) p = none := by rw [upd_ne ne.symm]; exact hp
  have rel1 := w.rel.alloc (o := .own p) hd
  have rel2 := rel1.alloc (o := .ins (R.cls c) d []) hpd
  have hpH := fresh_back w.evo hp
  have hdH := fresh_back w.evo hd
  have hp0 := fresh_back w.st hpH
  have ev1 : Evo EvT G H G1 (upd H1 d (.own p)) := w.evo.updNew hdH gd
  have ev2 : Evo EvT G H G1 (upd (upd H1 d (.own p)) p (.ins (R.cls c) d [])) := ev1.updNew hpH gp
  have m1 : Mo G1 H1 G1 (upd H1 d (.own p)) := Mo.upd (by rw [gd]; simp)
  have m2 : Mo G1 (upd H1 d (.own p)) G1 (upd (upd H1 d (.own p)) p (.ins (R.cls c) d [])) := Mo.upd (by rw [gp]; simp)
  have m3 : Mo G1 (upd (upd H1 d (.own p)) p (.ins (R.cls c) d [])) (setG G1 p (some (.obj s1.hp.length))) (upd (upd H1 d (.own p)) p (.ins (R.cls c) d [])) := Mo.setr gp
  refine ⟨⟨rel2.hp.push gp ⟨_, upd_same⟩ ⟨d, [], upd_same, by simp, fun f nm e => ?_, fun _ _ => rfl, Nat.zero_le _, List.nodup_nil, fun _ h => by cases h⟩, rel2.len, env_keep m3 rel2.env fun b i g => ⟨by rw [setG_ne fun z => by rw [z, gp] at g; cases g]; exact g, rfl⟩, rel2.since.setr hp0 gp, rel2.base, Nat.le_trans rel2.le (by simp), rel2.ent⟩, ev2.setr hpH gp, (m1.trans m2).trans m3⟩
  have : (List.replicate (R.flds c).length (none : Option SV))[f]?.join = none := by
    rw [List.getElem?_replicate]
    split <;> rfl
  rw [this]
  rfl
def mMakeIn (c m : Nat) (run : Fn) (n : Nat) (xs : List MV) (s : MS) : Out RV := if xs.length + 1 = n then
    (mRun run (.ref s.hp.length :: xs) { s with hp := s.hp ++ [.inst c (List.replicate m none)] }).bind fun r s2 => match r with
      | .v .non => .ok (.v (.ref s.hp.length)) s2
      | _ => .bad
  else .bad
theorem make_sp {p d C : Addr} {xs : List MV} {vs : List V} {Q : VK} (w : Way R F σ G H G1 H1 s1) (hC : R.cls c = C) (r : VRs R.K G1 H1 xs vs) (o : OutX rlE R F W σ G H (mMakeIn c (R.flds c).length run n xs s1) Q) (hp : H1 p = none) (hd : H1 d = none) (ne : d ≠ p) :
    spF R n run (.ref p :: vs) (upd (upd H1 d (.own p)) p (.ins C d [])) (fun v H2 => v = .non ∧ Q (.ref p) H2) (WE W σ) := by
  obtain ⟨rel, ev, m⟩ := make_way w hC hp hd ne
  unfold mMakeIn at o
  split at o
  · rename_i hl
    have w2 : Way R F σ (setG G1 p (some (.obj s1.hp.length))) (upd (upd H1 d (.own p)) p (.ins C d [])) (setG G1 p (some (.obj s1.hp.length))) (upd (upd H1 d (.own p)) p (.ins C d [])) { s1 with hp := s1.hp ++ [.inst c (List.replicate (R.flds c).length none)] } := ⟨rel, .refl, rel.since⟩
    refine run_sp (xs := .ref s1.hp.length :: xs) (n := n) w2 (VRs.cons (by unfold VR; exact ⟨p, rfl, setG_same⟩) (VRs.mono m _ _ r)) (by simpa using hl) ?_
    cases q : mRun run (.ref s1.hp.length :: xs) { s1 with hp := s1.hp ++ [.inst c (List.replicate (R.flds c).length none)] } with
    | ok rv s2 =>
      rw [q] at o
      intro G' H' v rel' ev' rr
      have rr : RR R σ _ G' H' rv v := rr
      simp only [Out.bind_ok] at o
      split at o
      · cases RR.non rr
        refine ⟨rfl, o _ _ _ rel' (ev.trans ev') ?_⟩
        show VR _ _ _ _ _
        unfold VR
        exact ⟨p, rfl, ev'.ob p _ setG_same⟩
      · exact o.elim
    | exc c ys s2 =>
      rw [q] at o
      exact fun G' H' cls d rel' ev' x => o G' H' cls d rel' (ev.trans ev') x
    | bad => rw [q] at o; exact o.elim
  · exact o.elim
theorem run_makeSD {pins : List (Addr × Obj)} {H : Hp} {s : Shared} {Q : VK} {us : List Value} {vs : List V} {C : Addr} {sp : Sp} {E : L2.St → XK} (M : Mk X.K C f) (Fo : FnOk X.prog X.w X.K X.mg X.base (L2.CX X.prog X.w) k f fd ps sp) (hr : Room (k + 1) X.A) (hb : Binds X.K fd ps [])
    (hx : PassesAt (L2.CX X.prog X.w) X σ (E σ)) (I : Inv X pins σ H s) (r : Vals vs us)
    (h : ∀ p d, H p = none → H d = none → d ≠ p → sp (.ref p :: vs) (upd (upd H d (.own p)) p (.ins C d [])) (fun v H2 => v = .non ∧ Q (.ref p) H2) (E σ)) :
    wpAny (model X.prog X.w) X.A (call (.ref C) us) (EP X pins σ Q) X.xe s := by
  have hq := h (s.heap.objs.size + 1) s.heap.objs.size (I.hok.fresh (Nat.le_succ _)) (I.hok.fresh (Nat.le_refl _)) (Nat.ne_of_lt (Nat.lt_succ_self _))
  have I2 := Inv.made (C := C) I
  have r2 : Vals (V.ref (s.heap.objs.size + 1) :: vs) (Value.ref (s.heap.objs.size + 1) :: us) := .cons rfl r
  have hl : ((Value.ref (s.heap.objs.size + 1) :: us) ++ ([] : List Value)).length = ps.length := by
    rw [List.append_nil, ← r2.length]; exact Fo.len _ _ _ _ hq
  have hb2 := hb _ (Value.ref (s.heap.objs.size + 1) :: us) I2.kIn hl
  rw [List.append_nil] at hb2
  refine wpAny_call (make_map (f := f) I.kIn M.makes M.init (beq_iff_eq.mp M.fn) (codeAny_mono (Fo.run _ X.stack _ _ ⟨Value.ref (s.heap.objs.size + 1) :: us, []⟩ (Value.ref (s.heap.objs.size + 1) :: us) _ _ (E σ) (hr.make C us [])
    (I2.env0.make C us []) hb2 r2 hq) fun r s' hq' => ?_))
  cases r with
  | error e => exact hx pins _ _ e s' I2 hq'
  | ok fl =>
    cases fl with
    | ret u =>
      obtain ⟨v, H', I3, rv, ev, q3⟩ := I2.after hq'
      subst ev
      exact ⟨rv, ⟨V.ref (s.heap.objs.size + 1), H', I3, rfl, q3⟩⟩
    | next => exact False.elim hq'
    | brk => exact False.elim hq'
    | cont => exact False.elim hq'
def mMake (c m : Nat) (run : Fn) (n : Nat) (fa : MS → Out (List MV)) : ME := fun s => (fa s).bind (mMakeIn c m run n)
theorem je_make {fa : MS → Out (List MV)} (c : Nat) (M : Mk X.K (R.cls c) f) (Fo : FnOk X.prog X.w X.K X.mg X.base (L2.CX X.prog X.w) k f fd ps (spF R n run)) (tk : Takes X W) (hr : Room (k + 1) X.A) (hm : X.mg x = some (.ref (R.cls c))) (hb : Binds X.K fd ps [])
    (ha : JAs X R W (e :: es) fa) {m : Nat} (hmm : (R.flds c).length = m := by rfl) (hg : Gl X x := by rfl) (hdb : (x == ("__debug__" : Str)) = false := by decide) (he : starEach (e :: es) X.env = (false, eval e X.env) :: starEach es X.env := by rfl) (hpl : (backTo pos (starEach es X.env)).any (·.1) = false := by rfl) :
    JE X R W (.Call (.Name x pp) (e :: es) [] pos) (mMake c m run n fa) := fun hK F => by
  subst hmm
  refine ⟨fun pins s σ H Q I h => ?_⟩
  refine wpAny_Call_Name_kw (ld_glob I hg hm ?_ hdb)
  refine PySem.W.callWith_K (h₀ := X.base) I.ok.mod.kin M.kp (thn ((ha hK F).run pos pins s σ H _ I (first (M := rlS) h)) fun us s1 ⟨vs, H1, I1, r, G, xs, m1, G1, w, rr, o⟩ => ⟨I1.kIn, ?_⟩) he hpl
  exact run_makeSD (E := WE W) M Fo hr hb (passAt tk σ) I1 r fun p d hp hd ne => make_sp w rfl rr o hp hd ne
theorem je_make0 (c : Nat) (M : Mk X.K (R.cls c) f) (Fo : FnOk X.prog X.w X.K X.mg X.base (L2.CX X.prog X.w) k f fd ps (spF R 1 run)) (tk : Takes X W) (hr : Room (k + 1) X.A) (hm : X.mg x = some (.ref (R.cls c))) (hb : Binds X.K fd ps [])
    {m : Nat} (hmm : (R.flds c).length = m := by rfl) (hg : Gl X x := by rfl) (hdb : (x == ("__debug__" : Str)) = false := by decide) :
    JE X R W (.Call (.Name x pp) [] [] pos) (mMake c m run 1 (fun s => .ok [] s)) := fun hK F => by
  subst hmm
  refine ⟨fun pins s σ H Q I h => ?_⟩
  refine wpAny_Call_Name_kw (ld_glob I hg hm ?_ hdb)
  obtain ⟨G, s1, rel, o⟩ := h
  have w : Way R F σ G H G H s1 := ⟨rel, .refl, rel.since⟩
  exact PySem.W.callWith_K0 I.kIn M.kp (run_makeSD (us := []) (vs := []) (E := WE W) M Fo hr hb (passAt tk σ) I .nil fun p d hp hd ne => make_sp (xs := []) w rfl (VRs.nil (K := R.K)) o hp hd ne)
end
end Mi
set_option Elab.async false
set_option linter.all false
set_option maxRecDepth 100000
set_option maxHeartbeats 4000000
namespace Mi
open PySem PySem.Spec PyProof.Rows L2
section
variable {X : Cx} {R : RC} {W : WX} {F : FI} {σ : L2.St} {G G1 : Gh} {H H1 : Hp} {s s1 : MS} {pos pos' : Pos} {e o : Expr} {nm : Str} {c j : Nat}
/-! while -/
def whGo (ft : MS → Out Bool) (fb : MSt) : Nat → MS → Out Fl
  | 0, _ => .bad
  | n + 1, s => (ft s).bind fun b s1 => if b = true then (fb s1).bind fun fl s2 => match fl with
      | .next => whGo ft fb n s2
      | .ret r => .ok (.ret r) s2 else .ok .next s1
open Classical in
noncomputable def mWhile (ft : MS → Out Bool) (fb : MSt) : MSt := fun s => if h : ∃ n, whGo ft fb n s ≠ .bad then whGo ft fb h.choose s else .bad
theorem whGo_step {ft : MS → Out Bool} {fb : MSt} : ∀ (n : Nat) (s : MS), whGo ft fb n s ≠ .bad → whGo ft fb (n + 1) s = whGo ft fb n s
  | 0, s, h => absurd rfl h
  | n + 1, s, h => by
    unfold whGo at h ⊢
    cases q : ft s with
    | bad => rfl
    | exc c xs s1 => rfl
    | ok b s1 =>
      rw [q] at h
      simp only [Out.bind_ok] at h ⊢
      cases b with
      | false => rfl
      | true =>
        simp only [if_true] at h ⊢
        cases q2 : fb s1 with
        | bad => rfl
        | exc c xs s2 => rfl
        | ok fl s2 =>
          rw [q2] at h
          cases fl with
          | next => exact whGo_step n s2 h
          | ret r => rfl
theorem whGo_le {ft : MS → Out Bool} {fb : MSt} {n : Nat} {s : MS} (h : whGo ft fb n s ≠ .bad) : ∀ k, whGo ft fb (n + k) s = whGo ft fb n s
  | 0 => rfl
  | k + 1 => by
    have ih := whGo_le h k
    rw [← Nat.add_assoc, whGo_step (n + k) s (by rw [ih]; exact h), ih]
theorem while_eq {ft : MS → Out Bool} {fb : MSt} {n : Nat} {s : MS} (h : whGo ft fb n s ≠ .bad) : mWhile ft fb s = whGo ft fb n s := by
  have hx : ∃ n, whGo ft fb n s ≠ .bad := ⟨n, h⟩
  unfold mWhile
  rw [dif_pos hx]
  have h2 := hx.choose_spec
  rcases Nat.le_total n hx.choose with q | q
  · obtain ⟨k, e⟩ := Nat.exists_eq_add_of_le q
    rw [e]; exact whGo_le h k
  · obtain ⟨k, e⟩ := Nat.exists_eq_add_of_le q
    have := whGo_le h2 k
    rw [← e] at this
    exact this.symm
theorem js_while {t : Expr} {body : List Stmt} {ft : MS → Out Bool} {fb : MSt} (hp : PassesOwn (model X.prog X.w) X.A X.env X.xe) (hc : JT X R W t ft) (hb : JB X R W body fb) : JS X R W (.While t body [] pos) (mWhile ft fb) := fun hK F =>
  PS.imp (ps_while hp (hc hK F) (hb hK F)) fun D σ H ⟨G, s, rel, o⟩ => by
    obtain ⟨m, hm⟩ : ∃ m, OutS R F W G H (whGo ft fb m s) D := by
      unfold mWhile at o
      split at o
      · exact ⟨_, o⟩
      · exact o.elim
    refine ⟨fun m σ' H' => ∃ G2 s2, Rel R F G2 s2 σ' H' ∧ Evo (· < F.base) G H G2 H' ∧ OutS R F W G H (whGo ft fb m s2) D, ⟨m, G, s, rel, .refl, hm⟩, ?_⟩
    rintro m σ' H' ⟨G2, s2, rel2, ev2, o2⟩
    cases m with
    | zero => exact o2.elim
    | succ n =>
      unfold whGo at o2
      refine ⟨G2, s2, rel2, ?_⟩
      cases q : ft s2 with
      | bad => rw [q] at o2; exact o2.elim
      | exc c xs s3 => rw [q] at o2; exact fun G' H'' cls d rel' ev e => o2 G' σ' H'' cls d rel' (ev2.trans (ev.weak fun _ _ => trivial)) e
      | ok b s3 =>
        rw [q] at o2
        intro G3 H3 b' rel3 ev3 eb
        have eb : b' = b := eb
        subst eb
        have ev23 : Evo (· < F.base) G H G3 H3 := ev2.trans (ev3.weak fun _ _ => trivial)
        simp only [Out.bind_ok] at o2
        cases b' with
        | false =>
          rw [if_neg (by simp)] at o2 ⊢
          exact o2 G3 σ' H3 rel3 ev23
        | true =>
          rw [if_pos rfl] at o2 ⊢
          refine ⟨fun σ4 H4 => ∃ G4 s4, Rel R F G4 s4 σ4 H4 ∧ Evo (· < F.base) G H G4 H4 ∧ OutS R F W G H (whGo ft fb n s4) D, fun σ4 H4 ⟨G4, s4, r4, e4, o4⟩ => ⟨n, Nat.lt_succ_self n, G4, s4, r4, e4, o4⟩, G3, s3, rel3, ?_⟩
          cases q2 : fb s3 with
          | bad => rw [q2] at o2; exact o2.elim
          | exc c xs s4 => rw [q2] at o2; exact fun G' σ5 H5 cls d r5 ev5 x => o2 G' σ5 H5 cls d r5 (ev23.trans ev5) x
          | ok fl s4 =>
            rw [q2] at o2
            cases fl with
            | next => exact fun G' σ5 H5 rel5 ev5 => ⟨G', s4, rel5, ev23.trans ev5, o2⟩
            | ret r => exact o2
/-! op= -/
def opIAdd (r1 r2 : RV) (s : MS) : Out RV := match r1, r2 with
  | .v (.int i), .v (.int j) => .ok (.v (.int (i + j))) s
  | .v (.str a), .v (.str b) => if a.length + b.length ≤ sizeLine then .ok (.v (.str (a ++ b))) s else .bad
  | _, _ => .bad
def rIAdd : R2 := fun x y H Q => rI0 (fun i j => .int (i + j)) x y H Q ∨ ∃ i j, x = .str i ∧ y = .str j ∧ i.length + j.length ≤ sizeLine ∧ Q (.str (i ++ j)) H
theorem op_iadd : OpR X (inplaceOp .Add) rIAdd := OpR.or iop_add iop_add_str
theorem pr_iadd : PrimR R rIAdd opIAdd := fun {F W σ G H G2 H2 s2 r1 r2 x y Q} w h1 h2 o => by
  unfold opIAdd at o
  split at o
  · cases RR.int h1; cases RR.int h2
    exact .inl ⟨_, _, rfl, rfl, finI w o⟩
  · cases RR.str h1; cases RR.str h2
    split at o
    · rename_i hz
      refine .inr ⟨_, _, rfl, rfl, ?_, finS w o ?_⟩
      · simpa [PySem.Str.length] using hz
      · exact Array.toList_append.trans (by simp only [List.toList_toArray])
    · exact o.elim
  · exact o.elim
theorem pr_isub : PrimR R (rI0 fun i j => .int (i - j)) opSub := pr_sub
def mAug (i : Nat) (p : RV → RV → MS → Out RV) (fe : ME) : MSt := fun s => match s.env[i]? with
  | some (some (.v x)) => (fe s).bind fun r s1 => (p (.v x) r s1).bind fun z s2 => putSlot i z s2
  | _ => .bad
theorem js_aug {i : Nat} {x : Str} {op : Operator} {fe : ME} {r : R2} {p : RV → RV → MS → Out RV} (hN : X.N.Nodup) (hop : OpR X (inplaceOp op) r) (pr : PrimR R r p) (he : JE X R W e fe) (hi : X.N[i]? = some x := by rfl) (hx : Loc X.env.scope x := by first | exact Or.inl rfl | exact Or.inr rfl)
    (hf : X.fn x = true ∨ X.env.scope.names.lookup x = some .local := by first | exact .inl rfl | exact .inr rfl) : JS X R W (.AugAssign (.Name x pos') op e pos) (mAug i p fe) := fun hK F =>
  PS.imp (ps_aug hN hi hx (he hK F) hop hf) fun D σ H ⟨G, s, rel, o⟩ => by
    unfold mAug at o
    split at o
    · rename_i x0 hx0
      obtain ⟨v, hv, vr⟩ := rel.env i _ hx0
      have vr : VR R.K G H x0 v := vr
      refine ⟨v, hv, ?_⟩
      have w0 : Way R F σ G H G H s := ⟨rel, .refl, rel.since⟩
      refine (nextS (M := rlE) w0 o).mono fun y H1 ⟨r1, s1, G1, w, e1, rr, o1⟩ => ?_
      have rx : RR R σ H G1 H1 (.v x0) v := VR.mono e1.mo _ _ vr
      refine pr w rx rr (W := W) ?_
      cases q : p (.v x0) r1 s1 with
      | ok z s2 =>
        rw [q] at o1
        intro G2 H2 zv rel2 ev2 rz
        exact putSlot_ok ⟨rel2, ev2, w.st⟩ rz o1
      | exc c xs s2 => rw [q] at o1; exact fun G' H' cls d rel' ev e => o1 G' σ H' cls d rel' (ev.weak fun _ _ => trivial) e
      | bad => rw [q] at o1; exact o1
    · exact o.elim
/-- a field is written: what the rule asks -/
theorem putFldS_ok {n : Nat} {r : RV} {y : V} {a : Addr} {D : Ends} (w : Way R F σ G H G1 H1 s1) (rr : RR R σ H G1 H1 r y) (ra : VR R.K G1 H1 (.ref n) (.ref a)) (hj : (R.flds c)[j]? = some nm) (nd : (R.flds c).Nodup) (o : OutS R F W G H (putFldS c j n r s1) D) :
    ∃ dx hfs, H1 a = some (.ins (R.cls c) dx hfs) ∧ hfs.length ≤ (R.flds c).length ∧ D.nx σ (upd H1 a (.ins (R.cls c) dx (putF nm y hfs))) := by
  unfold putFldS at o
  split at o
  · rename_i c' fs hn
    split at o
    · rename_i hcc
      obtain ⟨rfl, hold⟩ := hcc
      obtain ⟨a', _, _, ea, ga, _⟩ := obj_at (Hs := H) w.rel (show RR R σ H G1 H1 (.v (.ref n)) (.ref a) from ra) hn
      cases ea
      have shared : OutS R F W G H ((share r s1).bind fun x s2 => .ok .next { s2 with hp := s2.hp.set n (.inst c' (fs.set j (some (.v x)))) }) D →
          ∃ dx hfs, H1 a = some (.ins (R.cls c') dx hfs) ∧ hfs.length ≤ (R.flds c').length ∧ D.nx σ (upd H1 a (.ins (R.cls c') dx (putF nm y hfs))) := fun o => by
        cases q : share r s1 with
        | ok z s3 =>
          rw [q] at o
          obtain ⟨G3, w3, m, vr⟩ := share_ok w rr q
          obtain ⟨e1, e2⟩ := share_hp q
          obtain ⟨dx, hfs, ha, hln, rel, evo⟩ := setFld_ok (sv := .v z) w3.rel (m.ob a n ga) (by rw [e1]; exact hn) hj nd (by rw [← w3.rel.base, e2]; exact hold) (.v vr)
          exact ⟨dx, hfs, ha, hln, o _ _ _ rel (evo _ _ w3.evS fun b q => q.elim)⟩
        | exc c xs s3 => exact absurd q share_noexc
        | bad => rw [q] at o; exact o.elim
      cases r with
      | own C =>
        obtain ⟨b, rfl, hb, gb, cr⟩ := rr
        obtain ⟨dx, hfs, ha, hln, rel, evo⟩ := setFld_ok (sv := .own C) w.rel ga hn hj nd (by rw [← w.rel.base]; exact hold) (.own gb (fresh_back w.st hb) cr)
        exact ⟨dx, hfs, ha, hln, o _ _ _ rel (evo _ _ w.evS fun b' q => by cases q; exact hb)⟩
      | v z => exact shared o
      | loc i => exact shared o
      | fld n f => exact shared o
    · exact o.elim
  · exact o.elim
/-- o.f op= e, of a value -/
def mAugFld (c j : Nat) (p : RV → RV → MS → Out RV) (fo fe : ME) : MSt := fun s => (fo s).bind fun ro s0 => match ro with
  | .v (.ref n) => match s0.hp[n]? with
    | some (.inst c' fs) => if c' = c then (match fs[j]? with
      | some (some (.v x)) => (fe s0).bind fun r s2 => if isScal (.v x) = true ∧ isScal r = true then (p (.v x) r s2).bind fun z s3 => putFldS c j n z s3 else .bad
      | _ => .bad) else .bad
    | _ => .bad
  | _ => .bad
theorem js_augfld {op : Operator} {fo fe : ME} {r : R2} {p : RV → RV → MS → Out RV} (c j : Nat) (hc : Cls X.K (R.cls c)) (hno : NoAttr X.K (R.cls c) nm) (hop : OpR X (inplaceOp op) r) (pr : PrimR R r p) (ho : JE X R W o fo) (he : JE X R W e fe) (hj : (R.flds c)[j]? = some nm := by rfl) (nd : (R.flds c).Nodup := by decide) (hl : (R.flds c).length < 1000 := by decide) :
    JS X R W (.AugAssign (.Attribute o nm pos') op e pos) (mAugFld c j p fo fe) := fun hK F =>
  PS.imp (ps_fldaug (ho hK F) (he hK F) hop) fun D σ H h => by
    refine (firstS (M := rlE) h).mono fun x H1 ⟨G, ro, s1, G1, w, rx, o⟩ => ?_
    have rx : RR R σ H G1 H1 ro x := rx
    split at o
    · rename_i n rx0
      split at o
      · rename_i c' fs hn
        split at o
        · rename_i ec
          subst ec
          obtain ⟨a, dx, hfs, rfl, ga, ha, hlen, hf, _⟩ := obj_at w.rel rx hn
          have q := hf j nm hj
          split at o
          · rename_i y hy
            rw [hy] at q
            obtain ⟨v, hv, vr⟩ := q
            have vr : VR R.K G1 H1 y v := vr
            refine ⟨a, _, dx, hfs, v, rfl, ha, hc, hno, hv, ?_⟩
            refine (nextS (M := rlE) w o).mono fun z H2 ⟨r1, s2, G2, w2, e12, rr, o2⟩ => ?_
            have rv : RR R σ H G2 H2 (.v y) v := VR.mono e12.mo _ _ vr
            have ra : VR R.K G2 H2 (.ref n) (.ref a) := VR.mono e12.mo _ _ (show VR R.K G1 H1 (.ref n) (.ref a) from rx)
            split at o2
            · rename_i hsc
              have w3 : Way R F σ G2 H2 G2 H2 s2 := ⟨w2.rel, .refl, w2.rel.since⟩
              have rr : RR R σ H G2 H2 r1 z := rr
              refine pr w3 (rv.scal hsc.1) (rr.scal hsc.2) (W := W) ?_
              cases q2 : p (.v y) r1 s2 with
              | ok z s3 =>
                rw [q2] at o2
                intro G3 H3 zv rel3 ev3 rz
                have rz : RR R σ H2 G3 H3 z zv := rz
                obtain ⟨dx', hfs', ha', hln', nx⟩ := putFldS_ok (H := H) ⟨rel3, w2.evo.trans ev3, w2.st⟩ (rz.back w2.evo) (VR.mono ev3.mo _ _ ra) hj nd o2
                exact ⟨dx', hfs', ha', Nat.lt_of_le_of_lt hln' hl, nx⟩
              | exc c xs s3 => rw [q2] at o2; exact fun G' H' cls d rel' ev e => o2 G' σ H' cls d rel' (w2.evS.trans (ev.weak fun _ _ => trivial)) e
              | bad => rw [q2] at o2; exact o2
            · exact o2.elim
          · exact o.elim
        · exact o.elim
      · exact o.elim
    · exact o.elim
end
end Mi
set_option Elab.async false
set_option linter.all false
set_option maxRecDepth 100000
set_option maxHeartbeats 4000000
namespace Mi
open PySem PySem.Spec PyProof.Rows L2
section
variable {X : Cx}
def rDGetV : R2 := fun x y H Q => ∃ a v, x = .ref a ∧ DGet H a y (some v) ∧ Q v H
theorem ix_dict (hu : X.A.units + 1 < cLine) : IxR X rDGetV := by
  intro value slice pins s σ H x y v u Q I rx ry h hs
  obtain ⟨a, z, rfl, g, q⟩ := h
  cases rx
  exact tail_any (dict_typeIs I g) PySem.F.slot_dict_getitem.lookup (d_getItem hu I g ry fun w' s3 I3 rw' => ⟨z, H, I3, rw', q⟩) hs
theorem op_in_dict (hu : X.A.units + 1 < cLine) : OpR X (compareOp .In) (fun x y H Q => ∃ a o, y = .ref a ∧ DGet H a x o ∧ Q (.bl o.isSome) H) := by
  intro pins s σ H x y v u Q I rx ry h
  obtain ⟨a, o, rfl, g, q⟩ := h
  cases ry
  exact d_in hu I g rx fun s3 I3 => ⟨.bl o.isSome, H, I3, rfl, q⟩
theorem op_notIn_dict (hu : X.A.units + 1 < cLine) : OpR X (compareOp .NotIn) (fun x y H Q => ∃ a o, y = .ref a ∧ DGet H a x o ∧ Q (.bl (!o.isSome)) H) := by
  intro pins s σ H x y v u Q I rx ry h
  obtain ⟨a, o, rfl, g, q⟩ := h
  cases ry
  exact d_notIn hu I g rx fun s3 I3 => ⟨.bl (!o.isSome), H, I3, rfl, q⟩
def rSetDV : V → V → V → Hp → (Hp → Prop) → Prop := fun o i v H Q => ∃ a H', o = .ref a ∧ DPut H a i v H' ∧ Q H'
theorem set_dict (hu : X.A.units + 1 < cLine) : PSet X rSetDV := by
  intro pins s σ H o i v ov iv u Q I ro ri rv h
  obtain ⟨a, H', rfl, g, q⟩ := h
  cases ro
  exact d_setItem hu I g ri rv fun s3 I3 => ⟨H', I3, q⟩
/-- o[i] = v: a list's or a dict's -/
theorem set_any (hu : X.A.units + 1 < cLine) : PSet X (fun o i v H Q => rSetL o i v H Q ∨ rSetDV o i v H Q) := by
  intro pins s σ H o i v ov iv u Q I ro ri rv h
  rcases h with h | h
  · exact set_list pins s σ H o i v ov iv u Q I ro ri rv h
  · exact set_dict hu pins s σ H o i v ov iv u Q I ro ri rv h
end
/-! dicts of the mini layer: keys are ints and texts -/
def keyOf : MV → Option Key
  | .int i => some (.inl i)
  | .str z => some (.inr ⟨z.toArray⟩)
  | _ => none
theorem keyOf_V {K : PySem.W.Frag} {G : Gh} {H : Hp} {x : MV} {v : V} {k : Key} (h : VR K G H x v) (e : keyOf x = some k) : v = kV k ∧ keyMV k = x := by
  cases x with
  | int i => cases e; exact ⟨VR.int h, rfl⟩
  | str z => cases e; exact ⟨VR.str h, rfl⟩
  | _ => cases e
theorem keyMV_inj {a b : Key} (h : keyMV a = keyMV b) : a = b := by
  cases a with
  | inl i => cases b with
    | inl j => simp only [keyMV, MV.int.injEq] at h; rw [h]
    | inr y => simp [keyMV] at h
  | inr x => cases b with
    | inl j => simp [keyMV] at h
    | inr y =>
      obtain ⟨⟨x⟩⟩ := x
      obtain ⟨⟨y⟩⟩ := y
      simp only [keyMV, MV.str.injEq] at h
      cases h; rfl
/-- are two keys alike -/
def eqK : MV → MV → Bool
  | .int a, .int b => decide (a = b)
  | .str a, .str b => decide (a = b)
  | _, _ => false
theorem eqK_iff (a b : Key) : eqK (keyMV a) (keyMV b) = decide (a = b) := by
  by_cases h : a = b
  · subst h
    rw [decide_eq_true rfl]
    cases a <;> simp [keyMV, eqK]
  · rw [decide_eq_false h]
    cases a with
    | inl i => cases b with
      | inl j => simp only [keyMV, eqK]; exact decide_eq_false fun z => h (by rw [z])
      | inr y => rfl
    | inr x => cases b with
      | inl j => rfl
      | inr y => simp only [keyMV, eqK]; exact decide_eq_false fun z => h (keyMV_inj (by simp only [keyMV]; rw [z]))
def getK : List (MV × MV) → MV → Option MV
  | [], _ => none
  | (k', x) :: r, k => if eqK k' k = true then some x else getK r k
def setK (kvs : List (MV × MV)) (k x : MV) : List (MV × MV) := if (kvs.any fun p => eqK p.1 k) = true then kvs.map (fun p => if eqK p.1 k = true then (p.1, x) else p) else kvs ++ [(k, x)]
section
variable {K : PySem.W.Frag} {G : Gh} {H : Hp}
/-- the mini dict and the tracked one -/
def DD (K : PySem.W.Frag) (G : Gh) (H : Hp) (kvs : List (MV × MV)) (dk : List (Key × V)) : Prop := kvs.map (·.1) = dk.map (fun q => keyMV q.1) ∧ VRs K G H (kvs.map (·.2)) (dk.map (·.2))
theorem DD.inv {p : MV × MV} {kvs : List (MV × MV)} {dk : List (Key × V)} (h : DD K G H (p :: kvs) dk) : ∃ j v r, dk = (j, v) :: r ∧ p.1 = keyMV j ∧ VR K G H p.2 v ∧ DD K G H kvs r := by
  obtain ⟨h1, h2⟩ := h
  cases dk with
  | nil => simp at h1
  | cons q r =>
    simp only [List.map_cons, List.cons.injEq] at h1
    obtain ⟨v, t, e, p1, p2⟩ := VRs.inv (K := K) (G := G) (H := H) (by simpa using h2)
    simp only [List.map_cons, List.cons.injEq] at e
    obtain ⟨e1, e2⟩ := e
    subst e1 e2
    exact ⟨q.1, q.2, r, rfl, h1.1, p1, h1.2, p2⟩
theorem DD.nil {dk : List (Key × V)} (h : DD K G H [] dk) : dk = [] := by
  obtain ⟨h1, _⟩ := h
  cases dk with
  | nil => rfl
  | cons q r => simp at h1
theorem DD.cons {p : MV × MV} {kvs : List (MV × MV)} {j : Key} {v : V} {r : List (Key × V)} (e : p.1 = keyMV j) (hv : VR K G H p.2 v) (h : DD K G H kvs r) : DD K G H (p :: kvs) ((j, v) :: r) :=
  ⟨by simp [e, h.1], VRs.cons (K := K) (G := G) (H := H) hv h.2⟩
theorem DD.get : ∀ {kvs : List (MV × MV)} {dk : List (Key × V)} (k : Key), DD K G H kvs dk → (getK kvs (keyMV k) = none → valV dk k = none) ∧ ∀ x, getK kvs (keyMV k) = some x → ∃ v, valV dk k = some v ∧ VR K G H x v
  | [], dk, k, h => by
    rw [h.nil]
    exact ⟨fun _ => rfl, fun x e => by cases e⟩
  | p :: kvs, dk, k, h => by
    obtain ⟨j, v, r, rfl, e, hv, hr⟩ := h.inv
    obtain ⟨pk, px⟩ := p
    simp only at e hv
    subst e
    unfold getK
    rw [eqK_iff]
    by_cases z : j = k
    · rw [if_pos (decide_eq_true z), valV_pos (by exact z)]
      exact ⟨(fun q => by cases q), fun x q => by cases q; exact ⟨v, rfl, hv⟩⟩
    · rw [if_neg (by simpa using z), valV_neg (by exact z)]
      exact DD.get k hr
theorem DD.any : ∀ {kvs : List (MV × MV)} {dk : List (Key × V)} (k : Key), DD K G H kvs dk → (kvs.any fun p => eqK p.1 (keyMV k)) = dk.any fun q => decide (q.1 = k)
  | [], dk, k, h => by rw [h.nil]; rfl
  | p :: kvs, dk, k, h => by
    obtain ⟨j, v, r, rfl, e, hv, hr⟩ := h.inv
    simp only [List.any_cons, e, eqK_iff, DD.any k hr]
theorem DD.map : ∀ {kvs : List (MV × MV)} {dk : List (Key × V)} (k : Key) {x : MV} {u : V}, VR K G H x u → DD K G H kvs dk → DD K G H (kvs.map fun p => if eqK p.1 (keyMV k) = true then (p.1, x) else p) (dk.map fun q => if q.1 = k then (q.1, u) else q)
  | [], dk, k, x, u, _, h => by rw [h.nil]; exact ⟨rfl, VRs.nil (K := K) (G := G) (H := H)⟩
  | p :: kvs, dk, k, x, u, hu, h => by
    obtain ⟨j, v, r, rfl, e, hv, hr⟩ := h.inv
    simp only [List.map_cons, e, eqK_iff]
    by_cases z : j = k
    · rw [if_pos (decide_eq_true z), if_pos z]; exact .cons rfl hu (DD.map k hu hr)
    · rw [if_neg (by simpa using z), if_neg z]; exact .cons e hv (DD.map k hu hr)
theorem DD.put {kvs : List (MV × MV)} {dk : List (Key × V)} (k : Key) {x : MV} {u : V} (hu : VR K G H x u) (h : DD K G H kvs dk) : DD K G H (setK kvs (keyMV k) x) (putK dk k u) := by
  unfold setK putK
  rw [DD.any k h]
  split
  · exact DD.map k hu h
  · exact ⟨by simp [h.1], by
      rw [List.map_append, List.map_append]
      exact h.2.append (.cons hu (VRs.nil (K := K) (G := G) (H := H)))⟩
theorem DD.length {kvs : List (MV × MV)} {dk : List (Key × V)} (h : DD K G H kvs dk) : kvs.length = dk.length := by
  have := congrArg List.length h.1
  simpa using this
end
def dictOf (s : MS) (r : RV) : Option (List (MV × MV)) := match cont s r with | some (.dict kvs) => some kvs | some (.lock kvs) => some kvs | _ => none
section
variable {X : Cx} {R : RC} {W : WX} {F : FI} {σ : L2.St} {G G1 : Gh} {H H1 : Hp} {s s1 : MS} {pos : Pos} {k : Nat}
theorem dict_ok {Hs : Hp} {r : RV} {v : V} {kvs : List (MV × MV)} (rel : Rel R F G s σ H) (rr : RR R σ Hs G H r v) (e : dictOf s r = some kvs) : ∃ a dk, v = .ref a ∧ Rd H a (.dK dk) ∧ DD R.K G H kvs dk := by
  unfold dictOf at e
  split at e
  · rename_i ys c
    cases e
    obtain ⟨a, q, ho, h, dk, rfl, h1, h2⟩ := cont_ok rel rr c
    exact ⟨a, dk, q, .inl h, h1, h2⟩
  · rename_i ys c
    cases e
    obtain ⟨a, q, od, ho, h, dk, rfl, h1, h2⟩ := cont_ok rel rr c
    exact ⟨a, dk, q, .inr ⟨od, h⟩, h1, h2⟩
  · cases e
theorem DGet.rd {H : Hp} {a : Addr} {kvs : List (Key × V)} {k : Key} (e : Rd H a (.dK kvs)) : DGet H a (kV k) (valV kvs k) := .inl ⟨kvs, k, e, rfl, rfl⟩
/-- o[i]: of a dict, else of a list, a tuple, a text -/
def opIxA (r1 r2 : RV) (s : MS) : Out RV := match dictOf s r1 with
  | some kvs => match r2 with
    | .v k => match keyOf k with
      | some _ => match getK kvs k with | some x => .ok (.v x) s | none => .bad
      | none => .bad
    | _ => .bad
  | none => opIx r1 r2 s
theorem hu1 {A : Around} (hr : Room k A) : A.units + 1 < cLine := by have := hr.un; omega
theorem pr_ixA : PrimR R (fun x y H Q => (rIxL R.K x y H Q ∨ (rIxT R.K x y H Q ∨ rIxS x y H Q)) ∨ rDGetV x y H Q) opIxA := fun {F W σ G H G2 H2 s2 r1 r2 x y Q} w h1 h2 o => by
  unfold opIxA at o
  split at o
  · rename_i kvs hd
    obtain ⟨a, dk, rfl, ha, dd⟩ := dict_ok w.rel h1 hd
    split at o
    · split at o
      · rename_i kk hk
        obtain ⟨rfl, e⟩ := keyOf_V (K := R.K) (G := G2) (H := H2) h2 hk
        subst e
        split at o
        · rename_i z hz
          obtain ⟨v, hv, vr⟩ := (dd.get kk).2 z hz
          exact .inr ⟨a, v, rfl, by rw [← hv]; exact DGet.rd ha, finV w o vr⟩
        · exact o.elim
      · exact o.elim
    · exact o.elim
  · exact .inl (pr_ix w h1 h2 o)
theorem je_ixA {a b : Expr} {fa fb : ME} (hr : Room k X.A) (ha : JE X R W a fa) (hb : JE X R W b fb) (hs : PlainIx b := by intro _ _; rfl) : JE X R W (.Subscript a b pos) (mBin opIxA fa fb) := fun hK F =>
  PE.imp (pe_ix (ix_seq.or (ix_dict (hu1 hr))) (ha hK F) (hb hK F) hs) fun σ H Q h => by
    have e : (fun x y H Q => rIx X.K x y H Q ∨ rDGetV x y H Q) = fun x y H Q => (rIxL R.K x y H Q ∨ (rIxT R.K x y H Q ∨ rIxS x y H Q)) ∨ rDGetV x y H Q := by rw [hK]; rfl
    rw [e]
    exact tBin pr_ixA σ H Q h
/-- in, not in: of a dict, else as before -/
def opInA (neg : Bool) (r1 r2 : RV) (s : MS) : Out RV := match dictOf s r2 with
  | some kvs => match r1 with
    | .v k => match keyOf k with
      | some _ => .ok (.v (.bl (neg ^^ (getK kvs k).isSome))) s
      | none => .bad
    | _ => .bad
  | none => opIn neg r1 r2 s
theorem dget_some {kvs : List (MV × MV)} {dk : List (Key × V)} {K : PySem.W.Frag} (dd : DD K G H kvs dk) (kk : Key) : (valV dk kk).isSome = (getK kvs (keyMV kk)).isSome := by
  cases q : getK kvs (keyMV kk) with
  | none => rw [(dd.get kk).1 q]; rfl
  | some x => obtain ⟨v, hv, _⟩ := (dd.get kk).2 x q; rw [hv]; rfl
theorem pr_inA : PrimR R (fun x y H Q => ((∃ (c : Nat) (z : Str), x = .str ⟨#[c]⟩ ∧ y = .str z ∧ Q (.bl (decide (c ∈ z.cps.toList))) H) ∨ rIn R.K false x y H Q) ∨ ∃ a o, y = .ref a ∧ DGet H a x o ∧ Q (.bl o.isSome) H) (opInA false) := fun {F W σ G H G2 H2 s2 r1 r2 x y Q} w h1 h2 o => by
  unfold opInA at o
  split at o
  · rename_i kvs hd
    obtain ⟨a, dk, rfl, ha, dd⟩ := dict_ok w.rel h2 hd
    split at o
    · split at o
      · rename_i kk hk
        obtain ⟨rfl, e⟩ := keyOf_V (K := R.K) (G := G2) (H := H2) h1 hk
        subst e
        exact .inr ⟨a, valV dk kk, rfl, DGet.rd ha, by rw [dget_some dd]; simpa using finB w o⟩
      · exact o.elim
    · exact o.elim
  · exact .inl (pr_in w h1 h2 o)
theorem pr_notInA : PrimR R (fun x y H Q => ((∃ (c : Nat) (z : Str), x = .str ⟨#[c]⟩ ∧ y = .str z ∧ Q (.bl (!decide (c ∈ z.cps.toList))) H) ∨ rIn R.K true x y H Q) ∨ ∃ a o, y = .ref a ∧ DGet H a x o ∧ Q (.bl (!o.isSome)) H) (opInA true) := fun {F W σ G H G2 H2 s2 r1 r2 x y Q} w h1 h2 o => by
  unfold opInA at o
  split at o
  · rename_i kvs hd
    obtain ⟨a, dk, rfl, ha, dd⟩ := dict_ok w.rel h2 hd
    split at o
    · split at o
      · rename_i kk hk
        obtain ⟨rfl, e⟩ := keyOf_V (K := R.K) (G := G2) (H := H2) h1 hk
        subst e
        exact .inr ⟨a, valV dk kk, rfl, DGet.rd ha, by rw [dget_some dd]; simpa using finB w o⟩
      · exact o.elim
    · exact o.elim
  · exact .inl (pr_notIn w h1 h2 o)
variable {a b : Expr} {fa fb : ME}
theorem je_inA (hr : Room k X.A) (ha : JE X R W a fa) (hb : JE X R W b fb) (hm : behindInMarks .In b = false := by rfl) : JE X R W (.Compare a [.In] [b] pos) (mBin (opInA false) fa fb) := se_cmp (OpR.or (OpR.or op_in_sign op_in_seq) (op_in_dict (hu1 hr))) (fun h => h ▸ pr_inA) ha hb hm
theorem je_notInA (hr : Room k X.A) (ha : JE X R W a fa) (hb : JE X R W b fb) (hm : behindInMarks .NotIn b = false := by rfl) : JE X R W (.Compare a [.NotIn] [b] pos) (mBin (opInA true) fa fb) := se_cmp (OpR.or (OpR.or op_notIn_sign op_notIn_seq) (op_notIn_dict (hu1 hr))) (fun h => h ▸ pr_notInA) ha hb hm
theorem jt_inA (hr : Room k X.A) (ha : JE X R W a fa) (hb : JE X R W b fb) (hm : behindInMarks .In b = false := by rfl) : JT X R W (.Compare a [.In] [b] pos) (mTestB (mBin (opInA false) fa fb)) := jt_cmp (OpR.or (OpR.or op_in_sign op_in_seq) (op_in_dict (hu1 hr))) (fun h => h ▸ pr_inA) ha hb hm
theorem jt_notInA (hr : Room k X.A) (ha : JE X R W a fa) (hb : JE X R W b fb) (hm : behindInMarks .NotIn b = false := by rfl) : JT X R W (.Compare a [.NotIn] [b] pos) (mTestB (mBin (opInA true) fa fb)) := jt_cmp (OpR.or (OpR.or op_notIn_sign op_notIn_seq) (op_notIn_dict (hu1 hr))) (fun h => h ▸ pr_notInA) ha hb hm
/-- {} -/
def mDict0 : ME := fun s => .ok (.own (.dict [])) s
theorem je_dict0 : JE X R W (.Dict [] [] pos) mDict0 := fun hK F => PE.imp pe_dnewK fun σ H Q ⟨G, s, rel, o⟩ => fun p hp => by
  have g := rel.noRole hp
  exact o G _ _ (rel.alloc hp) (Evo.refl.updNew hp g) ⟨p, rfl, hp, g, _, upd_same, [], rfl, rfl, VRs.nil (K := R.K)⟩
end
end Mi
set_option Elab.async false
set_option linter.all false
set_option maxRecDepth 100000
set_option maxHeartbeats 4000000
namespace Mi
open PySem PySem.Spec PyProof.Rows L2
section
variable {X : Cx} {R : RC} {W : WX} {F : FI} {σ : L2.St} {G G1 : Gh} {H H1 : Hp} {s s1 : MS} {pos apos cpos : Pos} {k : Nat} {o e f : Expr} {fo fe ff : ME}
/-! d.get(k), d.get(k, x) -/
def mGet1 (fo fe : ME) : ME := fun s => (fo s).bind fun r s1 => match dictOf s1 r with
  | some _ => (mSh fe s1).bind fun q s2 => match dictOf s2 r with
    | some kvs => match keyOf q with
      | some _ => .ok (.v ((getK kvs q).getD .non)) s2
      | none => .bad
    | none => .bad
  | none => .bad
def mGet2 (fo fe ff : ME) : ME := fun s => (fo s).bind fun r s1 => match dictOf s1 r with
  | some _ => (mSh fe s1).bind fun q s2 => (mSh ff s2).bind fun d s3 => match dictOf s3 r with
    | some kvs => match keyOf q with
      | some _ => .ok (.v ((getK kvs q).getD d)) s3
      | none => .bad
    | none => .bad
  | none => .bad
theorem getD_ok {kvs : List (MV × MV)} {dk : List (Key × V)} {K : PySem.W.Frag} (dd : DD K G H kvs dk) (kk : Key) {d : MV} {u : V} (hd : VR K G H d u) : VR K G H ((getK kvs (keyMV kk)).getD d) ((valV dk kk).getD u) := by
  cases q : getK kvs (keyMV kk) with
  | none => rw [(dd.get kk).1 q]; exact hd
  | some x => obtain ⟨v, hv, r⟩ := (dd.get kk).2 x q; rw [hv]; exact r
theorem je_get1 (hr : Room k X.A) (ho : JE X R W o fo) (he : JE X R W e fe) (m : M1 X o "get" apos e cpos := by exact ⟨rfl, rfl, rfl, rfl⟩) : JE X R W (.Call (.Attribute o "get" apos) [e] [] cpos) (mGet1 fo fe) := fun hK F =>
  PE.imp (pe_dget1 (hu1 hr) (ho hK F) (jv_of he hK F) m) fun σ H Q h => by
    refine (first (M := rlE) h).mono fun x H1 ⟨G, r, s1, G1, w, rr, o⟩ => ?_
    have rr : RR R σ H G1 H1 r x := rr
    split at o
    · rename_i kvs hd
      obtain ⟨a, dk, rfl, ha, _⟩ := dict_ok w.rel rr hd
      refine ⟨a, rfl, .inl ⟨dk, ha⟩, ?_⟩
      refine (next (M := rlV) w o).mono fun y H2 ⟨q, s2, G2, w2, e12, rq, o2⟩ => ?_
      have rq : VR R.K G2 H2 q y := rq
      split at o2
      · rename_i kvs2 hd2
        obtain ⟨a2, dk2, ea, ha2, dd⟩ := dict_ok w2.rel (rr.mono e12) hd2
        cases ea
        split at o2
        · rename_i kk hk
          obtain ⟨rfl, e⟩ := keyOf_V rq hk
          subst e
          exact ⟨_, DGet.rd ha2, finV w2 o2 (getD_ok dd kk (VR.mkNon (K := R.K) (G := G2) (H := H2)))⟩
        · exact o2.elim
      · exact o2.elim
    · exact o.elim
theorem je_get2 (hr : Room k X.A) (ho : JE X R W o fo) (he : JE X R W e fe) (hf : JE X R W f ff) (m : M2 X o "get" apos e f cpos := by exact ⟨rfl, rfl, rfl, rfl⟩) : JE X R W (.Call (.Attribute o "get" apos) [e, f] [] cpos) (mGet2 fo fe ff) := fun hK F =>
  PE.imp (pe_dget2 (hu1 hr) (ho hK F) (jv_of he hK F) (jv_of hf hK F) m) fun σ H Q h => by
    refine (first (M := rlE) h).mono fun x H1 ⟨G, r, s1, G1, w, rr, o⟩ => ?_
    have rr : RR R σ H G1 H1 r x := rr
    split at o
    · rename_i kvs hd
      obtain ⟨a, dk, rfl, ha, _⟩ := dict_ok w.rel rr hd
      refine ⟨a, rfl, .inl ⟨dk, ha⟩, ?_⟩
      refine (next (M := rlV) w o).mono fun y H2 ⟨q, s2, G2, w2, e12, rq, o2⟩ => ?_
      refine (next (M := rlV) w2 o2).mono fun z H3 ⟨d, s3, G3, w3, e23, rd, o3⟩ => ?_
      have rq : VR R.K G3 H3 q y := VR.mono e23.mo _ _ (show VR R.K G2 H2 q y from rq)
      have rd : VR R.K G3 H3 d z := rd
      split at o3
      · rename_i kvs2 hd2
        obtain ⟨a2, dk2, ea, ha2, dd⟩ := dict_ok w3.rel ((rr.mono e12).mono e23) hd2
        cases ea
        split at o3
        · rename_i kk hk
          obtain ⟨rfl, e⟩ := keyOf_V rq hk
          subst e
          exact ⟨_, DGet.rd ha2, finV w3 o3 (getD_ok dd kk rd)⟩
        · exact o3.elim
      · exact o3.elim
    · exact o.elim
/-- a dict at a place written anew -/
theorem put_dct {r : RV} {v : V} {kvs : List (MV × MV)} (w : Way R F σ G H G1 H1 s1) (rr : RR R σ H G1 H1 r v) (e : place s1 r = some (.dict kvs)) :
    ∃ a dk, v = .ref a ∧ H1 a = some (.dK dk) ∧ DD R.K G1 H1 kvs dk ∧ (∃ q, G1 a = some q ∧ q ≠ .frz) ∧ ∀ kvs' dk', DD R.K G1 H1 kvs' dk' → Rel R F G1 (putC s1 r (.dict kvs')) σ (upd H1 a (.dK dk')) := by
  obtain ⟨a, rfl, ⟨ho, ha, dk, rfl, h1, h2⟩, g, _⟩ := put_ok (c' := .dict []) w.rel rr e
  refine ⟨a, dk, rfl, ha, ⟨h1, h2⟩, g, fun kvs' dk' dd => ?_⟩
  obtain ⟨a', ea, _, _, put⟩ := put_ok (c' := .dict kvs') w.rel rr e
  cases ea
  obtain ⟨q, gq, nf⟩ := g
  have mu : Mo G1 H1 G1 (upd H1 a (.dK dk')) := Mo.upd fun z => nf (by rw [z] at gq; exact (Option.some.inj gq).symm)
  exact put _ ⟨_, upd_same, dk', rfl, dd.1, VRs.mono mu _ _ dd.2⟩
/-! o[i] = x -/
def setIxA (r : RV) (i : RV) (x : MV) (s : MS) : Out Fl := match place s r with
  | some (.dict kvs) => match i with
    | .v q => match keyOf q with
      | some _ => if kvs.length < sizeLine then .ok .next (putC s r (.dict (setK kvs q x))) else .bad
      | none => .bad
    | _ => .bad
  | some (.lst xs) => match i with
    | .v (.int q) => match ixN xs.length q with
      | some j => .ok .next (putC s r (.lst (xs.set j x)))
      | none => .bad
    | _ => .bad
  | _ => .bad
def mSetIxA (fe fo fi : ME) : MSt := fun s => (mSh fe s).bind fun x s1 => (fo s1).bind fun r s2 => (fi s2).bind fun i s3 => setIxA r i x s3
theorem js_setixA {i : Expr} {fi : ME} {tpos : Pos} (hr : Room k X.A) (he : JE X R W e fe) (ho : JE X R W o fo) (hi : JE X R W i fi) (hs : swapsWithSole [.Subscript o i tpos] e pos.line X.env = pure false := by rfl) (hw : swappedStores [.Subscript o i tpos] e X.env = pure none := by rfl)
    (h1 : (assignEach [.Subscript o i tpos] X.env).map (·.2) = [assign (.Subscript o i tpos) X.env] := by rfl)
    (ha : ∀ v, assign (.Subscript o i tpos) X.env v = (do
      let ov ← holding [v] (eval o X.env)
      let iv ← holding [v, ov] (eval i X.env)
      standAt tpos
      holding [v, ov, iv] (setItem ov iv v)
      release [v, ov, iv] []) := by intro _; rfl) : JS X R W (.Assign [.Subscript o i tpos] e pos) (mSetIxA fe fo fi) := fun hK F =>
  PS.imp (ps_asg (jv_of he hK F) (pg_sub (ho hK F) (hi hK F) (set_any (hu1 hr)) ha) hs hw h1) fun D σ H h => by
    refine (firstS (M := rlV) h).mono fun v H1 ⟨G, x, s1, G1, w, vx, o⟩ => ?_
    refine (nextS (M := rlE) w o).mono fun ov H2 ⟨r, s2, G2, w2, e12, rr, o2⟩ => ?_
    refine (nextS (M := rlE) w2 o2).mono fun iv H3 ⟨ir, s3, G3, w3, e23, ri, o3⟩ => ?_
    have rr : RR R σ H G2 H2 r ov := rr
    have ri : RR R σ H G3 H3 ir iv := ri
    have rr3 := rr.mono e23
    have vx3 : VR R.K G3 H3 x v := VR.mono (e12.trans e23).mo _ _ (show VR R.K G1 H1 x v from vx)
    unfold setIxA at o3
    split at o3
    · rename_i kvs hp
      obtain ⟨a, dk, rfl, ha, dd, ⟨q, gq, nf⟩, put⟩ := put_dct w3 rr3 hp
      have gn : G3 a ≠ some .frz := fun z => nf (by rw [z] at gq; exact (Option.some.inj gq).symm)
      split at o3
      · split at o3
        · rename_i kk hk
          obtain ⟨rfl, e⟩ := keyOf_V (K := R.K) (G := G3) (H := H3) ri hk
          subst e
          split at o3
          · rename_i hz
            exact .inr ⟨a, _, rfl, DPut.k ha (by rw [← dd.length]; exact hz), o3 _ _ _ (put _ _ (dd.put kk vx3)) (w3.evS.trans (Evo.updRole gn (by rw [gq]; simp) (fun x u z => by rw [ha] at z; cases z)))⟩
          · exact o3.elim
        · exact o3.elim
      · exact o3.elim
    · rename_i xs hp
      split at o3
      · cases RR.int ri
        split at o3
        · rename_i j hj
          obtain ⟨a, rfl, ⟨vs, ha, hvs⟩, ⟨q, gq, nf⟩, put⟩ := put_ok w3.rel rr3 hp
          have gn : G3 a ≠ some .frz := fun z => nf (by rw [z] at gq; exact (Option.some.inj gq).symm)
          have mu : Mo G3 H3 G3 (upd H3 a (.lst (vs.set j v))) := Mo.upd gn
          exact .inl ⟨a, vs, _, j, rfl, rfl, ha, by rw [← hvs.length]; exact hj, o3 _ _ _ (put _ ⟨_, upd_same, VRs.set (VR.mono mu _ _ vx3) j (VRs.mono mu _ _ hvs)⟩) (w3.evS.trans (Evo.updRole gn (by rw [gq]; simp) (fun x u z => by rw [ha] at z; cases z)))⟩
        · exact o3.elim
      · exact o3.elim
    · exact o3.elim
/-! d.setdefault(k, x) -/
def mSetd (fo fe ff : ME) : ME := fun s => (fo s).bind fun r s1 => match dictOf s1 r with
  | some _ => (mSh fe s1).bind fun q s2 => (mSh ff s2).bind fun d s3 => match place s3 r with
    | some (.dict kvs) => match keyOf q with
      | some _ => if kvs.length < sizeLine then (match getK kvs q with
        | some x => .ok (.v x) s3
        | none => .ok (.v d) (putC s3 r (.dict (setK kvs q d)))) else .bad
      | none => .bad
    | _ => .bad
  | none => .bad
theorem je_setd (ho : JE X R W o fo) (he : JE X R W e fe) (hf : JE X R W f ff) (m : M2 X o "setdefault" apos e f cpos := by exact ⟨rfl, rfl, rfl, rfl⟩) : JE X R W (.Call (.Attribute o "setdefault" apos) [e, f] [] cpos) (mSetd fo fe ff) := fun hK F =>
  PE.imp (pe_dsetd (ho hK F) (jv_of he hK F) (jv_of hf hK F) m) fun σ H Q h => by
    refine (first (M := rlE) h).mono fun x H1 ⟨G, r, s1, G1, w, rr, o⟩ => ?_
    have rr : RR R σ H G1 H1 r x := rr
    split at o
    · rename_i kvs hd
      obtain ⟨a, dk, rfl, ha, _⟩ := dict_ok w.rel rr hd
      refine ⟨a, rfl, .inl ⟨dk, ha⟩, ?_⟩
      refine (next (M := rlV) w o).mono fun y H2 ⟨q, s2, G2, w2, e12, rq, o2⟩ => ?_
      refine (next (M := rlV) w2 o2).mono fun z H3 ⟨d, s3, G3, w3, e23, rd, o3⟩ => ?_
      have rq : VR R.K G3 H3 q y := VR.mono e23.mo _ _ (show VR R.K G2 H2 q y from rq)
      have rd : VR R.K G3 H3 d z := rd
      split at o3
      · rename_i kvs2 hp
        obtain ⟨a2, dk2, ea, ha2, dd, ⟨g0, gq, nf⟩, put⟩ := put_dct w3 ((rr.mono e12).mono e23) hp
        cases ea
        have gn : G3 a ≠ some .frz := fun z => nf (by rw [z] at gq; exact (Option.some.inj gq).symm)
        split at o3
        · rename_i kk hk
          obtain ⟨rfl, e⟩ := keyOf_V rq hk
          subst e
          split at o3
          · rename_i hz
            refine ⟨dk2, kk, ha2, rfl, by rw [← dd.length]; exact hz, fun v hv => ?_, fun hv => ?_⟩
            · split at o3
              · rename_i x0 hx
                obtain ⟨v', hv', vr⟩ := (dd.get kk).2 x0 hx
                rw [hv] at hv'; cases hv'
                exact finV w3 o3 vr
              · rename_i hx
                rw [(dd.get kk).1 hx] at hv; cases hv
            · split at o3
              · rename_i x0 hx
                obtain ⟨v', hv', vr⟩ := (dd.get kk).2 x0 hx
                rw [hv] at hv'; cases hv'
              · rename_i hx
                have mu : Mo G3 H3 G3 (upd H3 a (.dK (putK dk2 kk z))) := Mo.upd gn
                exact o3 _ _ _ (put _ _ (dd.put kk rd)) (w3.evo.trans (Evo.updRole gn (by rw [gq]; simp) (fun x u z => by rw [ha2] at z; cases z))) (VR.mono mu _ _ rd)
          · exact o3.elim
        · exact o3.elim
      · exact o3.elim
    · exact o.elim
/-! d of a dict display with text keys is left to pe_disp; an own text as a class constant, too -/
end
end Mi
set_option Elab.async false
set_option linter.all false
set_option maxRecDepth 100000
set_option maxHeartbeats 4000000
namespace Mi
open PySem PySem.Spec PyProof.Rows L2
section
variable {X : Cx} {R : RC} {W : WX} {pos p tpos : Pos} {e e2 : Expr} {elts : List Expr} {kk : Nat}
/-- enumerate(x, start) -/
theorem pi_enP {t : TA} (hg : Gl X "enumerate") (hm : X.mg "enumerate" = none) (ha : PA X [e, e2] t) (hs : starEach [e, e2] X.env = (false, eval e X.env) :: starEach [e2] X.env := by rfl) (hpl : (backTo pos (starEach [e2] X.env)).any (·.1) = false := by rfl) :
    PI X (.Tuple elts kk tpos) (.Call (.Name "enumerate" p) [e, e2] [] pos) (fun σ H Rr => t σ H fun xs H1 => ∃ v k0, xs = [v, .int k0] ∧ (-(2 ^ 63) ≤ k0 ∧ k0 < 2 ^ 63) ∧ iEn X.K k0 v H1 Rr) := by
  refine ⟨fun pins s σ H Rr I h => ?_⟩
  refine Call_ (ld_blt I hg hm boot_enumerate (PyProof.Rows.callWith_type1 (thn (ha.run pos pins s σ H _ I h) fun us s1 ⟨vs, H1, I1, r1, v, k0, ev, ⟨h0, h1⟩, q1⟩ => ?_) hs hpl))
  subst ev
  cases r1 with
  | cons r rr =>
    cases rr with
    | cons r2 rr =>
      cases rr
      obtain ⟨t, rfl⟩ := r2
      exact en_go I1 r q1 fun o Hb Q B hb k => enum_begins B hb h0 h1 k
def mEnumP (fs : MS → Out (List RV)) : MS → Out MI := fun s => (fs s).bind fun rs s1 => match rs with
  | [r, .v (.int k)] => if -(2 ^ 63) ≤ k ∧ k < 2 ^ 63 then (itOf r s1).bind fun I s2 => .ok ⟨enumItems k I.items, I.chk⟩ s2 else .bad
  | _ => .bad
theorem ji_enumP {fs : MS → Out (List RV)} (hm : X.mg "enumerate" = none) (ha : JA X R W [e, e2] fs) (hg : Gl X "enumerate" := by rfl) (hs : starEach [e, e2] X.env = (false, eval e X.env) :: starEach [e2] X.env := by rfl) (hpl : (backTo pos (starEach [e2] X.env)).any (·.1) = false := by rfl) :
    JI X R W (.Tuple elts kk tpos) (.Call (.Name "enumerate" p) [e, e2] [] pos) (mEnumP fs) := fun hK F => PI.imp (pi_enP hg hm (ha hK F) hs hpl) fun σ H Rr h =>
  (first (M := rlR) h).mono fun vs H1 ⟨G, rs, s1, G1, w, rr, o⟩ => by
    have rr : RRs R σ H G1 H1 rs vs := rr
    split at o
    · obtain ⟨v, t, rfl, r1, v2, t2, rfl, r2, e⟩ := rr
      have e : t2 = [] := e
      subst e
      cases RR.int r2
      split at o
      · rename_i hk
        exact ⟨v, _, rfl, hk, en_src hK w r1 o⟩
      · exact o.elim
    · exact o.elim
end
end Mi
set_option Elab.async false
set_option linter.all false
set_option maxRecDepth 100000
set_option maxHeartbeats 4000000
namespace Mi
open PySem PySem.Spec PyProof.Rows L2
/-! dict displays -/
def PRs (K : PySem.W.Frag) (G : Gh) (H : Hp) (r : List (MV × MV)) (v : List (V × V)) : Prop := VRs K G H (r.map (·.1)) (v.map (·.1)) ∧ VRs K G H (r.map (·.2)) (v.map (·.2))
def rlP : RL (List (MV × MV)) (List (V × V)) := ⟨fun R _ _ G H r v => PRs R.K G H r v, fun e h => ⟨VRs.mono e.mo _ _ h.1, VRs.mono e.mo _ _ h.2⟩, fun _ h => h⟩
def JP (X : Cx) (R : RC) (W : WX) (pos : Pos) (ks : List (Option Expr)) (vs : List Expr) (fp : MS → Out (List (MV × MV))) : Prop := R.K = X.K → ∀ F, ∃ trs, PPs X pos ks vs trs ∧ ∀ σ H Q, tX rlP R F W fp σ H Q → tPairs trs σ H Q
section
variable {X : Cx} {R : RC} {W : WX} {pos : Pos} {k v : Expr} {ks : List (Option Expr)} {vs : List Expr} {fk fv : ME} {fp : MS → Out (List (MV × MV))}
theorem jp_nil : JP X R W pos [] [] (fun s => .ok [] s) := fun _ F => ⟨[], pps_nil, fun σ H Q ⟨G, s, rel, o⟩ => o G H _ rel .refl ⟨VRs.nil (K := R.K) (G := G) (H := H), VRs.nil (K := R.K) (G := G) (H := H)⟩⟩
def mPairs (fk fv : ME) (fp : MS → Out (List (MV × MV))) : MS → Out (List (MV × MV)) := fun s => (mSh fk s).bind fun x s1 => (mSh fv s1).bind fun y s2 => (fp s2).bind fun ps s3 => .ok ((x, y) :: ps) s3
theorem jp_cons (hk : JE X R W k fk) (hv : JE X R W v fv) (hr : JP X R W pos ks vs fp) : JP X R W pos (some k :: ks) (v :: vs) (mPairs fk fv fp) := fun hK F => by
  obtain ⟨trs, hp, hq⟩ := hr hK F
  refine ⟨_, pps_cons (jv_of hk hK F) (jv_of hv hK F) hp, fun σ H Q h => ?_⟩
  refine (first (M := rlV) h).mono fun x H1 ⟨G, r, s1, G1, w, rx, o⟩ => ?_
  refine (next (M := rlV) w o).mono fun y H2 ⟨r2, s2, G2, w2, e12, ry, o2⟩ => ?_
  have rx : VR R.K G2 H2 r x := VR.mono e12.mo _ _ (show VR R.K G1 H1 r x from rx)
  have ry : VR R.K G2 H2 r2 y := ry
  refine hq _ _ _ ((next (M := rlP) w2 o2).mono fun ps H3 ⟨r3, s3, G3, w3, e23, rp, o3⟩ => ?_)
  have rp : VRs R.K G3 H3 (r3.map (·.1)) (ps.map (·.1)) ∧ VRs R.K G3 H3 (r3.map (·.2)) (ps.map (·.2)) := rp
  exact o3 _ _ _ w3.rel w3.evo ⟨VRs.cons (VR.mono e23.mo _ _ rx) rp.1, VRs.cons (VR.mono e23.mo _ _ ry) rp.2⟩
def keysOk (ps : List (MV × MV)) : Bool := ps.all fun p => (keyOf p.1).isSome
theorem DD.of {K : PySem.W.Frag} {G : Gh} {H : Hp} : ∀ {ps : List (MV × MV)} {qs : List (V × V)}, VRs K G H (ps.map (·.1)) (qs.map (·.1)) → VRs K G H (ps.map (·.2)) (qs.map (·.2)) → keysOk ps = true → ∃ kvs : List (Key × V), qs = kvs.map (fun kv => (kV kv.1, kv.2)) ∧ DD K G H ps kvs
  | [], qs, h1, h2, _ => by
    cases qs with
    | nil => exact ⟨[], rfl, rfl, VRs.nil (K := K) (G := G) (H := H)⟩
    | cons q r => unfold VRs at h1; simp at h1
  | p :: ps, qs, h1, h2, hk => by
    cases qs with
    | nil =>
      obtain ⟨v, r, e, _⟩ := VRs.inv (K := K) (G := G) (H := H) (by simpa using h1)
      simp at e
    | cons q r =>
      obtain ⟨v, t, e, p1, p2⟩ := VRs.inv (K := K) (G := G) (H := H) (by simpa using h1)
      obtain ⟨v', t', e', p1', p2'⟩ := VRs.inv (K := K) (G := G) (H := H) (by simpa using h2)
      simp only [List.map_cons, List.cons.injEq] at e e'
      obtain ⟨rfl, rfl⟩ := e
      obtain ⟨rfl, rfl⟩ := e'
      simp only [keysOk, List.all_cons, Bool.and_eq_true] at hk
      obtain ⟨kk, hkk⟩ := Option.isSome_iff_exists.mp hk.1
      obtain ⟨ek, em⟩ := keyOf_V p1 hkk
      obtain ⟨kvs, er, dd⟩ := DD.of p2 p2' hk.2
      exact ⟨(kk, q.2) :: kvs, by rw [List.map_cons, ← er, ← ek], DD.cons em.symm p1' dd⟩
def mergeM (acc ps : List (MV × MV)) : List (MV × MV) := ps.foldl (fun acc p => setK acc p.1 p.2) acc
theorem DD.merge {K : PySem.W.Frag} {G : Gh} {H : Hp} : ∀ {ps acc : List (MV × MV)} {kvs dk : List (Key × V)}, DD K G H ps kvs → DD K G H acc dk → DD K G H (mergeM acc ps) (mergeK dk kvs)
  | [], acc, kvs, dk, h, ha => by rw [h.nil]; exact ha
  | p :: ps, acc, kvs, dk, h, ha => by
    obtain ⟨j, v, r, rfl, e, hv, hr⟩ := h.inv
    show DD K G H (mergeM (setK acc p.1 p.2) ps) (mergeK (putK dk j v) r)
    rw [e]
    exact DD.merge hr (ha.put j hv)
def mDisp (fp : MS → Out (List (MV × MV))) : ME := fun s => (fp s).bind fun ps s1 => if keysOk ps = true ∧ ps.length ≤ 15 then .ok (.own (.dict (mergeM [] ps))) s1 else .bad
theorem je_disp (h : JP X R W pos ks vs fp) (hall : ks.all (·.isSome) = true := by rfl) (hl : ks.length = vs.length := by rfl) (h0 : ks ≠ [] := by simp) (h15 : ks.length ≤ 15 := by decide) : JE X R W (.Dict ks vs pos) (mDisp fp) := fun hK F => by
  obtain ⟨trs, hp, hq⟩ := h hK F
  refine PE.imp (pe_disp hp hall hl h0 h15) fun σ H Q ⟨G, s, rel, o⟩ => fun p hpn => ?_
  have g := rel.noRole hpn
  have h00 := fresh_back rel.since hpn
  have rel1 := rel.alloc (o := .dK []) hpn
  refine hq _ _ _ ⟨G, s, rel1, ?_⟩
  have o : OutX rlE R F W σ G H ((fp s).bind fun ps s1 => if keysOk ps = true ∧ ps.length ≤ 15 then .ok (.own (.dict (mergeM [] ps))) s1 else .bad) Q := o
  cases q : fp s with
  | exc c xs s2 => rw [q] at o; exact fun G' H' cls d rel' ev x => o G' H' cls d rel' ((Evo.refl.updNew hpn g).trans ev) x
  | bad => rw [q] at o; exact o.elim
  | ok ps s2 =>
    rw [q] at o
    intro G2 H2 qs rel2 ev2 rp
    have rp : VRs R.K G2 H2 (ps.map (·.1)) (qs.map (·.1)) ∧ VRs R.K G2 H2 (ps.map (·.2)) (qs.map (·.2)) := rp
    simp only [Out.bind_ok] at o
    split at o
    · rename_i hk
      obtain ⟨hp2, gp2⟩ := ev2.un p _ upd_same g
      obtain ⟨kvs, eq, dd⟩ := DD.of rp.1 rp.2 hk.1
      refine ⟨hp2, kvs, eq, by rw [← dd.length]; exact hk.2, ?_⟩
      have evH : Evo EvT G H G2 H2 := (Evo.refl.updNew hpn g).trans ev2
      have mu : Mo G2 H2 G2 (upd H2 p (.dK (mergeK [] kvs))) := Mo.upd (by rw [gp2]; simp)
      have dm := dd.merge (acc := []) (dk := []) ⟨rfl, VRs.nil (K := R.K) (G := G2) (H := H2)⟩
      exact o G2 _ _ (rel2.updNone gp2 h00) (evH.updNew hpn gp2) ⟨p, rfl, hpn, gp2, _, upd_same, _, rfl, dm.1, VRs.mono mu _ _ dm.2⟩
    · exact o.elim
end
end Mi
set_option Elab.async false
set_option linter.all false
set_option maxRecDepth 100000
set_option maxHeartbeats 4000000
namespace Mi
open PySem PySem.Spec PyProof.Rows L2
/-! repr of lists and tuples -/
/-- the data whose text is told -/
def shOk (d : PyData) : Prop := d.showable = true ∧ d.hasDict = false ∧ d.depth ≤ 64 ∧ d.shown.length ≤ sizeLine
def rReprD (K : PySem.W.Frag) : List V → Hp → VK → Prop := fun xs H Q => (∃ b, xs = [.bl b] ∧ Q (.str (if b then "True" else "False")) H) ∨ ∃ a d, xs = [.ref a] ∧ Dp K H (.ref a) d ∧ shOk d ∧ Q (.str d.shown) H
section
variable {X : Cx} {R : RC} {W : WX} {pos pp : Pos} {k : Nat} {e : Expr} {es : List Expr} {fs : MS → Out (List RV)}
theorem call_repr_d (hr : Room k X.A) : CallR X (.builtin "repr") (rReprD X.K) := by
  intro pins s σ H xs us Q I r h
  rcases h with h | ⟨a, d, rfl, hd, ⟨h1, h2, h3, h4⟩, q⟩
  · exact call_repr_bl pins s σ H xs us Q I r h
  · cases r with
    | cons r1 r2 =>
      cases r2
      rename_i u
      obtain rfl : u = Value.ref a := r1
      obtain ⟨as, rd⟩ := Dp.reads I d _ _ hd rfl
      refine repr_of_reads' rd h1 (noDict_of h2) hr.gd (by have := hr.un; omega) (fun b o z => z) (fun h' u tk kp => ⟨.str d.shown, H, I.kept (h' := h') (t' := tk) fun b o z => kp b o z, ⟨u, rfl⟩, q⟩) h4
where noDict_of {d : PyData} {as : List Addr} (h : d.hasDict = false) : d.hasDict = true → sysModules ∉ as := fun z => by rw [h] at z; cases z
open Classical in
noncomputable def pReprD (rs : List RV) (s : MS) : Out RV := match rs with
  | [.v (.bl b)] => .ok (.v (.str (if b then [84, 114, 117, 101] else [70, 97, 108, 115, 101]))) s
  | [r] => match rpd s r with
    | some (.list ds) => if shOk (.list ds) then .ok (.v (.str (PyData.list ds).shown.cps.toList)) s else .bad
    | some (.tuple ds) => if shOk (.tuple ds) then .ok (.v (.str (PyData.tuple ds).shown.cps.toList)) s else .bad
    | _ => .bad
  | _ => .bad
theorem Dp.ref_of {K : PySem.W.Frag} {H : Hp} {v : V} {d : PyData} (h : Dp K H v d) (hd : (∃ ds, d = .list ds) ∨ ∃ ds, d = .tuple ds) : ∃ a, v = .ref a := by
  rcases hd with ⟨ds, rfl⟩ | ⟨ds, rfl⟩ <;> cases h <;> exact ⟨_, rfl⟩
theorem pr_reprD : PrimC R (rReprD R.K) pReprD := fun {F W σ G H G2 H2 s2 rs vs Q} w rr o => by
  unfold pReprD at o
  split at o
  · exact .inl (pr_reprB w rr (by unfold pReprB; exact o))
  · rename_i r _
    obtain ⟨v, t, rfl, r1, rfl⟩ := rr
    have key : ∀ d, rpd s2 r = some d → ((∃ ds, d = .list ds) ∨ ∃ ds, d = .tuple ds) → shOk d → OutX rlE R F W σ G H (.ok (.v (.str d.shown.cps.toList)) s2) Q → rReprD R.K [v] H2 Q := fun d e hd hs o => by
      have dp := rpd_ok w.rel r1 e
      obtain ⟨a, rfl⟩ := Dp.ref_of dp hd
      exact .inr ⟨a, d, rfl, dp, hs, finS w o (by simp)⟩
    split at o
    · rename_i ds e
      split at o
      · rename_i hs; exact key _ e (.inl ⟨_, rfl⟩) hs o
      · exact o.elim
    · rename_i ds e
      split at o
      · rename_i hs; exact key _ e (.inr ⟨_, rfl⟩) hs o
      · exact o.elim
    · exact o.elim
  · exact o.elim
theorem je_reprD (hr : Room k X.A) (ha : JA X R W (e :: es) fs) (he : starEach (e :: es) X.env = (false, eval e X.env) :: starEach es X.env := by rfl) (hpl : (backTo pos (starEach es X.env)).any (·.1) = false := by rfl) (hm : X.mg "repr" = none) (hg : Gl X "repr" := by rfl) :
    JE X R W (.Call (.Name "repr" pp) (e :: es) [] pos) (mCallB pReprD fs) := fun hK => by
  have := je_callB (R := R) (W := W) (call_repr_d hr) (fun hK => by rw [← hK]; exact pr_reprD) hm boot_repr ha hg (pp := pp) (he := he) (hpl := hpl)
  exact this hK
end
/-! how long the told text is -/
mutual
def shCost : PyData → Nat
  | .none => 5
  | .bool _ => 5
  | .int _ => 2000
  | .str x => 10 * x.length + 2
  | .list xs => shCostAll xs + 4
  | .tuple xs => shCostAll xs + 4
  | .dict _ => 0
def shCostAll : List PyData → Nat
  | [] => 0
  | x :: xs => shCost x + 2 + shCostAll xs
end
end Mi
set_option Elab.async false
set_option linter.all false
set_option maxRecDepth 100000
set_option maxHeartbeats 4000000
namespace Mi
open PySem PySem.Spec PyProof.Rows L2 Builtin.Str
/-! the told text: its length, its signs -/
theorem list_text_len (ts : List Str) : (listText ts).length ≤ piled ts + 2 := by
  unfold listText
  rw [strLen_append]
  have e : ("]" : Str).length = 1 := by decide +kernel
  have e0 : ("[" : Str).length = 1 := by decide +kernel
  rw [show (("]" : String) : Str).length = 1 from e]
  cases ts with
  | nil => show (textFrom 0 "[" []).length + 1 ≤ _; unfold textFrom; rw [show (("[" : String) : Str).length = 1 from e0]; omega
  | cons t r =>
    show (textFrom 1 ("[" ++ (if 0 > 0 then ", " else "" : String) ++ t) r).length + 1 ≤ _
    rw [textFrom_length_pos _ _ _ Nat.one_pos, strLen_append, strLen_append, piled_cons, show (("[" : String) : Str).length = 1 from e0]
    have : (((if 0 > 0 then ", " else "" : String)) : Str).length = 0 := by decide +kernel
    omega
mutual
theorem shown_len : ∀ d : PyData, d.canLay0 = true → d.showable = true → d.shown.length ≤ shCost d
  | .none, _, _ => by unfold PyData.shown shCost; decide +kernel
  | .bool b, _, _ => by unfold PyData.shown shCost; cases b <;> decide +kernel
  | .int i, _, h => by
    unfold PyData.shown shCost
    have h : i.natAbs.log2 < 1920 := by simpa [PyData.showable] using h
    have := int_text_len_1921 h
    exact Nat.le_trans this (by decide)
  | .str x, h, _ => by
    unfold PyData.shown shCost
    refine StrLaws.reprText_len x fun c hc => ?_
    have h : x.cps.all (· < 0x110000) = true := by simpa [PyData.canLay0, PyData.strOk] using h
    rw [Array.all_eq_true'] at h
    have := h c (by simpa using hc)
    simp at this
    omega
  | .list xs, h, h2 => by
    unfold PyData.shown shCost
    have := shownAll_len xs (by simpa [PyData.canLay0] using h) (by simpa [PyData.showable] using h2)
    have := list_text_len (PyData.shownAll xs)
    omega
  | .tuple xs, h, h2 => by
    unfold PyData.shown shCost
    have := shownAll_len xs (by simpa [PyData.canLay0] using h) (by simpa [PyData.showable] using h2)
    have := fmt_text (PyData.shownAll xs)
    omega
  | .dict _, h, _ => by simp [PyData.canLay0] at h
theorem shownAll_len : ∀ ds : List PyData, PyData.canLayAll0 ds = true → PyData.showableAll ds = true → piled (PyData.shownAll ds) ≤ shCostAll ds
  | [], _, _ => Nat.le_refl _
  | d :: ds, h, h2 => by
    simp only [PyData.canLayAll0, Bool.and_eq_true] at h
    simp only [PyData.showableAll, Bool.and_eq_true] at h2
    have h1 := shown_len d h.1 h2.1
    have h3 := shownAll_len ds h.2 h2.2
    unfold PyData.shownAll shCostAll
    rw [piled_cons]
    omega
end
def SOk (x : Str) : Prop := ∀ c ∈ x.cps.toList, c < 0x110000
theorem SOk.app {a b : Str} (h : SOk a) (k : SOk b) : SOk (a ++ b) := fun c hc => by
  have hc : c ∈ (a ++ b).cps.toList := hc
  rw [show (a ++ b).cps = a.cps ++ b.cps from rfl, Array.toList_append, List.mem_append] at hc
  exact hc.elim (h c) (k c)
theorem char_lt (c : Char) : c.toNat < 0x110000 := by
  have := c.valid
  have e : c.toNat = c.val.toNat := rfl
  rw [e]
  rcases this with h | ⟨_, h⟩
  · exact Nat.lt_of_lt_of_le h (by decide)
  · exact h
theorem SOk.ofString (s : String) : SOk (Str.ofString s) := fun c hc => by
  rw [Str.ofString_eq_toList] at hc
  simp only [List.mem_map] at hc
  obtain ⟨d, _, rfl⟩ := hc
  exact char_lt d
theorem reprChar_lt {q c : Nat} (hq : q < 0x110000) (hc : c < 0x110000) : ∀ d ∈ reprChar q c, d < 0x110000 := by
  have hx : ∀ w, ∀ d ∈ List.replicate (w - ((Nat.toDigits 16 c).map Char.toNat).length) 48 ++ (Nat.toDigits 16 c).map Char.toNat, d < 0x110000 := fun w d hd => by
    rcases List.mem_append.mp hd with z | z
    · rw [List.eq_of_mem_replicate z]; decide
    · obtain ⟨e, _, rfl⟩ := List.mem_map.mp z
      exact char_lt e
  intro d hd
  unfold reprChar at hd
  simp only at hd
  have two : ∀ a : Nat, a < 0x110000 → d ∈ [92, a] → d < 0x110000 := fun a ha z => by
    simp at z; omega
  have ap : ∀ (a w : Nat), a < 0x110000 → d ∈ [92, a] ++ (List.replicate (w - ((Nat.toDigits 16 c).map Char.toNat).length) 48 ++ (Nat.toDigits 16 c).map Char.toNat) → d < 0x110000 := fun a w ha z => by
    rcases List.mem_append.mp z with z | z
    · exact two a ha z
    · exact hx w d z
  split at hd
  · exact two _ hc hd
  · split at hd
    · exact two _ (by decide) hd
    · split at hd
      · exact two _ (by decide) hd
      · split at hd
        · exact two _ (by decide) hd
        · split at hd
          · simp at hd; omega
          · split at hd
            · exact ap _ _ (by decide) hd
            · split at hd
              · exact ap _ _ (by decide) hd
              · exact ap _ _ (by decide) hd
theorem reprFold_lt {q : Nat} (hq : q < 0x110000) : ∀ (l : List Nat) (acc : Array Nat), (∀ c ∈ l, c < 0x110000) → (∀ c ∈ acc.toList, c < 0x110000) → ∀ c ∈ (l.foldl (fun out c => out ++ (reprChar q c).toArray) acc).toList, c < 0x110000
  | [], acc, _, h => h
  | x :: l, acc, h1, h2 => by
    refine reprFold_lt hq l _ (fun c hc => h1 c (List.mem_cons_of_mem _ hc)) fun c hc => ?_
    rw [Array.toList_append, List.mem_append] at hc
    rcases hc with z | z
    · exact h2 c z
    · exact reprChar_lt hq (h1 x (List.mem_cons_self ..)) c (by simpa using z)
theorem SOk.repr {x : Str} (h : SOk x) : SOk (reprText x) := fun c hc => by
  unfold reprText at hc
  have hq : reprQuote x < 0x110000 := by unfold reprQuote; split <;> decide
  simp only [Array.toList_push, List.mem_append, List.mem_singleton] at hc
  rcases hc with z | z
  · rw [← Array.foldl_toList] at z
    exact reprFold_lt hq _ _ h (fun c hc => by simp at hc; rw [hc]; exact hq) c z
  · rw [z]; exact hq
theorem SOk.textFrom : ∀ (ts : List Str) (k : Nat) (acc : Str), SOk acc → (∀ t ∈ ts, SOk t) → SOk (textFrom k acc ts)
  | [], _, _, h, _ => h
  | t :: r, k, acc, h, ht => SOk.textFrom r (k + 1) _ ((h.app (.ofString _)).app (ht t (List.mem_cons_self ..))) fun u hu => ht u (List.mem_cons_of_mem _ hu)
theorem SOk.join {sep : Str} (hs : SOk sep) : ∀ (ts : List Str), (∀ t ∈ ts, SOk t) → SOk (Str.join sep ts)
  | [], _ => fun c hc => by simp [Str.join, Str.empty] at hc
  | [x], h => h x (List.mem_cons_self ..)
  | x :: y :: r, h => ((h x (List.mem_cons_self ..)).app hs).app (SOk.join hs (y :: r) fun t ht => h t (List.mem_cons_of_mem _ ht))
mutual
theorem shown_ok : ∀ d : PyData, d.canLay0 = true → SOk d.shown
  | .none, _ => by unfold PyData.shown; exact .ofString _
  | .bool b, _ => by unfold PyData.shown; cases b <;> exact .ofString _
  | .int i, _ => by unfold PyData.shown; exact .ofString _
  | .str x, h => by
    unfold PyData.shown
    refine SOk.repr fun c hc => ?_
    have h : x.cps.all (· < 0x110000) = true := by simpa [PyData.canLay0, PyData.strOk] using h
    rw [Array.all_eq_true'] at h
    simpa using h c (by simpa using hc)
  | .list xs, h => by
    unfold PyData.shown listText
    exact SOk.app (SOk.textFrom _ _ _ (.ofString _) (shownAll_ok xs (by simpa [PyData.canLay0] using h))) (.ofString _)
  | .tuple xs, h => by
    unfold PyData.shown tupleText
    exact SOk.app (SOk.app (.ofString _) (SOk.join (.ofString _) _ (shownAll_ok xs (by simpa [PyData.canLay0] using h)))) (.ofString _)
  | .dict _, h => by simp [PyData.canLay0] at h
theorem shownAll_ok : ∀ ds : List PyData, PyData.canLayAll0 ds = true → ∀ t ∈ PyData.shownAll ds, SOk t
  | [], _ => fun t ht => by simp [PyData.shownAll] at ht
  | d :: ds, h => by
    simp only [PyData.canLayAll0, Bool.and_eq_true] at h
    intro t ht
    unfold PyData.shownAll at ht
    rcases List.mem_cons.mp ht with z | z
    · rw [z]; exact shown_ok d h.1
    · exact shownAll_ok ds h.2 t z
end
/-- repr of one and the same tells the same text -/
theorem e_reprL {s : MS} {r : RV} {ds : List PyData} (hr : rpd s r = some (.list ds)) (h0 : (PyData.list ds).canLay0 = true) (h1 : (PyData.list ds).showable = true) (h3 : (PyData.list ds).depth ≤ 64) (h4 : shCost (.list ds) ≤ sizeLine) :
    pReprD [r] s = .ok (.v (.str (PyData.list ds).shown.cps.toList)) s ∧ (PyData.list ds).shown.cps.toList.all (· < 0x110000) = true := by
  have ok : shOk (.list ds) := ⟨h1, PyData.hasDict_of_canLay _ h0, h3, Nat.le_trans (shown_len _ h0 h1) h4⟩
  refine ⟨?_, ?_⟩
  · unfold pReprD
    have nb : ∀ b, r ≠ .v (.bl b) := fun b e => by subst e; simp [rpd, pd] at hr
    split
    · rename_i b e; injection e with e; exact absurd e (nb _)
    · rename_i r' _ e
      injection e with e
      subst e
      rw [hr]
      simp only [ok, if_true]
    · rename_i e; exact absurd rfl (e r)
  · have := shown_ok _ h0
    simp only [List.all_eq_true, decide_eq_true_eq]
    exact this
end Mi
set_option Elab.async false
set_option linter.all false
set_option maxRecDepth 100000
set_option maxHeartbeats 4000000
namespace Mi
open PySem PySem.Spec PyProof.Rows L2
/-! sorted -/
def insI (a : Int) : List Int → List Int
  | [] => [a]
  | b :: r => if a ≤ b then a :: b :: r else b :: insI a r
def srtI : List Int → List Int
  | [] => []
  | a :: r => insI a (srtI r)
theorem insI_perm (a : Int) : ∀ l : List Int, (insI a l).Perm (a :: l)
  | [] => .refl _
  | b :: r => by
    unfold insI
    split
    · exact .refl _
    · exact ((insI_perm a r).cons b).trans (.swap a b r)
theorem srtI_perm : ∀ l : List Int, (srtI l).Perm l
  | [] => .refl _
  | a :: r => (insI_perm a (srtI r)).trans ((srtI_perm r).cons a)
theorem insI_sorted (a : Int) : ∀ l : List Int, l.Pairwise (· ≤ ·) → (insI a l).Pairwise (· ≤ ·)
  | [], _ => by unfold insI; simp
  | b :: r, h => by
    unfold insI
    have hb := List.pairwise_cons.mp h
    split
    · rename_i hab
      refine List.pairwise_cons.mpr ⟨fun x hx => ?_, h⟩
      rcases List.mem_cons.mp hx with e | e
      · omega
      · have := hb.1 x e; omega
    · rename_i hab
      refine List.pairwise_cons.mpr ⟨fun x hx => ?_, insI_sorted a r hb.2⟩
      rcases List.mem_cons.mp ((insI_perm a r).mem_iff.mp hx) with e | e
      · omega
      · exact hb.1 x e
theorem srtI_sorted : ∀ l : List Int, (srtI l).Pairwise (· ≤ ·)
  | [] => List.Pairwise.nil
  | a :: r => insI_sorted a _ (srtI_sorted r)
theorem sorted_unique : ∀ {l m : List Int}, l.Perm m → l.Pairwise (· ≤ ·) → m.Pairwise (· ≤ ·) → l = m
  | [], m, p, _, _ => p.nil_eq
  | a :: r, [], p, _, _ => by have := p.length_eq; simp at this
  | a :: r, b :: t, p, h1, h2 => by
    have e1 := List.pairwise_cons.mp h1
    have e2 := List.pairwise_cons.mp h2
    have ab : a = b := by
      have ha : a ∈ b :: t := p.mem_iff.mp (List.mem_cons_self ..)
      have hb : b ∈ a :: r := p.mem_iff.mpr (List.mem_cons_self ..)
      have x1 : b ≤ a := by
        rcases List.mem_cons.mp ha with z | z
        · omega
        · exact e2.1 a z
      have x2 : a ≤ b := by
        rcases List.mem_cons.mp hb with z | z
        · omega
        · exact e1.1 b z
      omega
    subst ab
    rw [sorted_unique (List.Perm.cons_inv p) e1.2 e2.2]
theorem srt_eq {l m : List Int} (p : l.Perm m) (h : l.Pairwise (· ≤ ·)) : l = srtI m := sorted_unique (p.trans (srtI_perm m).symm) h (srtI_sorted m)
/-! sorted(d), int keys, any number of them -/
theorem call_sortedDA {X : Cx} (hcalm : X.calm = true) : CallR X (.builtin "sorted") (fun xs H Q => ∃ (a : Addr) (kvs : List (Key × V)) (ks : List Int), xs = [.ref a] ∧ Rd H a (.dK kvs) ∧ kvs.map (·.1) = ks.map Sum.inl ∧
    ∀ (ys : List Int) (p : Addr), ys.Perm ks → ys.Pairwise (· ≤ ·) → H p = none → Q (.ref p) (upd H p (.lst (ys.map V.int)))) := by
  intro pins s σ H xs us Q I r q
  obtain ⟨a, kvs, ks, ex, hd, hks, q⟩ := q
  subst ex
  obtain ⟨u, eu, rx⟩ := vals1 r
  subst eu
  cases rx
  obtain ⟨z, lo, vs, rel, dd⟩ := dk_rd I.hok hd
  obtain ⟨ep, hat⟩ := dd.dictAt
  have hkeys : vs.map (·.1) = ks.map Sum.inl := rel.keys.symm.trans hks
  have hl : vs.length = ks.length := by
    have e := congrArg List.length hkeys
    rw [List.length_map, List.length_map] at e
    exact e
  have h16 : vs.length ≤ sizeLine := by rw [← rel.length]; exact z
  refine Calls.call_function_entry PyProof.Rows.kind_sorted PyProof.Rows.plain_sorted PyProof.Rows.entry_sorted (PyProof.Rows.args_sorted1 _) ?_
  unfold Builtin.«sorted»
  refine wpAny_bind (m := checkCount "sorted" 1 1 _) (wpAny_pure ?_)
  refine wpAny_bind (PySem.W.kdu_collect (A := X.A.in1) (PySem.W.kdl_dict (knd := mixKind X.prog X.w) (kvs := vs) (ep := ep) lo) (I.ok.hd hcalm) hat h16 fun h' tk acc hk hacc => ?_)
  have hal : acc.toList.length = ks.length := by rw [Array.length_toList, hacc.1, hl]
  have hS : IntsAre acc.toList ks := ints_each hal fun j v e => by
    obtain ⟨k, x, e1, e2⟩ := hacc.2 j v (by rw [← Array.getElem?_toList]; exact e)
    have e3 : (vs.map (·.1))[j]? = some k := by rw [List.getElem?_map, e1]; rfl
    rw [hkeys, List.getElem?_map] at e3
    cases e4 : ks[j]? with
    | none => rw [e4] at e3; cases e3
    | some y =>
      rw [e4] at e3
      have e5 : Sum.inl y = k := Option.some.inj e3
      subst e5
      rcases keyIs_shape (show keyIs (Sum.inl y) v = true from e2) with ⟨i, t, ek, ev⟩ | ⟨z, t, ek, ev⟩
      · cases ek
        exact ⟨y, t, rfl, ev⟩
      · cases ek
  have I1 : Inv X pins σ H { s with heap := h', toks := tk } := I.kept hk
  have hzl : acc.toList.length ≤ sizeLine := by rw [hal, ← hl]; exact h16
  refine wpAny_bind (wpAny_newList ?_ hzl)
  have hoL : (h'.push (seqObj "list" acc.toList.toArray 0)).get? h'.objs.size = some (seqObj "list" acc.toList.toArray 0) := Heap.get?_push_size _ rfl
  show wpAny _ _ _ _ _ { s with heap := h'.push (seqObj "list" acc.toList.toArray 0), toks := tk }
  refine wpAny_bind (wpAny_holding (wpAny_call_entry PyProof.Rows.slot_list_sort ⟨_, hoL, rfl⟩ PyProof.Rows.entry_list_sort
    (SrtO.list_sort_ord (s := { s with heap := h'.push (seqObj "list" acc.toList.toArray 0), toks := tk }) SrtO.swo_int hoL hzl (fun h2 => SrtO.ints_sortable hS h2) fun out g1 g2 => ⟨_, rfl, ?_⟩) (PyProof.Rows.args_list_sort _)))
  obtain ⟨k1, k2, k3⟩ := SrtO.ints_out hS g1 g2
  obtain ⟨e', he'⟩ := PyProof.Rows.sortedHeap_at (vs := acc.toList) (out := out.toArray) hoL
  have hlen : ((out.map SrtO.iv).map V.int).length ≤ sizeLine := by
    rw [List.length_map, k2.length_eq, ← hl]
    exact h16
  refine wpAny_pure ⟨_, rfl, .ref h'.objs.size, upd H h'.objs.size (.lst ((out.map SrtO.iv).map V.int)), I1.laid (t' := tk) (fun b u e => ?_) (Nat.le_refl _)
    (show ObjOk X.prog X.w _ _ _ (.lst ((out.map SrtO.iv).map V.int)) from ⟨hlen, out, e', vals_of_ints k1, he'⟩), rfl, q _ _ k2 k3 (I1.hok.fresh (Nat.le_refl _))⟩
  have hb : b < h'.objs.size := Heap.lt_size e
  rw [PyProof.Rows.sortedHeap_old (Nat.ne_of_lt hb) (by rw [size_push']; exact Nat.lt_succ_of_lt hb)]
  exact Heap.get?_push_of_some _ e
def rSortA (K : PySem.W.Frag) : List V → Hp → VK → Prop := fun xs H Q =>
  (∃ (a : Addr) (ns : List Int), xs = [.ref a] ∧ SqL K H a (ns.map V.int) ∧ ∀ p, H p = none → Q (.ref p) (upd H p (.lst ((srtI ns).map V.int)))) ∨
  ∃ (a : Addr) (kvs : List (Key × V)) (ks : List Int), xs = [.ref a] ∧ Rd H a (.dK kvs) ∧ kvs.map (·.1) = ks.map Sum.inl ∧ ∀ p, H p = none → Q (.ref p) (upd H p (.lst ((srtI ks).map V.int)))
section
variable {X : Cx} {R : RC} {W : WX} {pos pp : Pos} {k : Nat} {e : Expr} {es : List Expr} {fs : MS → Out (List RV)}
theorem call_sort_a (hc : X.calm = true) : CallR X (.builtin "sorted") (rSortA X.K) := by
  intro pins s σ H xs us Q I r h
  rcases h with ⟨a, ns, rfl, hs, q⟩ | ⟨a, kvs, ks, rfl, hd, hk, q⟩
  · exact cr_sortedI pins s σ H _ us Q I r ⟨a, ns, rfl, hs, fun ys p h1 h2 hp => by rw [srt_eq h1 h2]; exact q p hp⟩
  · exact call_sortedDA hc pins s σ H _ us Q I r ⟨a, kvs, ks, rfl, hd, hk, fun ys p h1 h2 hp => by rw [srt_eq h1 h2]; exact q p hp⟩
def pSorted (rs : List RV) (s : MS) : Out RV := match rs with
  | [r] => match dictOf s r with
    | some kvs => match intsOf (kvs.map (·.1)) with
      | some ks => .ok (.own (.lst ((srtI ks).map .int))) s
      | none => .bad
    | none => match (lstOf s r).bind intsOf with
      | some ns => .ok (.own (.lst ((srtI ns).map .int))) s
      | none => .bad
  | _ => .bad
theorem key_ints {kvs : List (MV × MV)} {dk : List (Key × V)} (h : kvs.map (·.1) = dk.map fun q => keyMV q.1) : ∀ {ks : List Int}, intsOf (kvs.map (·.1)) = some ks → dk.map (·.1) = ks.map Sum.inl := by
  rw [h]
  clear h
  induction dk with
  | nil => intro ks e; cases e; rfl
  | cons q r ih =>
    intro ks e
    obtain ⟨k, v⟩ := q
    cases k with
    | inl i =>
      simp only [List.map_cons, keyMV, intsOf, Option.map_eq_some_iff] at e
      obtain ⟨t, e1, rfl⟩ := e
      simp only [List.map_cons, ih e1]
    | inr x => simp [keyMV, intsOf] at e
theorem VRs_ints {K : PySem.W.Frag} {G : Gh} {H : Hp} : ∀ ns : List Int, VRs K G H (ns.map MV.int) (ns.map V.int)
  | [] => VRs.nil (K := K) (G := G) (H := H)
  | n :: ns => VRs.cons (VR.mkInt (K := K) (G := G) (H := H)) (VRs_ints ns)
theorem pr_sortA : PrimC R (rSortA R.K) pSorted := fun {F W σ G H G2 H2 s2 rs vs Q} w rr o => by
  unfold pSorted at o
  split at o
  · obtain ⟨v, t, rfl, r1, rfl⟩ := rr
    split at o
    · rename_i kvs hd
      obtain ⟨a, dk, rfl, ha, dd⟩ := dict_ok w.rel r1 hd
      split at o
      · rename_i ks hk
        exact .inr ⟨a, dk, ks, rfl, ha, key_ints dd.1 hk, newLst w (VRs_ints _) o⟩
      · exact o.elim
    · split at o
      · rename_i ns e
        simp only [Option.bind_eq_some_iff] at e
        obtain ⟨xs, e1, e2⟩ := e
        obtain ⟨a, ws, rfl, sq, h⟩ := lst_ok w.rel r1 e1
        have := ints_ok h e2
        subst this
        exact .inl ⟨a, ns, rfl, sq, newLst w (VRs_ints _) o⟩
      · exact o.elim
  · exact o.elim
theorem boot_sorted : bootBuiltins "sorted" = some (.builtin "sorted") := by decide +kernel
theorem je_sorted (ha : JA X R W (e :: es) fs) (he : starEach (e :: es) X.env = (false, eval e X.env) :: starEach es X.env := by rfl) (hpl : (backTo pos (starEach es X.env)).any (·.1) = false := by rfl) (hm : X.mg "sorted" = none) (hg : Gl X "sorted" := by rfl) (hc : X.calm = true := by rfl) :
    JE X R W (.Call (.Name "sorted" pp) (e :: es) [] pos) (mCallB pSorted fs) := je_callB (call_sort_a hc) (fun h => h ▸ pr_sortA) hm boot_sorted ha hg (he := he) (hpl := hpl)
/-! o.append, o.pop with what stands there now -/
end
end Mi
set_option Elab.async false
set_option linter.all false
set_option maxRecDepth 100000
set_option maxHeartbeats 4000000
namespace Mi
open PySem PySem.Spec PyProof.Rows L2
section
variable {X : Cx} {R : RC} {W : WX} {pos pp apos cpos : Pos} {o e : Expr} {es : List Expr} {kws : List Keyword} {x m : Str}
/-! what is not reached -/
def mBad : MSt := fun _ => .bad
def eBad : ME := fun _ => .bad
def tBad : MS → Out Bool := fun _ => .bad
theorem js_bad {st : Stmt} : JS X R W st mBad := fun _ F => ⟨fun _ _ _ _ _ _ ⟨_, _, _, h⟩ => h.elim⟩
theorem je_bad : JE X R W e eBad := fun _ F => ⟨fun _ _ _ _ _ _ ⟨_, _, _, h⟩ => h.elim⟩
/-! an int among the globals -/
theorem je_gint {i : Int} (hm : ∃ t, X.mg x = some (.int i t)) (hg : Gl X x := by rfl) (hd : (x == ("__debug__" : Str)) = false := by decide) : JE X R W (.Name x pos) (mC (.int i)) := by
  obtain ⟨t, hm⟩ := hm
  exact je_glob hm (v := .int i) ⟨t, rfl⟩ (fun G H => VR.mkInt (K := R.K) (G := G) (H := H)) hg hd
/-! methods with keywords -/
variable {f : Addr} {fd : FuncData} {ps ks : List Str} {n np k : Nat} {run : Fn} {idx : List Nat} {fo : ME} {fa fk : MS → Out (List MV)} {pl : Sem Bool}
def mMethK (c : Nat) (run : Fn) (n np nk : Nat) (idx : List Nat) (fo : ME) (fa fk : MS → Out (List MV)) : ME := fun s => (fo s).bind fun r s1 => match r with
  | .v (.ref q) => match s1.hp[q]? with
    | some (.inst c' _) => if c' = c then (fa s1).bind fun xs s2 => (fk s2).bind fun ys s3 => if xs.length + 1 = np ∧ ys.length = nk ∧ (permL idx (.ref q :: xs ++ ys)).length = n then mRun run (permL idx (.ref q :: xs ++ ys)) s3 else .bad else .bad
    | _ => .bad
  | _ => .bad
theorem je_methK (c : Nat) (hc : Cls X.K (R.cls c)) (hm : Meth X.K (R.cls c) m f) (Fo : FnOk X.prog X.w X.K X.mg X.base (L2.CX X.prog X.w) k f fd ps (spF R n run)) (tk : Takes X W) (hr : Room k X.A) (hb : KB fd ps ks np idx)
    (ho : JE X R W o fo) (ha : JAs X R W (e :: es) fa) (hkw : JKs X R W kws fk) (hnm : m ∉ R.flds c := by decide) (he : starEach (e :: es) X.env = (false, eval e X.env) :: starEach es X.env := by rfl)
    (hall : (backToKw pos (keywordEach kws X.env)).all (·.1.isSome) = true := by rfl) (hks : (backToKw pos (keywordEach kws X.env)).filterMap (·.1) = ks := by rfl)
    (hpl : ((backTo pos (starEach (e :: es) X.env)).any (·.1) || (backToKw pos (keywordEach kws X.env)).any (·.1.isNone)) = false := by rfl)
    (ht : eval (.Call (.Attribute o m apos) (e :: es) kws pos) X.env = (do
      let ov ← eval o X.env
      standAt apos.atName
      let (f, first) ← holding [ov] (getMethod ov m pl)
      callWith pos f first (backTo pos (starEach (e :: es) X.env)) (backToKw pos (keywordEach kws X.env))) := by rfl) : JE X R W (.Call (.Attribute o m apos) (e :: es) kws pos) (mMethK c run n np ks.length idx fo fa fk) := fun hK F => by
  refine ⟨fun pins s σ H Q I h => ?_⟩
  refine PySem.W.methodCall_KW (pl := pl) (thn ((ho hK F).run pins s σ H _ I (first (M := rlE) h)) fun u s1 ⟨x, H1, I1, rx, G, r, m1, G1, w, rr, o⟩ => ?_) ht
  have rr : RR R σ H G1 H1 r x := rr
  split at o
  · rename_i q rr0
    split at o
    · rename_i c' fs hn
      split at o
      · rename_i ec
        subst ec
        obtain ⟨a, dx, hfs, rfl, ga, ha1, _, _, hno, _⟩ := obj_at w.rel rr hn
        obtain rfl : u = Value.ref a := rx
        refine getmeth_ok I1 ha1 hc hm (hno m hnm) ?_
        refine PySem.W.callWith_KW (first := [.ref a]) (h₀ := X.base) I.ok.mod.kin hm.kp hall (thn ((ha hK F).run pos pins s1 σ H1 _ I1 (next (M := rlS) w o)) fun us s2 ⟨vs, H2, I2, r2, xs, m2, G2, w2, e12, rr2, o2⟩ => ?_) hpl he
        refine thn ((hkw hK F).run pos pins s2 σ H2 _ I2 (next (M := rlS) w2 o2)) fun ws s3 ⟨zs, H3, I3, r3, ys, m3, G3, w3, e23, rr3, o3⟩ => ⟨I3.kIn, ?_⟩
        have rr2 : VRs R.K G2 H2 xs vs := rr2
        have rr3 : VRs R.K G3 H3 ys zs := rr3
        split at o3
        · rename_i hl
          rw [hks]
          have hw : ws.length = ks.length := by rw [← r3.length, ← rr3.length]; exact hl.2.1
          have hu : (Value.ref a :: us).length = np := by rw [List.length_cons, ← r2.length, ← rr2.length]; exact hl.1
          have v0 : VR R.K G3 H3 (.ref q) (.ref a) := VR.mono (e12.mo.trans e23.mo) _ _ (show VR R.K G1 H1 (.ref q) (.ref a) from rr)
          have vs3 : VRs R.K G3 H3 (.ref q :: xs ++ ys) (.ref a :: vs ++ zs) := (VRs.cons v0 (VRs.mono e23.mo _ _ rr2)).append rr3
          have vu : Vals (V.ref a :: vs ++ zs) (Value.ref a :: us ++ ws) := Vals.append (.cons rfl r2) r3
          exact run_args (E := WE W) (args := ⟨Value.ref a :: us, ks.zip ws⟩) Fo hr (hb s3 (Value.ref a :: us) ws hu hw) (passAt tk σ) I3 (vals_perm vu idx) (run_sp w3 (vs3.perm idx) hl.2.2 o3)
        · exact o3.elim
      · exact o.elim
    · exact o.elim
  · exact o.elim
theorem je_methK0 (c : Nat) (hc : Cls X.K (R.cls c)) (hm : Meth X.K (R.cls c) m f) (Fo : FnOk X.prog X.w X.K X.mg X.base (L2.CX X.prog X.w) k f fd ps (spF R n run)) (tk : Takes X W) (hr : Room k X.A) (hb : KB fd ps ks 1 idx)
    (ho : JE X R W o fo) (hkw : JKs X R W kws fk) (hnm : m ∉ R.flds c := by decide)
    (hall : (backToKw pos (keywordEach kws X.env)).all (·.1.isSome) = true := by rfl) (hks : (backToKw pos (keywordEach kws X.env)).filterMap (·.1) = ks := by rfl)
    (hpl : ((backTo pos (starEach [] X.env)).any (·.1) || (backToKw pos (keywordEach kws X.env)).any (·.1.isNone)) = false := by rfl)
    (ht : eval (.Call (.Attribute o m apos) [] kws pos) X.env = (do
      let ov ← eval o X.env
      standAt apos.atName
      let (f, first) ← holding [ov] (getMethod ov m pl)
      callWith pos f first (backTo pos (starEach [] X.env)) (backToKw pos (keywordEach kws X.env))) := by rfl) : JE X R W (.Call (.Attribute o m apos) [] kws pos) (mMethK c run n 1 ks.length idx fo (fun s => .ok [] s) fk) := fun hK F => by
  refine ⟨fun pins s σ H Q I h => ?_⟩
  refine PySem.W.methodCall_KW (pl := pl) (thn ((ho hK F).run pins s σ H _ I (first (M := rlE) h)) fun u s1 ⟨x, H1, I1, rx, G, r, m1, G1, w, rr, o⟩ => ?_) ht
  have rr : RR R σ H G1 H1 r x := rr
  split at o
  · rename_i q rr0
    split at o
    · rename_i c' fs hn
      split at o
      · rename_i ec
        subst ec
        obtain ⟨a, dx, hfs, rfl, ga, ha1, _, _, hno, _⟩ := obj_at w.rel rr hn
        obtain rfl : u = Value.ref a := rx
        refine getmeth_ok I1 ha1 hc hm (hno m hnm) ?_
        simp only [Out.bind_ok] at o
        refine PySem.W.callWith_KW0 (first := [.ref a]) (h₀ := X.base) I.ok.mod.kin hm.kp hall (thn ((hkw hK F).run pos pins s1 σ H1 _ I1 (next (M := rlS) w o)) fun ws s3 ⟨zs, H3, I3, r3, ys, m3, G3, w3, e23, rr3, o3⟩ => ⟨I3.kIn, ?_⟩) hpl
        have rr3 : VRs R.K G3 H3 ys zs := rr3
        split at o3
        · rename_i hl
          rw [hks]
          have hw : ws.length = ks.length := by rw [← r3.length, ← rr3.length]; exact hl.2.1
          have v0 : VR R.K G3 H3 (.ref q) (.ref a) := VR.mono e23.mo _ _ (show VR R.K G1 H1 (.ref q) (.ref a) from rr)
          have vs3 : VRs R.K G3 H3 (.ref q :: [] ++ ys) (.ref a :: [] ++ zs) := (VRs.cons v0 (VRs.nil (K := R.K))).append rr3
          have vu : Vals (V.ref a :: [] ++ zs) (Value.ref a :: [] ++ ws) := Vals.append (.cons rfl .nil) r3
          exact run_args (E := WE W) (args := ⟨[Value.ref a], ks.zip ws⟩) Fo hr (hb s3 [Value.ref a] ws rfl hw) (passAt tk σ) I3 (vals_perm vu idx) (run_sp w3 (vs3.perm idx) hl.2.2 o3)
        · exact o3.elim
      · exact o.elim
    · exact o.elim
  · exact o.elim
/-- o.m(), what lacks being a default -/
def mMethD (c : Nat) (run : Fn) (n : Nat) (fo : ME) (dm : List MV) : ME := fun s => (fo s).bind fun r s1 => match r with
  | .v (.ref q) => match s1.hp[q]? with
    | some (.inst c' _) => if c' = c ∧ dm.length + 1 = n then mRun run (.ref q :: dm) s1 else .bad
    | _ => .bad
  | _ => .bad
theorem run_dflt {pins : List (Addr × Obj)} {σ : L2.St} {H : Hp} {s : Shared} {Q : VK} {us ds : List Value} {vs dvs : List V} {sp : Sp} {E : L2.St → XK} (Fo : FnOk X.prog X.w X.K X.mg X.base (L2.CX X.prog X.w) k f fd ps sp) (hr : Room k X.A) (hb : Binds X.K fd ps ds) (hd : Vals dvs ds) (hx : PassesAt (L2.CX X.prog X.w) X σ (E σ))
    (I : Inv X pins σ H s) (r : Vals vs us) (h : sp (vs ++ dvs) H Q (E σ)) : wpAny (model X.prog X.w) X.A (call (.ref f) us) (EP X pins σ Q) X.xe s := by
  have r2 := r.append hd
  have hl : (us ++ ds).length = ps.length := by rw [← r2.length]; exact Fo.len _ _ _ _ h
  exact run_args (args := ⟨us, []⟩) Fo hr (hb s us I.kIn hl) hx I r2 h
theorem je_methD (c : Nat) {dm : List MV} {dvs : List V} (hc : Cls X.K (R.cls c)) (hm : Meth X.K (R.cls c) m f) (Fo : FnOk X.prog X.w X.K X.mg X.base (L2.CX X.prog X.w) k f fd ps (spF R n run)) (tk : Takes X W) (hr : Room k X.A) (hb : ∃ ds, Vals dvs ds ∧ Binds X.K fd ps ds) (hv : ∀ G H, VRs R.K G H dm dvs)
    (ho : JE X R W o fo) (hnm : m ∉ R.flds c := by decide)
    (ht : eval (.Call (.Attribute o m apos) [] [] pos) X.env = (do
      let ov ← eval o X.env
      standAt apos.atName
      let (f, first) ← holding [ov] (getMethod ov m pl)
      callWith pos f first (backTo pos (starEach [] X.env)) (backToKw pos (keywordEach [] X.env))) := by rfl) : JE X R W (.Call (.Attribute o m apos) [] [] pos) (mMethD c run n fo dm) := fun hK F => by
  obtain ⟨ds, hd, hb⟩ := hb
  refine ⟨fun pins s σ H Q I h => ?_⟩
  refine PySem.W.methodCall_KW (pl := pl) (thn ((ho hK F).run pins s σ H _ I (first (M := rlE) h)) fun u s1 ⟨x, H1, I1, rx, G, r, m1, G1, w, rr, o⟩ => ?_) ht
  have rr : RR R σ H G1 H1 r x := rr
  split at o
  · rename_i q rr0
    split at o
    · rename_i c' fs hn
      split at o
      · rename_i ec
        obtain ⟨ec, hl⟩ := ec
        subst ec
        obtain ⟨a, dx, hfs, rfl, ga, ha1, _, _, hno, _⟩ := obj_at w.rel rr hn
        obtain rfl : u = Value.ref a := rx
        refine getmeth_ok I1 ha1 hc hm (hno m hnm) ?_
        have sp := run_sp (xs := .ref q :: dm) (n := n) w (VRs.cons (show VR R.K G1 H1 (.ref q) (.ref a) from rr) (hv _ _)) hl o
        exact PySem.W.callWith_K0 (first := [.ref a]) I1.kIn hm.kp (run_dflt (us := [.ref a]) (vs := [.ref a]) (E := WE W) Fo hr hb hd (passAt tk σ) I1 (.cons rfl .nil) sp)
      · exact o.elim
    · exact o.elim
  · exact o.elim
theorem vr_bl {K : PySem.W.Frag} {b : Bool} : ∀ G H, VRs K G H [.bl b] [.bl b] := fun G H => VRs.cons (VR.mkBl (K := K) (G := G) (H := H)) (VRs.nil (K := K) (G := G) (H := H))
/-! append to a list that nobody holds -/
def mAppO (fo : ME) (fa : MS → Out (List MV)) : ME := fun s => (fo s).bind fun r s1 => match r with
  | .own (.lst xs) => (fa s1).bind fun rs s2 => match rs with
    | [_] => if xs.length < sizeLine then .ok (.v .non) s2 else .bad
    | _ => .bad
  | _ => .bad
theorem je_appendO (ho : JE X R W o fo) (ha : JAs X R W [e] fa) (hbase : attributeBase o "append" X.env (eval o X.env) = eval o X.env := by rfl)
    (hfew : ((backTo cpos (starEach [e] X.env)).all (fun x => !x.1) && (backToKw cpos (keywordEach [] X.env)).all (fun x => x.1.isSome) && decide ([e].length + ([] : List Keyword).length + (if ([] : List Keyword).isEmpty then 0 else 1) < 30)) = true := by rfl)
    (hline : (apos.endLine == cpos.line) = true := by rfl) (hs : starEach [e] X.env = (false, eval e X.env) :: starEach [] X.env := by rfl) (hplain : (backTo cpos (starEach [] X.env)).any (·.1) = false := by rfl) :
    JE X R W (.Call (.Attribute o "append" apos) [e] [] cpos) (mAppO fo fa) := fun hK F =>
  PE.imp (pe_bm PySem.F.plainAttrs_list PySem.F.slot_list_append PySem.F.type_list_append mt_append (ho hK F) (ha hK F) hbase hfew hline hs hplain) fun σ H Q h => by
    refine (first (M := rlE) h).mono fun x H1 ⟨G, r, s1, G1, w, rr, o⟩ => ?_
    have rr : RR R σ H G1 H1 r x := rr
    split at o
    · rename_i xs
      obtain ⟨a, rfl, ha0, ga, vs, ha1, hvs⟩ := rr
      refine ⟨.inl ⟨rfl, vs, .inl (.inl ha1)⟩, ?_⟩
      refine (next (M := rlS) w o).mono fun us H2 ⟨rs, s2, G2, w2, e12, rr2, o2⟩ => ?_
      have rr2 : VRs R.K G2 H2 rs us := rr2
      obtain ⟨ha2, ga2⟩ := e12.un a _ ha1 ga
      split at o2
      · obtain ⟨u, t, rfl, p, q⟩ := rr2.inv
        unfold VRs at q; subst q
        split at o2
        · rename_i hz
          exact ⟨a, vs, u, rfl, rfl, ha2, by rw [← hvs.length]; exact hz, o2 G2 (upd H2 a (.lst (vs ++ [u]))) .non (w2.rel.updNone ga2 (fresh_back w2.st ha0)) (w2.evo.updNew ha0 ga2) (VR.mkNon (K := R.K) (G := G2) (H := upd H2 a (.lst (vs ++ [u]))))⟩
        · exact o2.elim
      · exact o2.elim
    · exact o.elim
end
/-- one keyword-only parameter with a truth as its default -/
theorem dflt_one {K : PySem.W.Frag} {f D : Addr} {st : Stmt} {nm x qual : Str} {ps : List Str} {oc kV dc pm cd ct : Value} {od an : Option Addr} {sl : Array (Option Value)} {b : Bool} {n : Nat}
    (l : K.lookup f = some ⟨oc, od, .func (PySem.W.fnOf x qual (defArgs st) (defBody st) (defScope st) .none kV dc pm an cd ct), sl⟩) (c : PySem.W.codeIn K cd qual = true) (k : PySem.W.keepIn K (.ref f) = true) (kd : kV = .ref D) (kn : PySem.W.nsIn K D nm = some (some (.bool b)))
    (h : ∀ (D : Addr) (dc pm : Value) (an : Option Addr) (cd ct : Value) (us : List Value) (u : Value), us.length = n → KwChain D [(nm, u)] (bindArgs (PySem.W.fnOf x qual (defArgs st) (defBody st) (defScope st) .none (.ref D) dc pm an cd ct) ⟨us, []⟩) (ps.zip (us ++ [u]))) (hn : n + 1 = ps.length := by rfl) :
    ∃ ds, Vals [V.bl b] ds ∧ Binds K (PySem.W.fnOf x qual (defArgs st) (defBody st) (defScope st) .none kV dc pm an cd ct) ps ds := by
  subst kd
  have F : FunD K x qual (defArgs st) (defBody st) (defScope st) [] [(nm, V.bl b)] f (PySem.W.fnOf x qual (defArgs st) (defBody st) (defScope st) .none (.ref D) dc pm an cd ct) :=
    ⟨⟨oc, od, .none, .ref D, dc, pm, an, cd, ct, sl, rfl, l, c, .inl ⟨rfl, rfl⟩, .inr ⟨D, rfl, fun q hq => by
      rcases List.mem_cons.mp hq with e | e
      · subst e; exact ⟨_, kn, rfl⟩
      · cases e⟩⟩, k⟩
  exact F.binds0 n (by simp) hn fun D dc pm an cd ct us ks h1 h2 => by
    match ks, h2 with
    | [u], _ => exact h D dc pm an cd ct us u h1
end Mi
set_option Elab.async false
set_option linter.all false
set_option maxRecDepth 100000
set_option maxHeartbeats 4000000
namespace Mi
open PySem PySem.Spec PyProof.Rows L2
/-! dict(d) -/
section
variable {X : Cx} {R : RC} {W : WX} {F : FI} {σ : L2.St} {G G1 : Gh} {H H1 : Hp} {s s1 : MS} {pos pp : Pos} {e e2 : Expr} {es : List Expr} {fs : MS → Out (List RV)}
theorem newDict {kvs : List (MV × MV)} {dk : List (Key × V)} {Q : VK} (w : Way R F σ G H G1 H1 s1) (r : DD R.K G1 H1 kvs dk) (h : OutX rlE R F W σ G H (.ok (.own (.dict kvs)) s1) Q) : ∀ p, H1 p = none → Q (.ref p) (upd H1 p (.dK dk)) := fun p hp => by
  have g := w.rel.noRole hp
  have hH := fresh_back w.evo hp
  exact h G1 _ _ (w.rel.alloc hp) (w.evo.updNew hH g) ⟨p, rfl, hH, g, _, upd_same, dk, rfl, r.1, VRs.mono (Mo.upd (by rw [g]; simp)) _ _ r.2⟩
def pairsOf : List MV → Option (List (MV × MV))
  | [] => some []
  | .tup [k, x] :: r => (pairsOf r).map ((k, x) :: ·)
  | _ => none
def pDictOf (rs : List RV) (s : MS) : Out RV := match rs with
  | [r] => match dictOf s r with
    | some kvs => .ok (.own (.dict kvs)) s
    | none => match (lstOf s r).bind pairsOf with
      | some ps => if keysOk ps = true then .ok (.own (.dict (mergeM [] ps))) s else .bad
      | none => .bad
  | _ => .bad
theorem pairs_ok {K : PySem.W.Frag} {G : Gh} {H : Hp} : ∀ {xs : List MV} {vs : List V} {ps : List (MV × MV)}, VRs K G H xs vs → pairsOf xs = some ps → keysOk ps = true → ∃ (as : List Addr) (kvs : List (Key × V)), vs = as.map V.ref ∧ Paired (fun p kv => SqT K H p [kV kv.1, kv.2]) as kvs ∧ DD K G H ps kvs
  | [], vs, ps, h, e, _ => by
    cases e
    unfold VRs at h; subst h
    exact ⟨[], [], rfl, .nil, rfl, VRs.nil (K := K) (G := G) (H := H)⟩
  | x :: xs, vs, ps, h, e, hk => by
    obtain ⟨v, r, rfl, p, q⟩ := h.inv
    match x, e with
    | .tup [k, y], e =>
      simp only [pairsOf, Option.map_eq_some_iff] at e
      obtain ⟨qs, e1, rfl⟩ := e
      simp only [keysOk, List.all_cons, Bool.and_eq_true] at hk
      obtain ⟨kk, hkk⟩ := Option.isSome_iff_exists.mp hk.1
      obtain ⟨as, kvs, rfl, pr, dd⟩ := pairs_ok q e1 hk.2
      obtain ⟨a, ws, rfl, sq, hw⟩ := p.tup
      obtain ⟨v1, t1, rfl, p1, hw⟩ := hw.inv
      obtain ⟨v2, t2, rfl, p2, hw⟩ := hw.inv
      unfold VRs at hw; subst hw
      obtain ⟨rfl, e2⟩ := keyOf_V p1 hkk
      exact ⟨a :: as, (kk, v2) :: kvs, rfl, .cons sq pr, DD.cons e2.symm p2 dd⟩
theorem call_dictA {X : Cx} (hc : X.calm = true) : CallR X (.type "dict") (fun xs H Q => (∃ (a : Addr) (kvs : List (Key × V)), xs = [.ref a] ∧ Rd H a (.dK kvs) ∧ ∀ p, H p = none → Q (.ref p) (upd H p (.dK kvs))) ∨
    ∃ (a : Addr) (ps : List Addr) (kvs : List (Key × V)), xs = [.ref a] ∧ SqL X.K H a (ps.map V.ref) ∧ Paired (fun p kv => SqT X.K H p [kV kv.1, kv.2]) ps kvs ∧ ∀ p, H p = none → Q (.ref p) (upd H p (.dK (mergeK [] kvs)))) := by
  intro pins s σ H xs us Q I r h
  rcases h with h | h
  · exact call_dictD pins s σ H xs us Q I r h
  · exact call_dictP hc pins s σ H xs us Q I r h
theorem pr_dictOf {K : PySem.W.Frag} (hK : R.K = K) : PrimC R (fun xs H Q => (∃ (a : Addr) (kvs : List (Key × V)), xs = [.ref a] ∧ Rd H a (.dK kvs) ∧ ∀ p, H p = none → Q (.ref p) (upd H p (.dK kvs))) ∨
    ∃ (a : Addr) (ps : List Addr) (kvs : List (Key × V)), xs = [.ref a] ∧ SqL K H a (ps.map V.ref) ∧ Paired (fun p kv => SqT K H p [kV kv.1, kv.2]) ps kvs ∧ ∀ p, H p = none → Q (.ref p) (upd H p (.dK (mergeK [] kvs)))) pDictOf := fun {F W σ G H G2 H2 s2 rs vs Q} w rr o => by
  subst hK
  unfold pDictOf at o
  split at o
  · obtain ⟨v, t, rfl, r1, rfl⟩ := rr
    split at o
    · rename_i kvs hd
      obtain ⟨a, dk, rfl, ha, dd⟩ := dict_ok w.rel r1 hd
      exact .inl ⟨a, dk, rfl, ha, newDict w dd o⟩
    · split at o
      · rename_i ps e
        simp only [Option.bind_eq_some_iff] at e
        obtain ⟨xs, e1, e2⟩ := e
        split at o
        · rename_i hk
          obtain ⟨a, ws, rfl, sq, h⟩ := lst_ok w.rel r1 e1
          obtain ⟨as, kvs, rfl, pr, dd⟩ := pairs_ok h e2 hk
          have dm := dd.merge (acc := []) (dk := []) ⟨rfl, VRs.nil (K := R.K) (G := G2) (H := H2)⟩
          exact .inr ⟨a, as, kvs, rfl, sq, pr, newDict w dm o⟩
        · exact o.elim
      · exact o.elim
  · exact o.elim
theorem je_dictOf (ha : JA X R W [e] fs) (hm : X.mg "dict" = none) (hg : Gl X "dict" := by rfl) (he : starEach [e] X.env = (false, eval e X.env) :: starEach [] X.env := by rfl) (hpl : (backTo pos (starEach [] X.env)).any (·.1) = false := by rfl) (hc : X.calm = true := by rfl) :
    JE X R W (.Call (.Name "dict" pp) [e] [] pos) (mCallB pDictOf fs) := je_callTy (call_dictA hc) (fun h => pr_dictOf h) hm boot_dict' ha hg (he := he) (hpl := hpl)
/-! zip of two boxed lists -/
def mZip (fs : MS → Out (List RV)) : MS → Out MI := fun s => (fs s).bind fun rs s1 => match rs with
  | [.v (.ref n), .v (.ref m)] => match seqOf s1 (.v (.ref n)), seqOf s1 (.v (.ref m)) with
    | some xs, some ys => .ok ⟨List.zipWith (fun x y => .tup [x, y]) xs ys, fun s' => s'.base = s1.base ∧ seqOf s' (.v (.ref n)) = some xs ∧ seqOf s' (.v (.ref m)) = some ys⟩ s1
    | _, _ => .bad
  | _ => .bad
theorem ref_later {n : Nat} {v : V} {Hs : Hp} (h : RR R σ Hs G H (.v (.ref n)) v) {G2 : Gh} {H2 : Hp} (m : Mo G H G2 H2) {σ2 : L2.St} {Hs2 : Hp} : RR R σ2 Hs2 G2 H2 (.v (.ref n)) v := VR.mono m _ _ (show VR R.K G H (.ref n) v from h)
theorem ji_zip {elts : List Expr} {kk : Nat} {tpos : Pos} (hm : X.mg "zip" = none) (ha : JA X R W [e, e2] fs) (hg : Gl X "zip" := by rfl) (hs : starEach [e, e2] X.env = (false, eval e X.env) :: starEach [e2] X.env := by rfl) (hpl : (backTo pos (starEach [e2] X.env)).any (·.1) = false := by rfl) :
    JI X R W (.Tuple elts kk tpos) (.Call (.Name "zip" pp) [e, e2] [] pos) (mZip fs) := fun hK F =>
  PI.imp (RZ.pi_zipA hg hm (ha hK F) hs hpl) fun σ H Rr h => (first (M := rlR) h).mono fun vs H1 ⟨G, rs, s1, G1, w, rr, o⟩ => by
    have rr : RRs R σ H G1 H1 rs vs := rr
    split at o
    · rename_i n m
      obtain ⟨v, t, rfl, r1, v2, t2, rfl, r2, rfl⟩ := rr
      split at o
      · rename_i xs ys e1 e2'
        obtain ⟨a, us, rfl, k1, q1⟩ := list_of_seq w.rel r1 (fun ys q => by cases q) e1
        obtain ⟨b, ws, rfl, k2, q2⟩ := list_of_seq w.rel r2 (fun ys q => by cases q) e2'
        refine ⟨a, b, us, ws, rfl, .inl ⟨by rw [← hK]; exact k1, by rw [← hK]; exact k2, o _ _ _ w.rel w.evo ?_⟩⟩
        intro F2 G2 H2 s2 σ2 rel ev ck
        obtain ⟨_, c1, c2⟩ := ck
        obtain ⟨a', us2, z1, l1, p1⟩ := list_of_seq rel (ref_later r1 ev.mo (Hs2 := H2)) (fun ys q => by cases q) c1
        obtain ⟨b', ws2, z2, l2, p2⟩ := list_of_seq rel (ref_later r2 ev.mo (Hs2 := H2)) (fun ys q => by cases q) c2
        cases z1
        cases z2
        rw [hK] at l1 l2
        have hl : (List.zipWith (fun x y => MV.tup [x, y]) xs ys).length = min xs.length ys.length := by simp
        refine ⟨fun i hi => ?_, ?_, fun i x v H3 hx y => ?_⟩
        · have hi : i < min xs.length ys.length := by rw [← hl]; exact hi
          obtain ⟨x, hx, _⟩ := p1.get (List.getElem?_eq_getElem (by omega : i < xs.length))
          obtain ⟨y, hy, _⟩ := p2.get (List.getElem?_eq_getElem (by omega : i < ys.length))
          exact ⟨us2, ws2, x, y, l1, l2, hx, hy⟩
        · show (Itz X.K a b).stop (List.zipWith (fun x y => MV.tup [x, y]) xs ys).length H2
          rw [hl]
          refine ⟨us2, ws2, l1, l2, ?_⟩
          rw [← p1.length, ← p2.length]
          omega
        · obtain ⟨T, x1, y1, rfl, hT, rfl, f1, f2⟩ := y
          have hx : (List.zipWith (fun x y => MV.tup [x, y]) xs ys)[i]? = some x := hx
          rw [List.getElem?_zipWith] at hx
          split at hx
          · rename_i x0 y0 g1 g2
            cases hx
            obtain ⟨u, hu, vu⟩ := p1.get g1
            obtain ⟨u', hu', vu'⟩ := p2.get g2
            rw [f1 us2 l1] at hu; cases hu
            rw [f2 ws2 l2] at hu'; cases hu'
            exact .inr ⟨T, _, _, rfl, rfl, hT, rfl, VRs.cons vu (VRs.cons vu' (VRs.nil (K := R.K)))⟩
          · cases hx
      · exact o.elim
    · exact o.elim
end
/-! o.f, o.g, .. = values -/
def gFldT (K : PySem.W.Frag) (ta : TE) (f : Str) : TG := fun v σ H Q => ta σ H fun x H2 => ∃ a C dx fs, x = .ref a ∧ H2 a = some (.ins C dx fs) ∧ Cls K C ∧ NoAttr K C f ∧ fs.length < 1000 ∧ Q σ (upd H2 a (.ins C dx (putF f v fs)))
theorem pg_fld {X : Cx} {o : Expr} {f : Str} {ta : TE} {pos' : Pos} (ho : PE X o ta) (ha : ∀ v, assign (.Attribute o f pos') X.env v = (do
    let ov ← holding [v] (eval o X.env)
    standAt pos'.atName
    holding [v, ov] (setAttr ov f v)
    release [v, ov] []) := by intro _; rfl) : PG X (.Attribute o f pos') (gFldT X.K ta f) := by
  refine ⟨fun pins s σ H v u Q I r h => ?_⟩
  rw [ha]
  refine wpAny_bind (wpAny_holding (thn (ho.run pins s σ H _ I h) fun ov s1 ⟨x, H1, I1, r1, a, C, dx, fs, ex, ea, c, n, l, q⟩ => ?_))
  subst ex
  obtain rfl : ov = Value.ref a := r1
  refine wpAny_bind (wpAny_standAt (wpAny_bind (wpAny_holding (setattr_ok I1 ea c n l r fun s3 I3 => ?_))))
  exact wpAny_release ⟨σ, _, I3, q⟩
section
variable {X : Cx} {R : RC} {W : WX} {pos pos' : Pos} {o : Expr} {ts : List Expr} {nm : Str}
def tFs (R : RC) (F : FI) (ft : List MV → MS → Option MS) : TGs := fun vs σ H Q => ∃ G s xs, Rel R F G s σ H ∧ VRs R.K G H xs vs ∧ match ft xs s with
  | some s' => ∀ G' H', Rel R F G' s' σ H' → Evo (· < F.base) G H G' H' → Q σ H'
  | none => False
def JFs (X : Cx) (R : RC) (ts : List Expr) (ft : List MV → MS → Option MS) : Prop := R.K = X.K → ∀ F, PGs X ts (tFs R F ft)
theorem jfs_nil : JFs X R [] gsNil := fun _ F => PGs.imp pgs_nil fun v σ H Q ⟨G, s, xs, rel, vr, h⟩ => by
  cases xs with
  | nil => unfold VRs at vr; exact ⟨vr, h G H rel .refl⟩
  | cons x xs => exact h.elim
/-- the field of a variable's object -/
def fsCons (c j i : Nat) (u : List MV → MS → Option MS) : List MV → MS → Option MS := fun xs s => match xs with
  | x :: r => match s.env[i]? with
    | some (some (.v (.ref n))) => match s.hp[n]? with
      | some (.inst c' fs) => if c' = c ∧ (noOwn fs[j]? = true ∨ s.base ≤ n) then u r { s with hp := s.hp.set n (.inst c (fs.set j (some (.v x)))) } else none
      | _ => none
    | _ => none
  | [] => none
theorem jfs_cons {x : Str} {px : Pos} {u : List MV → MS → Option MS} (c j i : Nat) (hc : Cls X.K (R.cls c)) (hno : NoAttr X.K (R.cls c) nm) (hv : JE X R (fun _ _ _ _ => False) (.Name x px) (mVar i)) (h2 : JFs X R ts u) (hj : (R.flds c)[j]? = some nm := by rfl) (nd : (R.flds c).Nodup := by decide) (hl : (R.flds c).length < 1000 := by decide)
    (hs : (assignEach (.Attribute (.Name x px) nm pos' :: ts) X.env).map (·.2) = assign (.Attribute (.Name x px) nm pos') X.env :: (assignEach ts X.env).map (·.2) := by rfl) : JFs X R (.Attribute (.Name x px) nm pos' :: ts) (fsCons c j i u) := fun hK F =>
  PGs.imp (pgs_cons (pg_fld (hv hK F)) (h2 hK F) hs) fun v σ H Q ⟨G, s, xs, rel, vr, h⟩ => by
    cases xs with
    | nil => exact h.elim
    | cons y xs =>
      obtain ⟨w, r, rfl, p, q⟩ := vr.inv
      simp only [fsCons] at h
      refine ⟨w, r, rfl, ?_⟩
      split at h
      · rename_i s' e
        split at e
        · rename_i n hi
          split at e
          · rename_i c' fs hn
            split at e
            · rename_i hcc
              obtain ⟨rfl, hold⟩ := hcc
              refine ⟨G, s, rel, ?_⟩
              have hm : mVar i s = .ok (.v (.ref n)) s := by unfold mVar; rw [hi]
              rw [hm]
              intro G1 H1 v1 rel1 ev1 rr1
              have rr1 : RR R σ H G1 H1 (.v (.ref n)) v1 := rr1
              obtain ⟨a, _, _, rfl, ga, _⟩ := obj_at rel1 rr1 hn
              obtain ⟨dx, hfs, ha, hln, rel2, evo⟩ := setFld_ok (sv := .v y) rel1 ga hn hj nd (by rw [← rel1.base]; exact hold) (.v (VR.mono ev1.mo _ _ p))
              have ev2 := evo G H (ev1.weak fun _ _ => trivial) fun b q => q.elim
              refine ⟨a, _, dx, hfs, rfl, ha, hc, hno, Nat.lt_of_le_of_lt hln hl, _, _, xs, rel2, VRs.mono ev2.mo _ _ q, ?_⟩
              rw [e]
              exact fun G' H' rel' ev' => h G' H' rel' (ev2.trans ev')
            · cases e
          · cases e
        · cases e
      · exact h.elim
def mAsgF (fv : MS → Out (List MV)) (n : Nat) (ft : List MV → MS → Option MS) : MSt := fun s => (fv s).bind fun xs s1 => if xs.length = n ∧ n ≤ sizeLine then (match ft xs s1 with | some s2 => .ok .next s2 | none => .bad) else .bad
theorem js_asgF {es : List Expr} {fv : MS → Out (List MV)} {n : Nat} {ft : List MV → MS → Option MS} {kt k2 : Nat} {pt : Pos} {p2 : Pos} (hc : X.calm = true) (he : JAs X R W es fv) (hg : JFs X R ts ft)
    (hn : (assignEach ts X.env).length = n := by rfl) (hst : (assignEach ts X.env).findIdx? (·.1) = none := by rfl)
    (hs : swapsWithSole [.Tuple ts kt pt] (.Tuple es k2 p2) pos.line X.env = pure false := by rfl) (hw : swappedStores [.Tuple ts kt pt] (.Tuple es k2 p2) X.env = pure none := by rfl)
    (h1 : (assignEach [.Tuple ts kt pt] X.env).map (·.2) = [assign (.Tuple ts kt pt) X.env] := by rfl) : JS X R W (.Assign [.Tuple ts kt pt] (.Tuple es k2 p2) pos) (mAsgF fv n ft) := fun hK F =>
  PS.imp (ps_asg (pe_tup (he hK F)) (pg_tup hc (hg hK F) hn hst) hs hw h1) fun D σ H h => by
    refine (firstS (M := rlS) h).mono fun vs H1 ⟨G, xs, s1, G1, w, vr, o⟩ => ?_
    have vr : VRs R.K G1 H1 xs vs := vr
    split at o
    · rename_i hl
      refine ⟨by rw [← vr.length, hl.1]; exact hl.2, fun p hp => ?_⟩
      have g := w.rel.noRole hp
      have mu : Mo G1 H1 G1 (upd H1 p (.tup vs)) := Mo.upd (by rw [g]; simp)
      refine ⟨p, vs, rfl, .inl (.inl upd_same), by rw [← vr.length, hl.1], G1, s1, xs, w.rel.alloc hp, VRs.mono mu _ _ vr, ?_⟩
      cases q : ft xs s1 with
      | none => rw [q] at o; exact o.elim
      | some s2 =>
        rw [q] at o
        exact fun G' H' rel ev => o G' σ H' rel ((w.evS.updNew (fresh_back w.evo hp) g).trans ev)
    · exact o.elim
end
end Mi
set_option Elab.async false
set_option linter.all false
set_option maxRecDepth 100000
set_option maxHeartbeats 4000000
namespace Mi
open PySem PySem.Spec PyProof.Rows L2
/-! zip of two tuples, strict -/
abbrev IsZipS (h : Heap) (z TI TO : Addr) (f0 : Value) : Prop :=
  h.get? z = some { cls := .type "zip", dict := none, data := .fields #[f0, .bool false, .bool true, .ref TI, .ref TO], slots := #[] }
section
variable {prog : Program} {w : World} {A : Around} {E : Value → Shared → Prop} {s : Shared}
theorem IsTuple_at {h h' : Heap} {l : Addr} {xs : Array Value} (x : h.IsTuple l xs) (k : ∀ o, h.get? l = some o → h'.get? l = some o) : h'.IsTuple l xs := by
  obtain ⟨o, ho, r⟩ := x
  exact ⟨o, k o ho, r⟩
theorem nextOrEnd_item {it l : Addr} {i : Nat} {items : Array Value} {x : Value} {Q : Option Value → Shared → Prop} (hit : s.heap.IsTupleIter it l i) (hl : s.heap.IsTuple l items) (hx : items[i]? = some x)
    (hQ : ∀ h', h'.IsTupleIter it l (i + 1) → Heap.SameBut it s.heap h' → Q (some x) { s with heap := h' }) : wpAny (model prog w) A (Builtin.SmallTypes.nextOrEnd (.ref it)) Q E s := by
  unfold Builtin.SmallTypes.nextOrEnd
  exact wpAny_bind (wpAny_attempt (RZ.nextOf_tuple_item hit hl hx fun h' a b => wpAny_pure (hQ h' a b)))
theorem nextOrEnd_end {it l : Addr} {i : Nat} {items : Array Value} {Q : Option Value → Shared → Prop} (hh : A.handled = none) (hit : s.heap.IsTupleIter it l i) (hl : s.heap.IsTuple l items) (hx : items[i]? = none)
    (hQ : ∀ h', Heap.ExtBut it s.heap h' → Q none { s with heap := h' }) : wpAny (model prog w) A (Builtin.SmallTypes.nextOrEnd (.ref it)) Q E s := by
  unfold Builtin.SmallTypes.nextOrEnd
  refine wpAny_bind (wpAny_attempt (RZ.nextOf_tuple_end hh hit hl hx fun h' e k he => ?_))
  obtain ⟨o, ho, hc⟩ := he
  exact wpAny_bind (wpAny_isInstance (T := "StopIteration") (b := true) ⟨o, ho, hc⟩ isSubtype_stop (wpAny_pure (hQ _ k)))
theorem zipS_next_item {z TI TO i1 i2 l1 l2 : Addr} {k1 k2 : Nat} {xs ys : Array Value} {x y a b : Value} {Q : Value → Shared → Prop} (D : ZipApart z TI TO i1 i2 l1 l2)
    (hz : IsZipS s.heap z TI TO .none) (hTI : IsPair s.heap TI (.ref i1) (.ref i2)) (hTO : IsPair s.heap TO a b)
    (h1 : s.heap.IsTupleIter i1 l1 k1) (h2 : s.heap.IsTupleIter i2 l2 k2) (hl1 : s.heap.IsTuple l1 xs) (hl2 : s.heap.IsTuple l2 ys) (hx : xs[k1]? = some x) (hy : ys[k2]? = some y)
    (hQ : ∀ h', IsZipS h' z TI TO (rawInt s.heap.objs.size) → IsPair h' TO x y → h'.IsTupleIter i1 l1 (k1 + 1) → h'.IsTupleIter i2 l2 (k2 + 1) → IsPair h' s.heap.objs.size x y → h'.objs.size = s.heap.objs.size + 1 →
      (∀ c o, c ≠ z → c ≠ TO → c ≠ i1 → c ≠ i2 → s.heap.get? c = some o → h'.get? c = some o) → Q (.ref s.heap.objs.size) { s with heap := h' }) :
    wpAny (model prog w) A (Builtin.«zip.__next__» ⟨[.ref z], []⟩) (fun fin s' => ∃ v, fin = .done (.ret v) ∧ Q v s') E s := by
  show wpAny _ _ (field (.ref z) 2 >>= _) _ _ _
  refine wpAny_bind (wpAny_field hz rfl (x := .bool true) rfl ?_)
  show wpAny _ _ (field (.ref z) 3 >>= _) _ _ _
  refine wpAny_bind (wpAny_field hz rfl (x := .ref TI) rfl ?_)
  refine wpAny_bind (wpAny_seqItems hTI rfl ?_)
  show wpAny _ _ (Builtin.SmallTypes.ownedTupleIsFree (.ref z) >>= _) _ _ _
  refine wpAny_bind ?_
  unfold Builtin.SmallTypes.ownedTupleIsFree
  refine wpAny_bind (wpAny_field hz rfl (x := .none) rfl (wpAny_pure ?_))
  simp only [if_true]
  refine wpAny_bind (wpAny_rule ?_)
  refine wpAny_bind (wpAny_field hz rfl (x := .ref TO) rfl ?_)
  refine wpAny_bind (wpAny_setField_rec hz (by simp) fun h₁ hz₁ hs₁ => ?_)
  replace hz₁ : IsZipS h₁ z TI TO .ellipsis := hz₁
  refine wpAny_bind ?_
  simp only [List.zipIdx_cons, List.zipIdx_nil, List.forIn_cons, List.forIn_nil]

  refine wpAny_bind (wpAny_bind (wpAny_onRaise ?_))
  show wpAny _ _ (Builtin.SmallTypes.nextOrEnd (.ref i1)) _ _ _
  refine nextOrEnd_item (h1.extBut hs₁.extBut D.i1z) (hl1.extBut hs₁.extBut D.l1z) hx fun h₂ h1₂ hs₂ => ?_
  have hTO₂ : IsPair h₂ TO a b := hs₂.extBut _ _ D.TOi1 (hs₁.extBut _ _ D.TOz hTO)
  refine wpAny_bind (wpAny_seqItems hTO₂ rfl ?_)
  refine wpAny_bind (wpAny_updateSeq_pair hTO₂ fun h₃ hTO₃ hs₃ => ?_)
  replace hTO₃ : IsPair h₃ TO x b := hTO₃
  refine wpAny_bind (wpAny_letGo (wpAny_pure ?_))

  refine wpAny_bind (wpAny_bind (wpAny_onRaise ?_))
  show wpAny _ _ (Builtin.SmallTypes.nextOrEnd (.ref i2)) _ _ _
  refine nextOrEnd_item (((h2.extBut hs₁.extBut D.i2z).extBut hs₂.extBut D.i12.symm).extBut hs₃.extBut D.TOi2.symm)
    (((hl2.extBut hs₁.extBut D.l2z).extBut hs₂.extBut D.l2i1).extBut hs₃.extBut D.l2TO) hy fun h₄ h2₄ hs₄ => ?_
  have hTO₄ : IsPair h₄ TO x b := hs₄.extBut _ _ D.TOi2 hTO₃
  refine wpAny_bind (wpAny_seqItems hTO₄ rfl ?_)
  refine wpAny_bind (wpAny_updateSeq_pair hTO₄ fun h₅ hTO₅ hs₅ => ?_)
  replace hTO₅ : IsPair h₅ TO x y := hTO₅
  refine wpAny_bind (wpAny_letGo (wpAny_pure (wpAny_pure ?_)))

  refine wpAny_bind (wpAny_seqItems hTO₅ rfl ?_)
  refine wpAny_bind (wpAny_newTuple ?_)
  have hsz : h₅.objs.size = s.heap.objs.size := by rw [hs₅.1, hs₄.1, hs₃.1, hs₂.1, hs₁.1]
  have hz₅ : IsZipS h₅ z TI TO .ellipsis := hs₅.extBut _ _ D.TOz.symm (hs₄.extBut _ _ D.i2z.symm (hs₃.extBut _ _ D.TOz.symm (hs₂.extBut _ _ D.i1z.symm hz₁)))
  have hk₅ : ∀ c o, c ≠ z → c ≠ TO → c ≠ i1 → c ≠ i2 → s.heap.get? c = some o → h₅.get? c = some o := fun c o c1 c2 c3 c4 e =>
    hs₅.extBut _ _ c2 (hs₄.extBut _ _ c4 (hs₃.extBut _ _ c2 (hs₂.extBut _ _ c3 (hs₁.extBut _ _ c1 e))))
  have h1₅ : h₅.IsTupleIter i1 l1 (k1 + 1) := ((h1₂.extBut hs₃.extBut D.TOi1.symm).extBut hs₄.extBut D.i12).extBut hs₅.extBut D.TOi1.symm
  have h2₅ : h₅.IsTupleIter i2 l2 (k2 + 1) := h2₄.extBut hs₅.extBut D.TOi2.symm
  have hzlt : z < h₅.objs.size := Heap.lt_size hz₅
  have hTOlt : TO < h₅.objs.size := Heap.lt_size hTO₅
  have hi1lt : i1 < h₅.objs.size := by obtain ⟨_, e, _⟩ := h1₅; exact Heap.lt_size e
  have hi2lt : i2 < h₅.objs.size := by obtain ⟨_, e, _⟩ := h2₅; exact Heap.lt_size e
  show wpAny _ _ (Builtin.SmallTypes.ownedTupleHandOut (.ref z) (.ref h₅.objs.size) >>= _) _ _ _
  refine wpAny_bind ?_
  unfold Builtin.SmallTypes.ownedTupleHandOut
  have hz₆ : IsZipS (h₅.push { cls := .type "tuple", data := .seq #[x, y] }) z TI TO .ellipsis := Heap.get?_push_of_some _ hz₅
  refine wpAny_bind (wpAny_setField_rec hz₆ (by simp) fun h₇ hz₇ hs₇ => ?_)
  replace hz₇ : IsZipS h₇ z TI TO (rawInt h₅.objs.size) := hz₇
  refine wpAny_setField_rec hz₇ (by simp) fun h₈ hz₈ hs₈ => ?_
  replace hz₈ : IsZipS h₈ z TI TO (rawInt h₅.objs.size) := hz₈
  have up : ∀ c o, c ≠ z → h₅.get? c = some o → h₈.get? c = some o := fun c o c1 e => hs₈.extBut _ _ c1 (hs₇.extBut _ _ c1 (Heap.get?_push_of_some _ e))
  have hT₈ : IsPair h₈ h₅.objs.size x y := hs₈.extBut _ _ (Nat.ne_of_gt hzlt) (hs₇.extBut _ _ (Nat.ne_of_gt hzlt) (Heap.get?_push_size _ rfl))
  have hz8 : h₈.objs.size = h₅.objs.size + 1 := by rw [hs₈.1, hs₇.1, Heap.size_push]
  rw [hsz] at hz₈ hT₈ hz8
  refine wpAny_pure ⟨_, rfl, ?_⟩
  show Q (.ref h₅.objs.size) _
  rw [hsz]
  exact hQ h₈ hz₈ (up _ _ D.TOz hTO₅) (h1₅.at fun o e => up _ o D.i1z e) (h2₅.at fun o e => up _ o D.i2z e) hT₈ hz8 fun c o c1 c2 c3 c4 e => up c o c1 (hk₅ c o c1 c2 c3 c4 e)
theorem zipS_next_end {z TI TO i1 i2 l1 l2 : Addr} {k1 k2 : Nat} {xs ys : Array Value} {a b : Value} {Q : Fin → Shared → Prop} (hh : A.handled = none) (D : ZipApart z TI TO i1 i2 l1 l2)
    (hz : IsZipS s.heap z TI TO .none) (hTI : IsPair s.heap TI (.ref i1) (.ref i2)) (hTO : IsPair s.heap TO a b)
    (h1 : s.heap.IsTupleIter i1 l1 k1) (h2 : s.heap.IsTupleIter i2 l2 k2) (hl1 : s.heap.IsTuple l1 xs) (hl2 : s.heap.IsTuple l2 ys) (hx : xs[k1]? = none) (hy : ys[k2]? = none)
    (hE : ∀ h' e, (∀ c o, c ≠ z → c ≠ TO → c ≠ i1 → c ≠ i2 → s.heap.get? c = some o → h'.get? c = some o) → (∃ o, h'.get? e = some o ∧ o.cls = .type "StopIteration") → E (.ref e) { s with heap := h' }) :
    wpAny (model prog w) A (Builtin.«zip.__next__» ⟨[.ref z], []⟩) Q E s := by
  show wpAny _ _ (field (.ref z) 2 >>= _) _ _ _
  refine wpAny_bind (wpAny_field hz rfl (x := .bool true) rfl ?_)
  show wpAny _ _ (field (.ref z) 3 >>= _) _ _ _
  refine wpAny_bind (wpAny_field hz rfl (x := .ref TI) rfl ?_)
  refine wpAny_bind (wpAny_seqItems hTI rfl ?_)
  show wpAny _ _ (Builtin.SmallTypes.ownedTupleIsFree (.ref z) >>= _) _ _ _
  refine wpAny_bind ?_
  unfold Builtin.SmallTypes.ownedTupleIsFree
  refine wpAny_bind (wpAny_field hz rfl (x := .none) rfl (wpAny_pure ?_))
  simp only [if_true]
  refine wpAny_bind (wpAny_rule ?_)
  refine wpAny_bind (wpAny_field hz rfl (x := .ref TO) rfl ?_)
  refine wpAny_bind (wpAny_setField_rec hz (by simp) fun h₁ hz₁ hs₁ => ?_)
  replace hz₁ : IsZipS h₁ z TI TO .ellipsis := hz₁
  refine wpAny_bind ?_
  simp only [List.zipIdx_cons, List.zipIdx_nil, List.forIn_cons, List.forIn_nil]
  refine wpAny_bind (wpAny_bind (wpAny_onRaise ?_))
  show wpAny _ _ (Builtin.SmallTypes.nextOrEnd (.ref i1)) _ _ _
  refine nextOrEnd_end hh (h1.extBut hs₁.extBut D.i1z) (hl1.extBut hs₁.extBut D.l1z) hx fun h₂ hs₂ => ?_
  have hz₂ : IsZipS h₂ z TI TO .ellipsis := hs₂ _ _ D.i1z.symm hz₁
  refine wpAny_bind (wpAny_setField_rec hz₂ (by simp) fun h₃ hz₃ hs₃ => ?_)
  refine wpAny_bind ?_
  show wpAny _ _ (forIn _ _ _ >>= _) _ _ _
  refine wpAny_bind ?_
  simp only [List.drop_succ_cons, List.drop_zero, List.zipIdx_cons, List.zipIdx_nil, List.forIn_cons, List.forIn_nil]
  have e2 := ((h2.extBut hs₁.extBut D.i2z))
  refine wpAny_bind (wpAny_bind (nextOrEnd_end hh (((h2.extBut hs₁.extBut D.i2z).at fun o e => hs₂ _ _ D.i12.symm e).at fun o e => hs₃.extBut _ _ D.i2z e)
    (IsTuple_at (IsTuple_at (hl2.extBut hs₁.extBut D.l2z) fun o e => hs₂ _ _ D.l2i1 e) fun o e => hs₃.extBut _ _ D.l2z e) hy fun h₄ hs₄ => ?_))
  rw [if_neg (by decide)]
  refine wpAny_pure (wpAny_pure (wpAny_bind (wpAny_rule ?_)))
  show wpAny _ _ (newExc (.type "StopIteration") [] >>= _) _ _ _
  refine wpAny_bind ?_
  simp only [newExc, newTuple]
  refine wpAny_bind (wpAny_newObj_type ?_ (by size_fits))
  refine wpAny_bind (m := firstArgMember _ _) (wpAny_of_eq (a := Value.none) (by first | rfl | (simp only [firstArgMember]; rfl)) ?_)
  refine wpAny_newObj_type ?_ (by size_fits)
  simp only [raiseNew]
  refine wpAny_bind (wpAny_handled ?_)
  rw [hh]
  refine wpAny_bind (wpAny_pure (wpAny_throw ?_))
  refine hE _ _ (fun c o c1 c2 c3 c4 x => Heap.get?_push_of_some _ (Heap.get?_push_of_some _ (hs₄ _ _ c4 (hs₃.extBut _ _ c1 (hs₂ _ _ c3 (hs₁.extBut _ _ c1 x)))))) ⟨_, Heap.get?_push_size _ rfl, rfl⟩
theorem pyNext_zipS_item {z TI TO i1 i2 l1 l2 : Addr} {k1 k2 : Nat} {xs ys : Array Value} {x y a b : Value} {Q : Option Value → Shared → Prop} (D : ZipApart z TI TO i1 i2 l1 l2)
    (hz : IsZipS s.heap z TI TO .none) (hTI : IsPair s.heap TI (.ref i1) (.ref i2)) (hTO : IsPair s.heap TO a b)
    (h1 : s.heap.IsTupleIter i1 l1 k1) (h2 : s.heap.IsTupleIter i2 l2 k2) (hl1 : s.heap.IsTuple l1 xs) (hl2 : s.heap.IsTuple l2 ys) (hx : xs[k1]? = some x) (hy : ys[k2]? = some y)
    (hQ : ∀ h', IsZipS h' z TI TO (rawInt s.heap.objs.size) → IsPair h' TO x y → h'.IsTupleIter i1 l1 (k1 + 1) → h'.IsTupleIter i2 l2 (k2 + 1) → IsPair h' s.heap.objs.size x y → h'.objs.size = s.heap.objs.size + 1 →
      (∀ c o, c ≠ z → c ≠ TO → c ≠ i1 → c ≠ i2 → s.heap.get? c = some o → h'.get? c = some o) → Q (some (.ref s.heap.objs.size)) { s with heap := h' }) :
    wpAny (model prog w) A (pyNext (.ref z)) Q E s := by
  have hT : s.TypeIs (.ref z) "zip" := ⟨_, hz, rfl⟩
  unfold pyNext
  exact wpAny_bind (wpAny_attempt (wpAny_callSpecial?_slot (name := Str.ofString "__next__") hT F.slot_zip_next
    (wpAny_call_entry F.slot_zip_next hT F.entry_zip_next
      (zipS_next_item D hz hTI hTO h1 h2 hl1 hl2 hx hy fun h' a1 a2 a3 a4 a5 a6 a7 => wpAny_pure (hQ h' a1 a2 a3 a4 a5 a6 a7)) (F.args_zip_next_1 _))))
theorem pyNext_zipS_end {z TI TO i1 i2 l1 l2 : Addr} {k1 k2 : Nat} {xs ys : Array Value} {a b : Value} {Q : Option Value → Shared → Prop} (hh : A.handled = none) (D : ZipApart z TI TO i1 i2 l1 l2)
    (hz : IsZipS s.heap z TI TO .none) (hTI : IsPair s.heap TI (.ref i1) (.ref i2)) (hTO : IsPair s.heap TO a b)
    (h1 : s.heap.IsTupleIter i1 l1 k1) (h2 : s.heap.IsTupleIter i2 l2 k2) (hl1 : s.heap.IsTuple l1 xs) (hl2 : s.heap.IsTuple l2 ys) (hx : xs[k1]? = none) (hy : ys[k2]? = none)
    (hQ : ∀ h', (∀ c o, c ≠ z → c ≠ TO → c ≠ i1 → c ≠ i2 → s.heap.get? c = some o → h'.get? c = some o) → Q none { s with heap := h' }) : wpAny (model prog w) A (pyNext (.ref z)) Q E s := by
  have hT : s.TypeIs (.ref z) "zip" := ⟨_, hz, rfl⟩
  unfold pyNext
  refine wpAny_bind (wpAny_attempt (wpAny_callSpecial?_slot (name := Str.ofString "__next__") hT F.slot_zip_next
    (wpAny_call_entry F.slot_zip_next hT F.entry_zip_next (zipS_next_end hh D hz hTI hTO h1 h2 hl1 hl2 hx hy fun h' e hk he => ?_) (F.args_zip_next_1 _))))
  obtain ⟨o, ho, hc⟩ := he
  refine wpAny_bind (wpAny_isInstance (T := "StopIteration") (b := true) ⟨o, ho, hc⟩ isSubtype_stop ?_)
  exact wpAny_pure (hQ _ hk)
theorem letGo_zipS {elts : List Expr} {x1 : Nat} {pos : Pos} {z TI TO T : Addr} {Q : Unit → Shared → Prop} (hz : IsZipS s.heap z TI TO (rawInt T))
    (hQ : ∀ h', IsZipS h' z TI TO .none → Heap.SameBut z s.heap h' → Q () { s with heap := h' }) :
    wpAny (model prog w) A (letOwnedTupleGo (.Tuple elts x1 pos) (.ref z) (.ref T)) Q E s := by
  unfold letOwnedTupleGo
  refine wpAny_bind (wpAny_load hz ?_)
  show wpAny _ _ (if (["enumerate", "zip", "dict_itemiterator", "dict_reverseitemiterator", "odict_iterator", "itertools.zip_longest", "itertools.pairwise"].contains "zip" &&
      (#[rawInt T, .bool false, .bool true, .ref TI, .ref TO] : Array Value)[0]? == some (rawInt T)) = true then _ else _) Q E s
  rw [if_pos (by simp)]
  refine wpAny_bind (wpAny_rule ?_)
  show wpAny _ _ (setField (.ref z) 0 .none) Q E s
  exact wpAny_setField_rec hz (by simp) fun h' hz' hs' => hQ h' hz' hs'
theorem pyIter_zipS {z TI TO : Addr} {f0 : Value} {Q : Value → Shared → Prop} (hz : IsZipS s.heap z TI TO f0) (h : Q (.ref z) s) : wpAny (model prog w) A (pyIter (.ref z)) Q E s := by
  have hT : s.TypeIs (.ref z) "zip" := ⟨_, hz, rfl⟩
  refine wpAny_pyIter_slot hT F.slot_zip_iter (wpAny_call_entry F.slot_zip_iter hT F.entry_zip_iter ?_ (F.args_zip_iter_1 _))
  show wpAny _ _ (ret (.ref z)) _ _ s
  exact wpAny_pure ⟨_, rfl, "zip", _, hT, F.slot_zip_next.lookup, h⟩
end
abbrev zipSH5 (h : Heap) (l1 l2 : Addr) : Heap := (RZ.zipTH4 h l1 l2).push { cls := .type "zip", data := .fields #[.none, .bool false, .bool true, .ref (RZ.zipTH2 h l1 l2).objs.size, .ref (RZ.zipTH3 h l1 l2).objs.size] }
theorem typeCall_zipS (a b c : Value) : checkTypeCall "zip" ⟨[a, b], [(Str.ofString "strict", c)]⟩ = pure () := by kernel_rfl
theorem newCall_zipS (a b c : Value) : checkBuiltinCall "zip.__new__" ⟨[.type "zip", a, b], [(Str.ofString "strict", c)]⟩ = pure () := by kernel_rfl
theorem args_initS (obj a b c : Value) : argsOk "object.__init__" ⟨[obj, a, b], [(Str.ofString "strict", c)]⟩ := by unfold argsOk; kernel_rfl
theorem meets_zipS_new (l1 l2 : Addr) (xs ys : Array Value) :
    Meets (Builtin.«zip.__new__» ⟨[.type "zip", .ref l1, .ref l2], [(Str.ofString "strict", .bool true)]⟩) (fun _ R s => s.heap.IsTuple l1 xs ∧ s.heap.IsTuple l2 ys ∧
      R (.ok (.ret (.ref (RZ.zipTH4 s.heap l1 l2).objs.size))) { s with heap := zipSH5 s.heap l1 l2 }) :=
  .of_wp fun prog w A R s h => by
    obtain ⟨hp, g, d, tk, os⟩ := s; obtain ⟨hl1, hl2, h⟩ := h
    have hsub := sub_zip
    have hL1 : Heap.IsTuple (Shared.heap ⟨hp, g, d, tk, os⟩) l1 xs := hl1
    have hL2 : Heap.IsTuple (Shared.heap ⟨hp.push { cls := .type "tuple_iterator", data := .fields #[.ref l1, .int 0 0] }, g, d, tk, os⟩) l2 ys := Heap.IsTuple.push hl2 _
    have e2 : (Str.ofString "strict" != ("strict" : Str)) = false := by decide +kernel
    wp_walk using wpAny_pyIter_tuple hL1, wpAny_pyIter_tuple hL2
    exact ⟨_, rfl, h⟩
section
variable {prog : Program} {w : World} {A : Around} {E : Value → Shared → Prop} {s : Shared}
theorem call_zipS {l1 l2 : Addr} {xs ys : Array Value} {Q : Value → Shared → Prop} (hl1 : s.heap.IsTuple l1 xs) (hl2 : s.heap.IsTuple l2 ys)
    (h : ∀ h', IsZipS h' (s.heap.objs.size + 4) (s.heap.objs.size + 2) (s.heap.objs.size + 3) .none → IsPair h' (s.heap.objs.size + 2) (.ref s.heap.objs.size) (.ref (s.heap.objs.size + 1)) →
      IsPair h' (s.heap.objs.size + 3) .none .none → h'.IsTupleIter s.heap.objs.size l1 0 → h'.IsTupleIter (s.heap.objs.size + 1) l2 0 → h'.objs.size = s.heap.objs.size + 5 →
      (∀ c o, s.heap.get? c = some o → h'.get? c = some o) → Q (.ref (s.heap.objs.size + 4)) { s with heap := h' }) :
    wpAny (model prog w) A (call (.type "zip") [.ref l1, .ref l2] [(Str.ofString "strict", .bool true)]) Q E s := by
  refine callType_newKw F.called_zip (by decide) (typeCall_zipS _ _ _) (newCall_zipS _ _ _) (fun obj => args_initS obj _ _ _) F.entry_zip_new
    (meets_zipS_new l1 l2 xs ys) ⟨hl1, hl2, ?_⟩
  have z1 : (RZ.zipTH1 s.heap l1).objs.size = s.heap.objs.size + 1 := Heap.size_push ..
  have z2 : (RZ.zipTH2 s.heap l1 l2).objs.size = s.heap.objs.size + 2 := by rw [Heap.size_push, z1]
  have z3 : (RZ.zipTH3 s.heap l1 l2).objs.size = s.heap.objs.size + 3 := by rw [Heap.size_push, z2]
  have z4 : (RZ.zipTH4 s.heap l1 l2).objs.size = s.heap.objs.size + 4 := by rw [Heap.size_push, z3]
  have z5 : (zipSH5 s.heap l1 l2).objs.size = s.heap.objs.size + 5 := by rw [Heap.size_push, z4]
  have g5 : (zipSH5 s.heap l1 l2).get? (RZ.zipTH4 s.heap l1 l2).objs.size = some _ := Heap.get?_push_size _ rfl
  have g4 : (zipSH5 s.heap l1 l2).get? (RZ.zipTH3 s.heap l1 l2).objs.size = some _ := Heap.get?_push_of_some _ (Heap.get?_push_size _ rfl)
  have g3 : (zipSH5 s.heap l1 l2).get? (RZ.zipTH2 s.heap l1 l2).objs.size = some _ := Heap.get?_push_of_some _ (Heap.get?_push_of_some _ (Heap.get?_push_size _ rfl))
  have g2 : (zipSH5 s.heap l1 l2).get? (RZ.zipTH1 s.heap l1).objs.size = some _ := Heap.get?_push_of_some _ (Heap.get?_push_of_some _ (Heap.get?_push_of_some _ (Heap.get?_push_size _ rfl)))
  have g1 : (zipSH5 s.heap l1 l2).get? s.heap.objs.size = some _ := Heap.get?_push_of_some _ (Heap.get?_push_of_some _ (Heap.get?_push_of_some _ (Heap.get?_push_of_some _ (Heap.get?_push_size _ rfl))))
  show _ ∧ _
  rw [z2, z3, z4] at g5
  rw [z1, z2] at g3
  rw [z3] at g4
  rw [z1] at g2
  rw [z4]
  exact ⟨⟨_, g5, rfl⟩, h _ g5 g3 g4 ⟨_, g1, rfl, rfl⟩ ⟨_, g2, rfl, rfl⟩ z5 fun c o x =>
    Heap.get?_push_of_some _ (Heap.get?_push_of_some _ (Heap.get?_push_of_some _ (Heap.get?_push_of_some _ (Heap.get?_push_of_some _ x))))⟩
end
/-- two tuples of one length -/
def ItzS (K : PySem.W.Frag) (a b : Addr) : It :=
  ⟨(RZ.ItzT K a b).go, (RZ.ItzT K a b).yld, fun i H => ∃ xs ys : List V, SqT K H a xs ∧ SqT K H b ys ∧ xs.length ≤ i ∧ ys.length ≤ i⟩
theorem turn_zipS {P : Program} {w : World} {K : PySem.W.Frag} {elts : List Expr} {kk : Nat} {tpos : Pos} {a b z TI TO i1 i2 : Addr} (D : ZipApart z TI TO i1 i2 a b) :
    Turn P w K (.Tuple elts kk tpos) (ItzS K a b) [z, TI, TO, i1, i2] z (fun i h => IsZipS h z TI TO .none ∧ IsPair h TI (.ref i1) (.ref i2) ∧ (∃ x y, IsPair h TO x y) ∧ h.IsTupleIter i1 a i ∧ h.IsTupleIter i2 b i) where
  mem := by simp
  obj := fun i h st c hc => by
    obtain ⟨hz, hTI, ⟨x, y, hTO⟩, ⟨o1, e1, _, d1⟩, ⟨o2, e2, _, d2⟩⟩ := st
    have e' : c = z ∨ c = TI ∨ c = TO ∨ c = i1 ∨ c = i2 := by simpa using hc
    rcases e' with q | q | q | q | q
    · rw [q]; exact ⟨_, hz, fun v q => nomatch q⟩
    · rw [q]; exact ⟨_, hTI, fun v q => nomatch q⟩
    · rw [q]; exact ⟨_, hTO, fun v q => nomatch q⟩
    · rw [q]; exact ⟨o1, e1, fun v q => by rw [d1] at q; cases q⟩
    · rw [q]; exact ⟨o2, e2, fun v q => by rw [d2] at q; cases q⟩
  keep := fun i h h' st k => by
    obtain ⟨hz, hTI, ⟨x, y, hTO⟩, h1, h2⟩ := st
    exact ⟨k z (by simp) _ hz, k TI (by simp) _ hTI, ⟨x, y, k TO (by simp) _ hTO⟩, h1.at fun o q => k i1 (by simp) o q, h2.at fun o q => k i2 (by simp) o q⟩
  item := by
    intro X hP hw hK hc i pins s σ H E I hf st hg
    subst hP hw hK
    obtain ⟨hz, hTI, ⟨x0, y0, hTO⟩, h1, h2⟩ := st
    obtain ⟨xs, ys, x, y, hqx, hqy, hx, hy⟩ := hg
    obtain ⟨its, rv, p, _⟩ := I.tuple hqx
    obtain ⟨its2, rv2, p2, _⟩ := I.tuple hqy
    obtain ⟨u, hu, ru⟩ := rv.get hx
    obtain ⟨u2, hu2, ru2⟩ := rv2.get hy
    have hzl : z < s.heap.objs.size := Heap.lt_size hz
    refine pyNext_zipS_item D hz hTI hTO h1 h2 p p2 (x := u) (y := u2) (by simpa using hu) (by simpa using hu2) fun h' z' TO' h1' h2' hT hsz hk => ?_
    refine ⟨_, rfl, letGo_zipS (s := { s with heap := h' }) z' fun h'' z'' sb => ?_⟩
    have hT2 : h''.get? s.heap.objs.size = some { cls := .type "tuple", data := .seq #[u, u2] } := (sb.2 _ (Nat.ne_of_gt hzl)).trans hT
    have new : ObjOk X.prog X.w (upd H s.heap.objs.size (.tup [x, y])) h'' s.heap.objs.size (.tup [x, y]) :=
      ⟨by show 2 ≤ sizeLine; decide, [u, u2], .cons ru (.cons ru2 .nil), ⟨_, hT2, rfl, _, rfl⟩⟩
    have I1 : Inv X pins σ (upd H s.heap.objs.size (.tup [x, y])) { s with heap := h'' } :=
      I.turnedNew (t' := s.toks) (ch := [z, TI, TO, i1, i2]) (fun c o hb q => (sb.2 c (fun q' => hb (by simp [q']))).trans (hk c o (fun q' => hb (by simp [q'])) (fun q' => hb (by simp [q'])) (fun q' => hb (by simp [q'])) (fun q' => hb (by simp [q'])) q)) hf (Nat.le_refl _) new
    refine ⟨.ref s.heap.objs.size, _, I1, rfl, ⟨_, x, y, rfl, I.hok.fresh (Nat.le_refl _), rfl, fun l hl => by rw [I.tuple_inj hl hqx]; exact hx, fun l hl => by rw [I.tuple_inj hl hqy]; exact hy⟩, ⟨z'', ?_, ⟨u, u2, ?_⟩, ?_, ?_⟩, fun c hcm => ?_⟩
    · exact (sb.2 _ D.TIz).trans (hk _ _ D.TIz D.TITO D.TIi1 D.TIi2 hTI)
    · exact (sb.2 _ D.TOz).trans TO'
    · exact h1'.at fun o q => (sb.2 _ D.i1z).trans q
    · exact h2'.at fun o q => (sb.2 _ D.i2z).trans q
    · have hlt : c < s.heap.objs.size := by
        have e' : c = z ∨ c = TI ∨ c = TO ∨ c = i1 ∨ c = i2 := by simpa using hcm
        rcases e' with q | q | q | q | q
        · rw [q]; exact hzl
        · rw [q]; exact Heap.lt_size hTI
        · rw [q]; exact Heap.lt_size hTO
        · rw [q]; obtain ⟨_, e1, _⟩ := h1; exact Heap.lt_size e1
        · rw [q]; obtain ⟨_, e2, _⟩ := h2; exact Heap.lt_size e2
      rw [upd_ne (Nat.ne_of_lt hlt)]
      exact (hf c hcm).1
  done := by
    intro X hP hw hK hc i pins s σ H E I hf st hg
    subst hP hw hK
    obtain ⟨hz, hTI, ⟨x0, y0, hTO⟩, h1, h2⟩ := st
    obtain ⟨xs, ys, hqx, hqy, hend, hend2⟩ := hg
    obtain ⟨its, rv, p, _⟩ := I.tuple hqx
    obtain ⟨its2, rv2, p2, _⟩ := I.tuple hqy
    have l1 := rv.length
    have l2 := rv2.length
    have he1 : its.toArray[i]? = none := by simp; omega
    have he2 : its2.toArray[i]? = none := by simp; omega
    exact pyNext_zipS_end (I.ok.hd hc) D hz hTI hTO h1 h2 p p2 he1 he2 fun h' hk => ⟨rfl, I.turnedL (t' := s.toks) (ch := [z, TI, TO, i1, i2]) (fun c o hb q =>
      hk c o (fun q' => hb (by simp [q'])) (fun q' => hb (by simp [q'])) (fun q' => hb (by simp [q'])) (fun q' => hb (by simp [q'])) q) hf⟩
  self := fun A i s Q E st h => pyIter_zipS st.1 h


theorem pi_zipS {X : Cx} {e e2 : Expr} {ta : TA} {p pos tpos kp kpos : Pos} {elts : List Expr} {kk j : Nat} (hg : Gl X "zip") (hm : X.mg "zip" = none) (ha : PA X [e, e2] ta)
    (hs : starEach [e, e2] X.env = (false, eval e X.env) :: starEach [e2] X.env := by rfl) (hpl : ((backTo pos (starEach [e, e2] X.env)).any (·.1) || (backToKw pos (keywordEach [⟨some (Str.ofString "strict"), .Constant (.bool true) j kp, kpos⟩] X.env)).any (·.1.isNone)) = false := by rfl) :
    PI X (.Tuple elts kk tpos) (.Call (.Name "zip" p) [e, e2] [⟨some (Str.ofString "strict"), .Constant (.bool true) j kp, kpos⟩] pos)
      (fun σ H R => ta σ H fun vs H1 => ∃ a b xs ys, vs = [.ref a, .ref b] ∧ SqT X.K H1 a xs ∧ SqT X.K H1 b ys ∧ R (ItzS X.K a b) H1) := by
  refine ⟨fun pins s σ H R I h => ?_⟩
  refine wpAny_Call_Name_kw (ld_blt I hg hm PyProof.Rows.boot_zip (callWith_typeKw rfl (thn (ha.run pos pins s σ H _ I h) fun us s1 ⟨vs, H1, I1, r1, q1⟩ => ?_) hpl hs))
  · obtain ⟨a, b, xs, ys, ex, hqx, hqy, q⟩ := q1
    subst ex
    cases r1 with
    | cons r rr =>
      cases rr with
      | cons r' rr =>
        cases rr
        cases r
        cases r'
        refine thn ((pk_cons (X := X) (kws := []) (pe_bl (X := X) (b := true) (j := j) (pos := kp)) pk_nil).run pos pins s1 σ H1 (fun vs H2 => vs = [V.bl true] ∧ H2 = H1) I1 ⟨rfl, rfl⟩) fun ks s2 ⟨zs, H2, I2, r2, e2, eH⟩ => ?_
        subst e2 eH
        cases r2 with
        | cons rk rr =>
          cases rr
          cases rk
          have fresh5 : ∀ c, c ∈ [s2.heap.objs.size + 4, s2.heap.objs.size + 2, s2.heap.objs.size + 3, s2.heap.objs.size, s2.heap.objs.size + 1] → FpOk X pins H2 c := fun c hcm => by
            have e' : c = s2.heap.objs.size + 4 ∨ c = s2.heap.objs.size + 2 ∨ c = s2.heap.objs.size + 3 ∨ c = s2.heap.objs.size ∨ c = s2.heap.objs.size + 1 := by simpa using hcm
            have hle : s2.heap.objs.size ≤ c := by
              rcases e' with z | z | z | z | z
              · rw [z]; exact Nat.le_add_right _ _
              · rw [z]; exact Nat.le_add_right _ _
              · rw [z]; exact Nat.le_add_right _ _
              · rw [z]; exact Nat.le_refl _
              · rw [z]; exact Nat.le_add_right _ _
            exact I2.fpOk hle (I2.hok.fresh hle)
          obtain ⟨its, rv, p1, _⟩ := I2.tuple hqx
          obtain ⟨its2, rv2, p2, _⟩ := I2.tuple hqy
          obtain ⟨o1, ho1, _⟩ := id p1
          obtain ⟨o2, ho2, _⟩ := id p2
          refine call_zipS (show s2.heap.IsTuple a its.toArray from p1) (show s2.heap.IsTuple b its2.toArray from p2) fun h' hz hTI hTO h1 h2 hsz hk => pyIter_zipS hz ?_
          have I3 : Inv X pins σ H2 { s2 with heap := h' } := I2.kept (t' := s2.toks) hk
          exact ⟨s2.heap.objs.size + 4, [s2.heap.objs.size + 4, s2.heap.objs.size + 2, s2.heap.objs.size + 3, s2.heap.objs.size, s2.heap.objs.size + 1], _, _, H2, rfl, I3, turn_zipS (PySem.W.ktu_apart s2.heap.objs.size a b (Heap.lt_size ho1) (Heap.lt_size ho2)), ⟨hz, hTI, ⟨_, _, hTO⟩, h1, h2⟩, fresh5, q⟩
def mZipS (fs : MS → Out (List RV)) : MS → Out MI := fun s => (fs s).bind fun rs s1 => match rs with
  | [.v (.tup xs), .v (.tup ys)] => if xs.length = ys.length then .ok ⟨List.zipWith (fun x y => .tup [x, y]) xs ys, fun _ => True⟩ s1 else .bad
  | _ => .bad
section
variable {X : Cx} {R : RC} {W : WX} {pos p tpos kp kpos : Pos} {e e2 : Expr} {elts : List Expr} {kk j : Nat}
theorem ji_zipS {fs : MS → Out (List RV)} (hm : X.mg "zip" = none) (ha : JA X R W [e, e2] fs) (hg : Gl X "zip" := by rfl) (hs : starEach [e, e2] X.env = (false, eval e X.env) :: starEach [e2] X.env := by rfl) (hpl : ((backTo pos (starEach [e, e2] X.env)).any (·.1) || (backToKw pos (keywordEach [⟨some (Str.ofString "strict"), .Constant (.bool true) j kp, kpos⟩] X.env)).any (·.1.isNone)) = false := by rfl) :
    JI X R W (.Tuple elts kk tpos) (.Call (.Name "zip" p) [e, e2] [⟨some (Str.ofString "strict"), .Constant (.bool true) j kp, kpos⟩] pos) (mZipS fs) := fun hK F =>
  PI.imp (pi_zipS hg hm (ha hK F) hs hpl) fun σ H Rr h => (first (M := rlR) h).mono fun vs H1 ⟨G, rs, s1, G1, w, rr, o⟩ => by
    have rr : RRs R σ H G1 H1 rs vs := rr
    split at o
    · rename_i xs ys _
      obtain ⟨v, t, rfl, r1, v2, t2, rfl, r2, e⟩ := rr
      have e : t2 = [] := e
      subst e
      split at o
      · rename_i hl
        have r1 : VR R.K G1 H1 (.tup xs) v := r1
        have r2 : VR R.K G1 H1 (.tup ys) v2 := r2
        obtain ⟨a, us, rfl, k1, q1⟩ := r1.tup
        obtain ⟨b, ws, rfl, k2, q2⟩ := r2.tup
        refine ⟨a, b, us, ws, rfl, by rw [← hK]; exact k1, by rw [← hK]; exact k2, o _ _ _ w.rel w.evo ?_⟩
        intro F2 G2 H2 s2 σ2 rel ev ck
        have r1' : VR R.K G2 H2 (.tup xs) (.ref a) := VR.mono ev.mo _ _ r1
        have r2' : VR R.K G2 H2 (.tup ys) (.ref b) := VR.mono ev.mo _ _ r2
        obtain ⟨a', us2, z1, l1, p1⟩ := r1'.tup
        obtain ⟨b', ws2, z2, l2, p2⟩ := r2'.tup
        cases z1
        cases z2
        rw [hK] at l1 l2
        have hl2 : (List.zipWith (fun x y => MV.tup [x, y]) xs ys).length = xs.length := by simp; omega
        refine ⟨fun i hi => ?_, ?_, fun i x v H3 hx y => ?_⟩
        · have hi : i < xs.length := by rw [← hl2]; exact hi
          obtain ⟨x, hx, _⟩ := p1.get (List.getElem?_eq_getElem (by omega : i < xs.length))
          obtain ⟨y, hy, _⟩ := p2.get (List.getElem?_eq_getElem (by omega : i < ys.length))
          exact ⟨us2, ws2, x, y, l1, l2, hx, hy⟩
        · show (ItzS X.K a b).stop (List.zipWith (fun x y => MV.tup [x, y]) xs ys).length H2
          rw [hl2]
          exact ⟨us2, ws2, l1, l2, by rw [← p1.length]; omega, by rw [← p2.length]; omega⟩
        · obtain ⟨T, x1, y1, rfl, hT, rfl, f1, f2⟩ := y
          have hx : (List.zipWith (fun x y => MV.tup [x, y]) xs ys)[i]? = some x := hx
          rw [List.getElem?_zipWith] at hx
          split at hx
          · rename_i x0 y0 g1 g2
            cases hx
            obtain ⟨u, hu, vu⟩ := p1.get g1
            obtain ⟨u', hu', vu'⟩ := p2.get g2
            rw [f1 us2 l1] at hu; cases hu
            rw [f2 ws2 l2] at hu'; cases hu'
            exact .inr ⟨T, _, _, rfl, rfl, hT, rfl, VRs.cons vu (VRs.cons vu' (VRs.nil (K := R.K)))⟩
          · cases hx
      · exact o.elim
    · exact o.elim
end
end Mi
set_option Elab.async false
set_option linter.all false
set_option maxRecDepth 100000
set_option maxHeartbeats 4000000
namespace Mi
open PySem PySem.Spec PyProof.Rows L2
/-! a dict is walked: locked meanwhile -/
theorem Evo.updLate {P : Nat → Prop} {G0 G : Gh} {H0 H : Hp} {a : Addr} {o : HO} (e : Evo P G0 H0 G H) (g : G a ≠ some .frz) (g0 : G a ≠ none) (nf : ∀ x u, H0 a ≠ some (.frz x u)) (nt : NT H a := by first | exact ntN (by assumption) | exact ntO (by assumption)) : Evo P G0 H0 G (upd H a o) := by
  refine ⟨fun b u hb gb => ?_, fun b gb => ?_, e.ob, e.fl, fun b u hb => ?_⟩
  · obtain ⟨h1, g1⟩ := e.un b u hb gb
    exact ⟨by rw [upd_ne fun z => g0 (by rw [← z]; exact g1)]; exact h1, g1⟩
  · obtain ⟨g1, h1⟩ := e.fz b gb
    exact ⟨g1, by rw [upd_ne fun z => g (by rw [← z]; exact g1)]; exact h1⟩
  · by_cases z : b = a
    · subst z
      obtain ⟨u', h1, k1⟩ := e.tk b u hb
      exact ⟨_, upd_same, fun q => by
        rcases q with ⟨x, w, q⟩ | ⟨xs, q⟩
        · exact absurd (q ▸ hb) (nf x w)
        · exact absurd (by rw [k1 (.inr ⟨xs, q⟩), q] at h1; exact h1) (nt xs)⟩
    · obtain ⟨u', h1, k1⟩ := e.tk b u hb
      exact ⟨u', by rw [upd_ne z]; exact h1, k1⟩
section
variable {R : RC} {F : FI} {σ : L2.St} {G : Gh} {H : Hp} {s : MS} {Hs : Hp}
/-- a write at a place -/
theorem put_okU {r : RV} {v : V} {c c' : C} (rel : Rel R F G s σ H) (rr : RR R σ Hs G H r v) (e : place s r = some c) (nf0 : ∀ a, v = .ref a → ∀ x u, F.H0 a ≠ some (.frz x u)) : ∃ a, v = .ref a ∧ CR R.K G H c a ∧ (∃ q, G a = some q ∧ q ≠ .frz) ∧
    ∀ ho, CR R.K G (upd H a ho) c' a → Rel R F G (putC s r c') σ (upd H a ho) := by
  cases r with
  | own c => cases e
  | loc i =>
    simp only [place] at e
    split at e
    · rename_i c0 hc
      cases e
      obtain ⟨u, q, a, ev, g, cr⟩ := rel.env i _ hc
      have rr' : σ[i]? = some (some v) := rr
      rw [rr'] at q; cases q
      subst ev
      refine ⟨a, rfl, cr, ⟨_, g, by simp⟩, fun ho new => ?_⟩
      have m : Mo G H G (upd H a ho) := Mo.upd (by rw [g]; simp) cr.nt
      refine ⟨rel.hp.upd (.inr ⟨i, g⟩) cr.nt, by simpa [putC] using rel.len, fun j sv ej => ?_, rel.since.updLate (by rw [g]; simp) (by rw [g]; simp) (nf0 _ rfl) cr.nt, rel.base, rel.le, rel.ent⟩
      have hl : i < s.env.length := by rw [rel.len]; exact (List.getElem?_eq_some_iff.mp rr').1
      by_cases z : j = i
      · subst z
        simp only [putC, List.getElem?_set_self hl] at ej
        cases ej
        exact ⟨_, rr', a, rfl, g, new⟩
      · simp only [putC, List.getElem?_set_ne (Ne.symm z)] at ej
        obtain ⟨w, q, k⟩ := rel.env j sv ej
        refine ⟨w, q, ?_⟩
        cases sv with
        | v x => exact VR.mono m x w k
        | own c =>
          obtain ⟨b, q2, gb, k⟩ := k
          exact ⟨b, q2, gb, k.mono m (upd_ne fun y => z (by rw [y, g] at gb; cases gb; rfl))⟩
    · cases e
  | fld n f =>
    simp only [place] at e
    split at e
    · rename_i cl fs hn
      split at e
      · rename_i c0 hc
        cases e
        obtain ⟨b, ev, gb⟩ := rr
        obtain ⟨a, ga, dx, hfs, ha, hlen, hf, hno, hln, hnd, hks⟩ := rel.hp.objs n _ hn
        obtain ⟨a', cl2, fs2, dx', hfs', nm, ga', hn2, ha', hnm, hl, _⟩ := rel.hp.fldOk b n f gb
        have ea := rel.hp.uniq _ _ _ ga ga'
        subst ea
        rw [hn] at hn2
        cases hn2
        rw [ha] at ha'
        cases ha'
        have fs1 := hf f _ hnm
        rw [hc, hl] at fs1
        obtain ⟨b', hb', gb', cr⟩ := fs1
        cases hb'
        subst ev
        refine ⟨b, rfl, cr, ⟨_, gb, by simp⟩, fun ho new => ?_⟩
        have m : Mo G H G (upd H b ho) := Mo.upd (by rw [gb]; simp) cr.nt
        have nab : a ≠ b := fun z => by rw [z, gb] at ga; cases ga
        have flt : f < fs.length := (List.getElem?_eq_some_iff.mp hc).1
        refine ⟨?_, rel.len, ?_, rel.since.updLate (by rw [gb]; simp) (by rw [gb]; simp) (nf0 _ rfl) cr.nt, rel.base, ?_, rel.ent⟩
        · show HRel R G (putFld s.hp n f _) _
          unfold putFld
          rw [hn]
          refine rel.hp.put ga (.inr ⟨f, gb⟩) ⟨dx, hfs, (upd_ne nab).trans ha, by simpa using hlen, fun g nm' eg => ?_, hno, hln, hnd, hks⟩ (fun c g gc => ?_) cr.nt
          · by_cases z : g = f
            · subst z
              rw [List.getElem?_set_self flt]
              rw [hnm] at eg; cases eg
              exact ⟨b, hl, gb, new⟩
            · rw [List.getElem?_set_ne (Ne.symm z)]
              exact (hf g nm' eg).mono m fun d gd => ⟨gd, upd_ne fun y => z (by rw [y, gb] at gd; cases gd; rfl)⟩
          · obtain ⟨a3, cl3, fs3, dx3, hfs3, nm3, ga3, hn3, ha3, q3⟩ := rel.hp.fldOk c n g gc
            have ea3 := rel.hp.uniq _ _ _ ga ga3
            subst ea3
            rw [hn] at hn3; cases hn3
            rw [ha] at ha3; cases ha3
            obtain ⟨q31, q32, C, q33⟩ := q3
            refine ⟨_, _, dx, hfs, nm3, rfl, (upd_ne nab).trans ha, q31, q32, ?_⟩
            by_cases z : g = f
            · subst z; exact ⟨_, List.getElem?_set_self flt⟩
            · exact ⟨C, by rw [List.getElem?_set_ne (Ne.symm z)]; exact q33⟩
        · exact env_keep m rel.env fun d i gd => ⟨gd, upd_ne fun y => by rw [y, gb] at gd; cases gd⟩
        · show F.base ≤ (putFld s.hp n f _).length
          unfold putFld
          rw [hn]
          simpa using rel.le
      · cases e
    · cases e
  | v x =>
    cases x with
    | ref n =>
      simp only [place] at e
      split at e
      · rename_i c0 hc
        cases e
        have rr' : VR R.K G H (.ref n) v := rr
        unfold VR at rr'
        obtain ⟨a, q, g⟩ := rr'
        obtain ⟨a', ga', cr⟩ := rel.hp.objs n _ hc
        have ea := rel.hp.uniq _ _ _ g ga'
        subst ea
        subst q
        refine ⟨a, rfl, cr, ⟨_, g, by simp⟩, fun ho new => ?_⟩
        have m : Mo G H G (upd H a ho) := Mo.upd (by rw [g]; simp) cr.nt
        refine ⟨rel.hp.put g (.inl rfl) new (fun c f gc => ?_) cr.nt, rel.len, env_keep m rel.env fun d i gd => ⟨gd, upd_ne fun y => by rw [y, g] at gd; cases gd⟩, rel.since.updLate (by rw [g]; simp) (by rw [g]; simp) (nf0 _ rfl) cr.nt, rel.base, by simpa [putC] using rel.le, rel.ent⟩
        obtain ⟨a3, cl3, fs3, dx3, hfs3, nm3, ga3, hn3, q3⟩ := rel.hp.fldOk c n f gc
        rw [hc] at hn3; cases hn3
      · cases e
    | non => cases e
    | bl b => cases e
    | int i => cases e
    | str s => cases e
    | tup xs => cases e
    | lst xs => cases e
    | dct a b => cases e
theorem place_rr {r : RV} {c : C} (rel : Rel R F G s σ H) (e : place s r = some c) : ∃ v, RR R σ Hs G H r v := by
  cases r with
  | own c => cases e
  | loc i =>
    simp only [place] at e
    split at e
    · rename_i c0 hc
      obtain ⟨u, q, _⟩ := rel.env i _ hc
      exact ⟨u, q⟩
    · cases e
  | fld n f =>
    simp only [place] at e
    split at e
    · rename_i cl fs hn
      split at e
      · rename_i c0 hc
        obtain ⟨a, ga, dx, hfs, ha, hlen, hf, _⟩ := rel.hp.objs n _ hn
        have hl : f < fs.length := (List.getElem?_eq_some_iff.mp hc).1
        have hl2 : f < (R.flds cl).length := by rw [← hlen]; exact hl
        have k := hf f _ (List.getElem?_eq_getElem hl2)
        rw [hc] at k
        obtain ⟨b, _, gb, _⟩ := k
        exact ⟨.ref b, b, rfl, gb⟩
      · cases e
    · cases e
  | v x =>
    cases x with
    | ref n =>
      simp only [place] at e
      split at e
      · rename_i c0 hc
        obtain ⟨a, ga, _⟩ := rel.hp.objs n _ hc
        refine ⟨.ref a, ?_⟩
        show VR R.K G H (.ref n) (.ref a)
        unfold VR
        exact ⟨a, rfl, ga⟩
      · cases e
    | non => cases e
    | bl b => cases e
    | int i => cases e
    | str s => cases e
    | tup xs => cases e
    | lst xs => cases e
    | dct a b => cases e
/-- a place keeps its address -/
theorem place_later {r : RV} {c : C} {v : V} {G2 : Gh} {H2 Hs2 : Hp} (e : place s r = some c) (rr : RR R σ Hs G H r v) (m : Mo G H G2 H2) (fl : ∀ a n f, G a = some (.fld n f) → G2 a = some (.fld n f)) : RR R σ Hs2 G2 H2 r v := by
  cases r with
  | own c => cases e
  | loc i => exact rr
  | fld n f => obtain ⟨b, q, g⟩ := rr; exact ⟨b, q, fl b n f g⟩
  | v x => exact VR.mono m x v rr
end
noncomputable def mLk (pk fe : ME) : ME := fun s => match pk s with
  | .ok r _ => match place s r with
    | some (.dict kvs) => match fe (putC s r (.lock kvs)) with
      | .ok v s2 => match place s2 r with
        | some (.lock _) => .ok v (putC s2 r (.dict kvs))
        | _ => .bad
      | _ => .bad
    | _ => .bad
  | _ => .bad
section
variable {X : Cx} {R : RC} {W : WX} {e : Expr} {pk fe : ME}
theorem je_lk (h : JE X R W e fe) : JE X R W e (mLk pk fe) := fun hK F => PE.imp (pe_lock (h hK F)) fun σ H Q ⟨G, s, rel, o⟩ => by
  unfold mLk at o
  split at o
  · rename_i r s0 _
    split at o
    · rename_i kvs hp
      obtain ⟨v0, rr0⟩ := place_rr (Hs := H) rel hp
      obtain ⟨d, rfl, cr, ⟨q, gq, nf⟩, put⟩ := put_ok (c' := .lock kvs) rel rr0 hp
      obtain ⟨ho, hd, dk, rfl, hk, hv⟩ := cr
      have gn : G d ≠ some .frz := fun z => nf (by rw [z] at gq; exact (Option.some.inj gq).symm)
      have g0 : G d ≠ none := by rw [gq]; simp
      refine ⟨d, .dK dk, hd, trivial, fun od => ?_⟩
      have mu : Mo G H G (upd H d (.frz od (.dK dk))) := Mo.upd gn
      have rel1 := put (.frz od (.dK dk)) ⟨od, .dK dk, upd_same, dk, rfl, hk, VRs.mono mu _ _ hv⟩
      refine ⟨G, putC s r (.lock kvs), rel1, ?_⟩
      split at o
      · rename_i v s2 hfe
        rw [hfe]
        intro G' H' v' rel2 ev rr2
        have hfz : H' d = some (.frz od (.dK dk)) := by
          obtain ⟨o', e1, e2⟩ := ev.tk d _ upd_same
          rw [e2 (.inl ⟨_, _, rfl⟩)] at e1
          exact e1
        refine ⟨hfz, ?_⟩
        split at o
        · rename_i kvs2 hp2
          have rrd : RR R σ H G' H' r (.ref d) := place_later (Hs2 := H) hp (place_later (Hs2 := H) hp rr0 mu fun _ _ _ z => z) ev.mo fun a n f z => ev.fl a n f trivial z
          have nf0 : ∀ a, V.ref d = .ref a → ∀ x u, F.H0 a ≠ some (.frz x u) := fun a ea x u z => by
            cases ea
            obtain ⟨o', e1, e2⟩ := rel.since.tk d _ z
            rw [e2 (.inl ⟨_, _, rfl⟩), hd] at e1
            cases e1
          obtain ⟨d2, ed, _, ⟨q2, gq2, nf2⟩, put2⟩ := put_okU (c' := .dict kvs) rel2 rrd hp2 nf0
          cases ed
          have nd : ∀ b, G b = some .frz → b ≠ d := fun b gb z => gn (by rw [← z]; exact gb)
          have mo2 : Mo G H G' (upd H' d (.dK dk)) := by
            refine ⟨fun b gb => ?_, fun b n gb => ev.ob b n gb, fun b xs q => ?_⟩
            · obtain ⟨g1, h1⟩ := ev.fz b gb
              exact ⟨g1, by rw [upd_ne (nd b gb), h1, upd_ne (nd b gb)]⟩
            · have hne : b ≠ d := fun z => by rw [z, hd] at q; cases q
              rw [upd_ne hne]
              exact ev.mo.tp b xs (by rw [upd_ne hne]; exact q)
          have rel3 := put2 (.dK dk) ⟨.dK dk, upd_same, dk, rfl, hk, VRs.mono mo2 _ _ hv⟩
          have evo : Evo EvT G H G' (upd H' d (.dK dk)) := by
            refine ⟨fun b u hb gb => ?_, mo2.fz, ev.ob, ev.fl, fun b u hb => ?_⟩
            · have hne : b ≠ d := fun z => g0 (by rw [← z]; exact gb)
              obtain ⟨h1, g1⟩ := ev.un b u (by rw [upd_ne hne]; exact hb) gb
              exact ⟨by rw [upd_ne hne]; exact h1, g1⟩
            · by_cases z : b = d
              · subst z
                rw [hd] at hb; cases hb
                exact ⟨_, upd_same, fun _ => rfl⟩
              · obtain ⟨u', h1, k1⟩ := ev.tk b u (by rw [upd_ne z]; exact hb)
                exact ⟨u', by rw [upd_ne z]; exact h1, k1⟩
          have gn2 : G' d ≠ some .frz := fun z => nf2 (by rw [z] at gq2; exact (Option.some.inj gq2).symm)
          have mu2 : Mo G' H' G' (upd H' d (.dK dk)) := Mo.upd gn2
          have rr3 : RR R σ H G' (upd H' d (.dK dk)) v v' := by
            have rr2 : RR R σ (upd H d (.frz od (.dK dk))) G' H' v v' := rr2
            cases v with
            | v x => exact VR.mono mu2 x v' rr2
            | own c =>
              obtain ⟨a, ea, hn, ga, k⟩ := rr2
              have hne : a ≠ d := fun z => by rw [z, upd_same] at hn; cases hn
              exact ⟨a, ea, by rw [upd_ne hne] at hn; exact hn, ga, k.mono mu2 (upd_ne hne)⟩
            | loc i => exact rr2
            | fld n f => exact rr2
          exact o G' _ v' rel3 evo rr3
        · exact o.elim
      · exact o.elim
    · exact o.elim
  · exact o.elim
/-! the keys, the items of a locked dict -/
theorem VR_key {K : PySem.W.Frag} {G : Gh} {H : Hp} (k : Key) : VR K G H (keyMV k) (kV k) := by
  cases k with
  | inl i => exact VR.mkInt
  | inr x =>
    show VR K G H (.str x.cps.toList) (.str x)
    unfold VR
    obtain ⟨z⟩ := x
    simp
def mKeys (fo : ME) : MS → Out MI := fun s => (fo s).bind fun r s1 => match cont s1 r with
  | some (.lock kvs) => .ok ⟨kvs.map (·.1), fun _ => True⟩ s1
  | _ => .bad
def mItems (fo : ME) : MS → Out MI := fun s => (fo s).bind fun r s1 => match cont s1 r with
  | some (.lock kvs) => .ok ⟨kvs.map fun q => .tup [q.1, q.2], fun _ => True⟩ s1
  | _ => .bad
theorem kv_at {K : PySem.W.Frag} {G : Gh} {H : Hp} {kvs : List (MV × MV)} {dk : List (Key × V)} (hk : kvs.map (·.1) = dk.map fun q => keyMV q.1) (hv : VRs K G H (kvs.map (·.2)) (dk.map (·.2))) {i : Nat} {p : MV × MV} {k : Key} {v : V} (h1 : kvs[i]? = some p) (h2 : dk[i]? = some (k, v)) : p.1 = keyMV k ∧ VR K G H p.2 v := by
  refine ⟨?_, ?_⟩
  · have := congrArg (·[i]?) hk
    simp [h1, h2] at this
    exact this
  · obtain ⟨w, hw, vr⟩ := hv.get (i := i) (x := p.2) (by simp [h1])
    simp [h2] at hw
    rw [hw]; exact vr
theorem ji_keys {tg : Expr} {fo : ME} (ho : JE X R W e fo) : JI X R W tg e (mKeys fo) := fun hK F => PI.imp (pi_keys (ho hK F)) fun σ H Rr h => by
  refine (first (M := rlE) h).mono fun v H1 ⟨G, r, s1, G1, w, rr, o⟩ => ?_
  split at o
  · rename_i kvs hc
    obtain ⟨a, rfl, od, ho', hd, dk, rfl, hk, hv⟩ := cont_ok w.rel (show RR R σ H G1 H1 r v from rr) hc
    have hl : kvs.length = dk.length := by have := congrArg List.length hk; simpa using this
    refine ⟨a, od, rfl, .inl ⟨dk, hd, o _ _ _ w.rel w.evo ?_⟩⟩
    intro F2 G2 H2 s2 σ2 rel ev ck
    have hf : H2 a = some (.frz od (.dK dk)) := by
      obtain ⟨o', e1, e2⟩ := ev.tk a _ hd
      rw [e2 (.inl ⟨_, _, rfl⟩)] at e1; exact e1
    refine ⟨fun i hi => ⟨hf, by simp at hi; omega⟩, ⟨hf, by simp [hl]⟩, fun i x v H3 hx y => ?_⟩
    obtain ⟨rfl, k, v0, hdk, rfl⟩ := y
    simp only [List.getElem?_map, Option.map_eq_some_iff] at hx
    obtain ⟨p, hp, rfl⟩ := hx
    refine .inl ⟨rfl, ?_⟩
    rw [(kv_at hk hv hp hdk).1]
    exact VR_key k
  · exact o.elim
theorem ji_items {elts : List Expr} {kk : Nat} {tpos apos cpos : Pos} {fo : ME} (ho : JE X R W e fo) (hbase : attributeBase e "items" X.env (eval e X.env) = eval e X.env := by rfl) (hline : (apos.endLine == cpos.line) = true := by rfl) :
    JI X R W (.Tuple elts kk tpos) (.Call (.Attribute e "items" apos) [] [] cpos) (mItems fo) := fun hK F => PI.imp (pi_items (ho hK F) hbase hline) fun σ H Rr h => by
  refine (first (M := rlE) h).mono fun v H1 ⟨G, r, s1, G1, w, rr, o⟩ => ?_
  split at o
  · rename_i kvs hc
    obtain ⟨a, rfl, od, ho', hd, dk, rfl, hk, hv⟩ := cont_ok w.rel (show RR R σ H G1 H1 r v from rr) hc
    have hl : kvs.length = dk.length := by have := congrArg List.length hk; simpa using this
    refine ⟨a, od, dk, rfl, hd, o _ _ _ w.rel w.evo ?_⟩
    intro F2 G2 H2 s2 σ2 rel ev ck
    have hf : H2 a = some (.frz od (.dK dk)) := by
      obtain ⟨o', e1, e2⟩ := ev.tk a _ hd
      rw [e2 (.inl ⟨_, _, rfl⟩)] at e1; exact e1
    have hv2 : VRs R.K G2 H2 (kvs.map (·.2)) (dk.map (·.2)) := VRs.mono ev.mo _ _ hv
    refine ⟨fun i hi => ⟨hf, by simp at hi; omega⟩, ⟨hf, by simp [hl]⟩, fun i x v H3 hx y => ?_⟩
    obtain ⟨T, k, v0, hdk, rfl, hT, rfl⟩ := y
    simp only [List.getElem?_map, Option.map_eq_some_iff] at hx
    obtain ⟨p, hp, rfl⟩ := hx
    obtain ⟨e1, vr⟩ := kv_at hk hv2 hp hdk
    rw [e1]
    exact .inr ⟨T, _, _, rfl, rfl, hT, rfl, VRs.cons (VR_key k) (VRs.cons vr (VRs.nil (K := R.K)))⟩
  · exact o.elim
end
end Mi
set_option Elab.async false
set_option linter.all false
set_option maxRecDepth 100000
set_option maxHeartbeats 4000000
namespace Mi
open PySem PySem.Spec PyProof.Rows L2
/-! dict comprehensions -/
section
variable {X : Cx} {R : RC} {W : WX} {pos : Pos}
open Classical in
noncomputable def dcGo (vs : List Nat) (chk : MS → Prop) (tg : MG) (tt : MS → Out Bool) (tk te : ME) : List MV → List (MV × MV) → MS → Out (List (MV × MV))
  | [], acc, s => if chk s then .ok acc s else .bad
  | x :: xs, acc, s => if chk s then (match tg x s with
    | none => .bad
    | some s1 => (tt s1).bind fun b s2 => if b = true then (mSh tk s2).bind fun k s3 => (mSh te s3).bind fun y s4 => (match keyOf k with
      | some _ => if acc.length < sizeLine then dcGo vs chk tg tt tk te xs (setK acc k y) { s4 with env := wipeM s4.env vs } else .bad
      | none => .bad)
      else dcGo vs chk tg tt tk te xs acc { s2 with env := wipeM s2.env vs }) else .bad
noncomputable def mDc (vs : List Nat) (it : MS → Out MI) (tg : MG) (tt : MS → Out Bool) (tk te : ME) : ME := fun s => (it s).bind fun I s1 =>
  (noExc (dcGo vs I.chk tg tt tk te I.items [] { s1 with env := wipeM s1.env vs })).bind fun acc s2 => .ok (.own (.dict acc)) { s2 with env := backEnv s1.env s2.env vs }
theorem je_dc {kx vx tg iter : Expr} {ifs : List Expr} {scope : Scope} {own : List (Str × Nat)} {ws : List Nat} {fi : MS → Out MI} {ft : MG} {ftt : MS → Out Bool} {fk fe : ME} (hc : X.calm = true) (hN : X.N.Nodup) (hi : JI X R W tg iter fi) (ok : BlkOk X.N X.env.scope scope own)
    (hg : ∀ (s : Shared) (H : Hp) (C : Addr) (cl : List (Str × Addr)) (fp : List Addr), JG (X.blk s H scope (compEnvC scope cl C X.env) fp) R tg ws ft)
    (ht : ∀ (s : Shared) (H : Hp) (C : Addr) (cl : List (Str × Addr)) (fp : List Addr), JTs (X.blk s H scope (compEnvC scope cl C X.env) fp) R (fun _ _ _ _ => False) ifs ftt)
    (hk : ∀ (s : Shared) (H : Hp) (C : Addr) (cl : List (Str × Addr)) (fp : List Addr), JE (X.blk s H scope (compEnvC scope cl C X.env) fp) R (fun _ _ _ _ => False) kx fk)
    (he : ∀ (s : Shared) (H : Hp) (C : Addr) (cl : List (Str × Addr)) (fp : List Addr), JE (X.blk s H scope (compEnvC scope cl C X.env) fp) R (fun _ _ _ _ => False) vx fe)
    (hw : ∀ i ∈ ws, i ∈ own.map (·.2) := by decide) (hs : ∀ x, foldedSetIterable iter X.env x = pure x := by intro _; rfl) : JE X R W (.DictComp kx vx [⟨tg, iter, ifs, 0⟩] scope pos) (mDc (own.map (·.2)) fi ft ftt fk fe) := fun hK F => by
  generalize hvs : own.map (·.2) = vs at hw
  refine PE.imp (pe_dc hc hN (hi hK F) ok (fun s H C cl fp => hg s H C cl fp hK F) (fun s H C cl fp => ht s H C cl fp hK F) (fun s H C cl fp => jv_of (hk s H C cl fp) hK F) (fun s H C cl fp => jv_of (he s H C cl fp) hK F) hs) fun σ H Q h => ?_
  rw [hvs]
  refine (first (M := rlI) h).mono fun J H1 ⟨G, I, s1, G1, w, ir, o⟩ => ?_
  have ir : ItRel R G1 H1 I J := ir
  intro D hD
  have gD := w.rel.noRole hD
  have hDs := fresh_back w.evo hD
  have hD0 := fresh_back w.st hDs
  refine ⟨fun i m H' => i ≤ I.items.length ∧ m = I.items.length - i ∧ ∃ G2 s2 acc ws', Rel R F G2 s2 (L2.wipe σ vs) H' ∧ Evo EvT G1 H1 G2 H' ∧ G2 D = none ∧ H' D = some (.dK ws') ∧ DD R.K G2 H' acc ws' ∧
    OutX rlE R F W σ G H ((noExc (dcGo vs I.chk ft ftt fk fe (I.items.drop i) acc s2)).bind fun acc s2 => .ok (.own (.dict acc)) { s2 with env := backEnv s1.env s2.env vs }) Q,
    ⟨_, Nat.zero_le _, rfl, G1, _, [], [], (w.rel.alloc (o := .dK []) hD).wipe vs, Evo.refl.updNew hD gD, gD, upd_same, ⟨rfl, VRs.nil⟩, by simpa using o⟩, ?_⟩
  rintro i m H' ⟨hi, rfl, G2, s2, acc, ws', rel, ev, gD2, hD2, vacc, o⟩
  by_cases hlt : i < I.items.length
  · right
    rw [List.drop_eq_getElem_cons hlt] at o
    unfold dcGo at o
    split at o
    · rename_i hck
      obtain ⟨go, _, yl⟩ := ir F G2 H' s2 _ rel (ev.weak fun _ _ => trivial) hck
      refine ⟨go i hlt, fun H3 => ∃ G3 s3 acc ws', Rel R F G3 s3 (L2.wipe σ vs) H3 ∧ Evo EvT G1 H1 G3 H3 ∧ G3 D = none ∧ H3 D = some (.dK ws') ∧ DD R.K G3 H3 acc ws' ∧
        OutX rlE R F W σ G H ((noExc (dcGo vs I.chk ft ftt fk fe (I.items.drop (i + 1)) acc s3)).bind fun acc s2 => .ok (.own (.dict acc)) { s2 with env := backEnv s1.env s2.env vs }) Q,
        fun H3 ⟨G3, s3, a3, w3, k⟩ => ⟨I.items.length - (i + 1), by omega, hlt, rfl, G3, s3, a3, w3, k⟩, fun x H3 y => ?_⟩
      have hx : I.items[i]? = some I.items[i] := List.getElem?_eq_getElem hlt
      obtain ⟨G3, rel3, vr3, ev3⟩ := yield_in (G0 := G) (H0 := H) rel (yl i _ x H3 hx y)
      refine ⟨G3, s2, _, rel3, vr3, ?_⟩
      split at o
      · exact o.elim
      · rename_i s3 e
        rw [e]
        intro σ4 rel4 so
        have hwp : L2.wipe σ4 vs = L2.wipe (L2.wipe σ vs) vs := wipe_out so hw
        have hwp : L2.wipe σ4 vs = L2.wipe σ vs := by rw [hwp, wipe_wipe]
        refine ⟨hwp, ?_⟩
        obtain ⟨hD3, gD3⟩ := ev3.un D _ hD2 gD2
        -- the test
        refine ⟨G3, s3, rel4, ?_⟩
        cases q : ftt s3 with
        | bad => rw [q] at o; exact o.elim
        | exc c xs s4 => rw [q] at o; exact o.elim
        | ok b s4 =>
          rw [q] at o
          intro G4 H4 b' rel5 ev5 eb
          have eb : b' = b := eb
          subst eb
          obtain ⟨hD4, gD4⟩ := ev5.un D _ hD3 gD3
          have ev4 : Evo EvT G1 H1 G4 H4 := ev.trans (ev3.trans ev5)
          have vacc4 : DD R.K G4 H4 acc ws' := ⟨vacc.1, VRs.mono (ev3.trans ev5).mo _ _ vacc.2⟩
          simp only [Out.bind_ok] at o
          cases b' with
          | false =>
            simp only [Bool.false_eq_true, if_false] at o ⊢
            exact ⟨G4, _, acc, ws', by have := rel5.wipe vs; rw [hwp] at this; exact this, ev4, gD4, hD4, vacc4, o⟩
          | true =>
            simp only [if_true] at o ⊢
            refine ⟨G4, s4, rel5, ?_⟩
            cases q0 : mSh fk s4 with
            | bad => rw [q0] at o; exact o.elim
            | exc c xs s5 => rw [q0] at o; exact o.elim
            | ok k5 s5 =>
              rw [q0] at o
              intro G5 H5 kv rel6 ev6 vk
              have vk : VR R.K G5 H5 k5 kv := vk
              simp only [Out.bind_ok] at o
              obtain ⟨hD5, gD5⟩ := ev6.un D _ hD4 gD4
              refine ⟨G5, s5, rel6, ?_⟩
              cases q2 : mSh fe s5 with
              | bad => rw [q2] at o; exact o.elim
              | exc c xs s6 => rw [q2] at o; exact o.elim
              | ok y6 s6 =>
                rw [q2] at o
                intro G6 H6 yv rel7 ev7 vy
                have vy : VR R.K G6 H6 y6 yv := vy
                simp only [Out.bind_ok] at o
                obtain ⟨hD6, gD6⟩ := ev7.un D _ hD5 gD5
                split at o
                · rename_i kk hkk
                  obtain ⟨rfl, e2⟩ := keyOf_V vk hkk
                  subst e2
                  split at o
                  · rename_i hz
                    have v6 : DD R.K G6 H6 acc ws' := ⟨vacc4.1, VRs.mono (ev6.trans ev7).mo _ _ vacc4.2⟩
                    refine ⟨ws', kk, rfl, hD6, by rw [← v6.length]; exact hz, ?_⟩
                    have mu : Mo G6 H6 G6 (upd H6 D (.dK (putK ws' kk yv))) := Mo.upd (by rw [gD6]; simp)
                    have v7 := v6.put kk vy
                    refine ⟨G6, _, setK acc (keyMV kk) y6, putK ws' kk yv, ?_, (ev4.trans (ev6.trans ev7)).updNew hD gD6, gD6, upd_same, ⟨v7.1, VRs.mono mu _ _ v7.2⟩, o⟩
                    have r7 := (rel7.updNone (o := .dK (putK ws' kk yv)) gD6 hD0).wipe vs
                    rw [hwp] at r7
                    exact r7
                  · exact o.elim
                · exact o.elim
    · exact o.elim
  · left
    have e : i = I.items.length := by omega
    subst e
    rw [List.drop_length] at o
    unfold dcGo at o
    split at o
    · rename_i hck
      obtain ⟨_, st, _⟩ := ir F G2 H' s2 _ rel (ev.weak fun _ _ => trivial) hck
      exact ⟨st, o G2 H' (.ref D) (w.rel.unwipe rel ev.mo) (w.evo.trans ev) ⟨D, rfl, hDs, gD2, .dK ws', hD2, ws', rfl, vacc.1, vacc.2⟩⟩
    · exact o.elim
end
end Mi
set_option Elab.async false
set_option linter.all false
set_option maxRecDepth 100000
set_option maxHeartbeats 4000000
namespace Mi
open PySem PySem.Spec PyProof.Rows L2
/-! d.update(e) -/
def rUpdate : V → List V → Hp → VK → Prop := fun x xs H Q => ∃ (d o : Addr) (kvs more : List (Key × V)), x = .ref d ∧ xs = [.ref o] ∧ d ≠ o ∧ H d = some (.dK kvs) ∧ Rd H o (.dK more) ∧ kvs.length + more.length ≤ sizeLine ∧ Q .non (upd H d (.dK (mergeK kvs more)))
theorem mt_update {X : Cx} : MtR X "dict.update" rUpdate := by
  intro pins s σ H x xs v us Q I rx rxs h
  obtain ⟨d, o, kvs, more, rfl, rfl, hne, hD, hO, hz, q⟩ := h
  cases rx
  obtain ⟨u, rfl, ru⟩ := rxs.one
  cases ru
  obtain ⟨z, hd, vs, rel, dd⟩ := dk_of I.hok hD
  obtain ⟨z2, lo2, vs2, rel2, dd2⟩ := dk_rd I.hok hO
  have rm := KV.merge rel2 rel
  have hl : (mergeK kvs more).length ≤ sizeLine := Nat.le_trans (length_mergeK more kvs) hz
  refine call_meetsIn PySem.F.slot_dict_update dd.typeIs PySem.F.entry_dict_update (PySem.F.args_dict_update_2 _ _) (meets_dict_update (mixKind X.prog X.w) d o hne lo2) ⟨vs, vs2, dd, dd2, by rw [← rel.length, ← rel2.length]; exact hz, fun h' hmm _ hs => ?_⟩
  have he : ∃ q, h'.get? d = some q := let ⟨q, _, _, hq, _⟩ := hmm; ⟨q, hq⟩
  exact ⟨.non, upd H d (.dK (mergeK kvs more)), d_write (t' := s.toks) I (by rw [hD]; exact True.intro) hs he (dk_new hl hd rm hmm), rfl, q⟩
section
variable {X : Cx} {R : RC} {W : WX} {F : FI} {σ : L2.St} {G G1 : Gh} {H H1 : Hp} {s s1 : MS} {pos pp : Pos} {o e : Expr} {es : List Expr} {fo fe : ME} {fa : MS → Out (List MV)} {apos cpos : Pos}
def mDM (p : RV → List MV → MS → Out RV) (fo : ME) (fa : MS → Out (List MV)) : ME := fun s => (fo s).bind fun r s1 => match place s1 r with
  | some (.dict _) => (fa s1).bind fun rs s2 => p r rs s2
  | _ => .bad
def dUpdate (r : RV) (rs : List MV) (s : MS) : Out RV := match rs, place s r with
  | [.dct ks vs], some (.dict kvs) => if ks.length = vs.length ∧ kvs.length + ks.length ≤ sizeLine then .ok (.v .non) (putC s r (.dict (mergeM kvs (ks.zip vs)))) else .bad
  | _, _ => .bad
theorem je_dupdate (ho : JE X R W o fo) (ha : JAs X R W (e :: es) fa)
    (hbase : attributeBase o "update" X.env (eval o X.env) = eval o X.env := by rfl)
    (hfew : ((backTo cpos (starEach (e :: es) X.env)).all (fun x => !x.1) && (backToKw cpos (keywordEach [] X.env)).all (fun x => x.1.isSome)
      && decide ((e :: es).length + ([] : List Keyword).length + (if ([] : List Keyword).isEmpty then 0 else 1) < 30)) = true := by rfl)
    (hline : (apos.endLine == cpos.line) = true := by rfl) (hs : starEach (e :: es) X.env = (false, eval e X.env) :: starEach es X.env := by rfl) (hplain : (backTo cpos (starEach es X.env)).any (·.1) = false := by rfl) :
    JE X R W (.Call (.Attribute o "update" apos) (e :: es) [] cpos) (mDM dUpdate fo fa) := fun hK F =>
  PE.imp (pe_bm PySem.F.plainAttrs_dict PySem.F.slot_dict_update PySem.F.type_dict_update mt_update (ho hK F) (ha hK F) hbase hfew hline hs hplain) fun σ H Q h => by
    refine (first (M := rlE) h).mono fun x H1 ⟨G, r, s1, G1, w, rr, o⟩ => ?_
    have rr : RR R σ H G1 H1 r x := rr
    split at o
    · rename_i kvs0 hp
      obtain ⟨a, rfl, ⟨ho', ha, dk0, rfl, _, _⟩, _⟩ := put_ok (c' := .dict []) w.rel rr hp
      refine ⟨.inr (.inr (.inl ⟨rfl, .inl ⟨_, ha⟩⟩)), ?_⟩
      refine (next (M := rlS) w o).mono fun vs H2 ⟨rs, s2, G2, w2, e12, rr2, o2⟩ => ?_
      have rr2 : VRs R.K G2 H2 rs vs := rr2
      unfold dUpdate at o2
      split at o2
      · rename_i ks ws kvs hp2 _
        obtain ⟨u, t, rfl, p, q⟩ := rr2.inv
        unfold VRs at q; subst q
        split at o2
        · rename_i hl
          obtain ⟨a2, ea, ⟨ho2, ha2, dk, rfl, k1, k2⟩, ⟨q, gq, nf⟩, put⟩ := put_ok (c' := .dict (mergeM kvs (ks.zip ws))) w2.rel (rr.mono e12) hp2
          cases ea
          have p : VR R.K G2 H2 (.dct ks ws) u := p
          unfold VR at p
          obtain ⟨b, hb, rfl, gb, hb2, dk2, rfl, k3, k4⟩ := p
          have gn : G2 a ≠ some .frz := fun z => nf (by rw [z] at gq; exact (Option.some.inj gq).symm)
          have hne : a ≠ b := fun z => gn (by rw [z]; exact gb)
          have d1 : DD R.K G2 H2 kvs dk := ⟨k1, k2⟩
          have d2 : DD R.K G2 H2 (ks.zip ws) dk2 := ⟨by rw [zip_fst hl.1]; exact k3, by rw [zip_snd hl.1]; exact k4⟩
          have l1 := d1.length
          have l2 := d2.length
          have l3 : (ks.zip ws).length = ks.length := by simp [hl.1]
          have mu : Mo G2 H2 G2 (upd H2 a (.dK (mergeK dk dk2))) := Mo.upd gn
          have d3 := DD.merge d2 d1
          refine ⟨a, b, dk, dk2, rfl, rfl, hne, ha2, .inl hb2, by omega, ?_⟩
          exact o2 _ _ _ (put _ ⟨_, upd_same, _, rfl, d3.1, VRs.mono mu _ _ d3.2⟩) (w2.evo.trans (Evo.updRole gn (by rw [gq]; simp) (fun x u z => by rw [ha2] at z; cases z))) (VR.mkNon (K := R.K) (G := G2) (H := upd H2 a (.dK (mergeK dk dk2))))
        · exact o2.elim
      · exact o2.elim
    · exact o.elim
/-! d.pop(k) of a key that is there -/
def delK (kvs : List (MV × MV)) (k : MV) : List (MV × MV) := kvs.filter fun p => !eqK p.1 k
theorem DD.drop {K : PySem.W.Frag} {G : Gh} {H : Hp} (k : Key) : ∀ {kvs : List (MV × MV)} {dk : List (Key × V)}, DD K G H kvs dk → DD K G H (delK kvs (keyMV k)) (dropK dk k)
  | [], dk, h => by rw [h.nil]; exact ⟨rfl, VRs.nil (K := K) (G := G) (H := H)⟩
  | p :: kvs, dk, h => by
    obtain ⟨j, v, r, rfl, e, hv, hr⟩ := h.inv
    have ih := DD.drop k hr
    unfold delK dropK at *
    simp only [List.filter_cons, e, eqK_iff]
    by_cases z : j = k
    · simpa [z] using ih
    · simp only [z, decide_false, Bool.not_false, if_true, ne_eq, not_false_eq_true, decide_true]
      exact .cons e hv ih
def mDPop (fo fe : ME) : ME := fun s => (fo s).bind fun r s1 => match place s1 r with
  | some (.dict _) => (mSh fe s1).bind fun q s2 => (match place s2 r with
    | some (.dict kvs) => match keyOf q with
      | some _ => match getK kvs q with
        | some x => .ok (.v x) (putC s2 r (.dict (delK kvs q)))
        | none => .bad
      | none => .bad
    | _ => .bad)
  | _ => .bad
theorem je_dpop (ho : JE X R W o fo) (he : JE X R W e fe) (m : M1 X o "pop" apos e cpos := by exact ⟨rfl, rfl, rfl, rfl⟩) : JE X R W (.Call (.Attribute o "pop" apos) [e] [] cpos) (mDPop fo fe) := fun hK F =>
  PE.imp (pe_dpop1 (ho hK F) (jv_of he hK F) m) fun σ H Q h => by
    refine (first (M := rlE) h).mono fun x H1 ⟨G, r, s1, G1, w, rr, o⟩ => ?_
    have rr : RR R σ H G1 H1 r x := rr
    split at o
    · rename_i kvs0 hp
      obtain ⟨a, rfl, ⟨ho', ha, dk0, rfl, _, _⟩, _⟩ := put_ok (c' := .dict []) w.rel rr hp
      refine ⟨a, rfl, .inl ⟨dk0, .inl ha⟩, ?_⟩
      refine (next (M := rlV) w o).mono fun y H2 ⟨q, s2, G2, w2, e12, rq, o2⟩ => ?_
      have rq : VR R.K G2 H2 q y := rq
      split at o2
      · rename_i kvs hp2
        obtain ⟨a2, dk, ea, ha2, dd, ⟨g0, gq, nf⟩, put⟩ := put_dct w2 (rr.mono e12) hp2
        cases ea
        have gn : G2 a ≠ some .frz := fun z => nf (by rw [z] at gq; exact (Option.some.inj gq).symm)
        split at o2
        · rename_i kk hk
          obtain ⟨rfl, e⟩ := keyOf_V rq hk
          subst e
          split at o2
          · rename_i x0 hx
            obtain ⟨v', hv', vr⟩ := (dd.get kk).2 x0 hx
            have mu : Mo G2 H2 G2 (upd H2 a (.dK (dropK dk kk))) := Mo.upd gn
            refine ⟨dk, kk, v', ha2, rfl, hv', ?_⟩
            exact o2 _ _ _ (put _ _ (dd.drop kk)) (w2.evo.trans (Evo.updRole gn (by rw [gq]; simp) (fun x u z => by rw [ha2] at z; cases z))) (VR.mono mu _ _ vr)
          · exact o2.elim
        · exact o2.elim
      · exact o2.elim
    · exact o.elim
end
end Mi
set_option Elab.async false
set_option linter.all false
set_option maxRecDepth 100000
set_option maxHeartbeats 4000000
namespace Mi
open PySem PySem.Spec PyProof.Rows L2
/-! len of a dict, too -/
section
variable {X : Cx} {R : RC} {W : WX} {pos pp : Pos} {e : Expr} {es : List Expr} {kws : List Keyword} {x : Str} {fs : MS → Out (List RV)}
def rLenDA (K : PySem.W.Frag) : List V → Hp → VK → Prop := fun xs H Q => (∃ x n, xs = [x] ∧ LenV K x H n ∧ Q (.int n) H) ∨ ∃ a kvs, xs = [V.ref a] ∧ Rd H a (.dK kvs) ∧ Q (.int kvs.length) H
theorem call_lenDA : CallR X (.builtin "len") (rLenDA X.K) := by
  intro pins s σ H xs us Q I r h
  rcases h with h | ⟨a, kvs, rfl, ha, q⟩
  · exact call_len pins s σ H xs us Q I r h
  · obtain ⟨u, rfl, ru⟩ := vals1 r
    cases ru
    exact d_len I ha fun t s' I' => ⟨.int kvs.length, H, I', ⟨t, rfl⟩, q⟩
def pLenA (rs : List RV) (s : MS) : Out RV := match rs with
  | [r] => match dictOf s r with
    | some kvs => .ok (.v (.int kvs.length)) s
    | none => pLen [r] s
  | _ => .bad
theorem pr_lenA : PrimC R (rLenDA R.K) pLenA := fun {F W σ G H G2 H2 s2 rs vs Q} w rr o => by
  unfold pLenA at o
  split at o
  · rename_i r0 _
    split at o
    · rename_i kvs hd
      obtain ⟨v, t, rfl, r1, rfl⟩ := rr
      obtain ⟨a, dk, rfl, ha, dd⟩ := dict_ok w.rel r1 hd
      exact .inr ⟨a, dk, rfl, ha, by rw [← dd.length]; exact finI w o⟩
    · exact .inl (pr_len w rr o)
  · exact o.elim
theorem je_lenA (ha : JA X R W (e :: es) fs) (hm : X.mg "len" = none) (hg : Gl X "len" := by rfl) (he : starEach (e :: es) X.env = (false, eval e X.env) :: starEach es X.env := by rfl) (hpl : (backTo pos (starEach es X.env)).any (·.1) = false := by rfl) :
    JE X R W (.Call (.Name "len" pp) (e :: es) [] pos) (mCallB pLenA fs) := je_callB call_lenDA (fun h => h ▸ pr_lenA) hm PySem.boot_len ha hg (he := he) (hpl := hpl)
/-! an instance made with keywords -/
variable {f : Addr} {fd : FuncData} {ps ks : List Str} {n k : Nat} {run : Fn} {idx : List Nat} {fk : MS → Out (List MV)}
def mMakeK (c m : Nat) (run : Fn) (n nk : Nat) (idx : List Nat) (fk : MS → Out (List MV)) : ME := fun s => (fk s).bind fun ys s1 => if ys.length = nk ∧ (permL idx (MV.ref s1.hp.length :: ys)).length = n then
    (mRun run (permL idx (.ref s1.hp.length :: ys)) { s1 with hp := s1.hp ++ [.inst c (List.replicate m none)] }).bind fun r s2 => (match r with
      | .v .non => .ok (.v (.ref s1.hp.length)) s2
      | _ => .bad)
  else .bad
theorem run_makeSDK {pins : List (Addr × Obj)} {σ : L2.St} {H : Hp} {s : Shared} {Q : VK} {ws : List Value} {zs : List V} {C : Addr} {sp : Sp} {E : L2.St → XK} (M : Mk X.K C f) (Fo : FnOk X.prog X.w X.K X.mg X.base (L2.CX X.prog X.w) k f fd ps sp) (hr : Room (k + 1) X.A) (hb : KB fd ps ks 1 idx)
    (hx : PassesAt (L2.CX X.prog X.w) X σ (E σ)) (I : Inv X pins σ H s) (r : Vals zs ws) (hw : ws.length = ks.length)
    (h : ∀ p d, H p = none → H d = none → d ≠ p → sp (permL idx (.ref p :: zs)) (upd (upd H d (.own p)) p (.ins C d [])) (fun v H2 => v = .non ∧ Q (.ref p) H2) (E σ)) :
    wpAny (model X.prog X.w) X.A (call (.ref C) [] (ks.zip ws)) (EP X pins σ Q) X.xe s := by
  have hq := h (s.heap.objs.size + 1) s.heap.objs.size (I.hok.fresh (Nat.le_succ _)) (I.hok.fresh (Nat.le_refl _)) (Nat.ne_of_lt (Nat.lt_succ_self _))
  have I2 := Inv.made (C := C) I
  have r2 : Vals (V.ref (s.heap.objs.size + 1) :: zs) (Value.ref (s.heap.objs.size + 1) :: ws) := .cons rfl r
  refine wpAny_call (make_map (f := f) I.kIn M.makes M.init (beq_iff_eq.mp M.fn) (codeAny_mono (Fo.run _ X.stack _ _ ⟨[Value.ref (s.heap.objs.size + 1)], ks.zip ws⟩ (permL idx (Value.ref (s.heap.objs.size + 1) :: ws)) _ _ (E σ) (hr.make C [] (ks.zip ws))
    (I2.env0.make C [] (ks.zip ws)) (hb _ [Value.ref (s.heap.objs.size + 1)] ws rfl hw) (vals_perm r2 idx) hq) fun r s' hq' => ?_))
  cases r with
  | error e => exact hx pins _ _ e s' I2 hq'
  | ok fl =>
    cases fl with
    | ret u =>
      obtain ⟨v, H', I3, rv, ev, q3⟩ := I2.after hq'
      subst ev
      exact ⟨rv, ⟨V.ref (s.heap.objs.size + 1), H', I3, rfl, q3⟩⟩
    | next => exact False.elim hq'
    | brk => exact False.elim hq'
    | cont => exact False.elim hq'
theorem je_makeK0 (c : Nat) (M : Mk X.K (R.cls c) f) (Fo : FnOk X.prog X.w X.K X.mg X.base (L2.CX X.prog X.w) k f fd ps (spF R n run)) (tk : Takes X W) (hr : Room (k + 1) X.A) (hm : X.mg x = some (.ref (R.cls c))) (hb : KB fd ps ks 1 idx)
    (hkw : JKs X R W kws fk) {m : Nat} (hmm : (R.flds c).length = m := by rfl) (hg : Gl X x := by rfl) (hdb : (x == ("__debug__" : Str)) = false := by decide)
    (hall : (backToKw pos (keywordEach kws X.env)).all (·.1.isSome) = true := by rfl) (hks : (backToKw pos (keywordEach kws X.env)).filterMap (·.1) = ks := by rfl)
    (hpl : ((backTo pos (starEach [] X.env)).any (·.1) || (backToKw pos (keywordEach kws X.env)).any (·.1.isNone)) = false := by rfl) :
    JE X R W (.Call (.Name x pp) [] kws pos) (mMakeK c m run n ks.length idx fk) := fun hK F => by
  subst hmm
  refine ⟨fun pins s σ H Q I h => ?_⟩
  refine wpAny_Call_Name_kw (ld_glob I hg hm ?_ hdb)
  refine PySem.W.callWith_KW0 (h₀ := X.base) I.ok.mod.kin M.kp hall (thn ((hkw hK F).run pos pins s σ H _ I (first (M := rlS) h)) fun ws s2 ⟨zs, H2, I2, rz, G, ys, s1, G1, w, rr, o⟩ => ⟨I2.kIn, ?_⟩) hpl
  have rr : VRs R.K G1 H2 ys zs := rr
  split at o
  · rename_i hl
    rw [hks]
    have hw : ws.length = ks.length := by rw [← rz.length, ← rr.length]; exact hl.1
    refine run_makeSDK (E := WE W) M Fo hr hb (passAt tk σ) I2 rz hw fun p d hp hd ne => ?_
    obtain ⟨rel, ev, mo⟩ := make_way w rfl hp hd ne
    have w2 : Way R F σ (setG G1 p (some (.obj s1.hp.length))) (upd (upd H2 d (.own p)) p (.ins (R.cls c) d [])) (setG G1 p (some (.obj s1.hp.length))) (upd (upd H2 d (.own p)) p (.ins (R.cls c) d [])) { s1 with hp := s1.hp ++ [.inst c (List.replicate (R.flds c).length none)] } := ⟨rel, .refl, rel.since⟩
    have vs : VRs R.K (setG G1 p (some (.obj s1.hp.length))) (upd (upd H2 d (.own p)) p (.ins (R.cls c) d [])) (.ref s1.hp.length :: ys) (.ref p :: zs) := VRs.cons (by unfold VR; exact ⟨p, rfl, setG_same⟩) (VRs.mono mo _ _ rr)
    refine run_sp w2 (vs.perm idx) hl.2 ?_
    cases q : mRun run (permL idx (.ref s1.hp.length :: ys)) { s1 with hp := s1.hp ++ [.inst c (List.replicate (R.flds c).length none)] } with
    | ok rv s2 =>
      rw [q] at o
      intro G' H' v rel' ev' rr
      have rr : RR R σ _ G' H' rv v := rr
      simp only [Out.bind_ok] at o
      split at o
      · cases RR.non rr
        refine ⟨rfl, o _ _ _ rel' (ev.trans ev') ?_⟩
        show VR _ _ _ _ _
        unfold VR
        exact ⟨p, rfl, ev'.ob p _ setG_same⟩
      · exact o.elim
    | exc c ys s2 =>
      rw [q] at o
      exact fun G' H' cls d rel' ev' x => o G' H' cls d rel' (ev.trans ev') x
    | bad => rw [q] at o; exact o.elim
  · exact o.elim
end
end Mi
set_option Elab.async false
set_option linter.all false
set_option maxRecDepth 100000
set_option maxHeartbeats 4000000
namespace Mi
open PySem PySem.Spec PyProof.Rows L2
/-! a comprehension that is set to a local on its own line -/
section
variable {X : Cx} {R : RC} {W : WX} {pos : Pos}
theorem tdc_imp {F : FI} {vs ws : List Nat} {fi : MS → Out MI} {ft : MG} {ftt : MS → Out Bool} {fk fe : ME} (hw : ∀ i ∈ ws, i ∈ vs) {σ : L2.St} {H : Hp} {Q : VK} (h : tE R F W (mDc vs fi ft ftt fk fe) σ H Q) :
    tDc (tX rlI R F W fi) (tG R F ws ft) (tT R F (fun _ _ _ _ => False) ftt) (tV R F (fun _ _ _ _ => False) (mSh fk)) (tV R F (fun _ _ _ _ => False) (mSh fe)) vs σ H Q := by
  refine (first (M := rlI) h).mono fun J H1 ⟨G, I, s1, G1, w, ir, o⟩ => ?_
  have ir : ItRel R G1 H1 I J := ir
  intro D hD
  have gD := w.rel.noRole hD
  have hDs := fresh_back w.evo hD
  have hD0 := fresh_back w.st hDs
  refine ⟨fun i m H' => i ≤ I.items.length ∧ m = I.items.length - i ∧ ∃ G2 s2 acc ws', Rel R F G2 s2 (L2.wipe σ vs) H' ∧ Evo EvT G1 H1 G2 H' ∧ G2 D = none ∧ H' D = some (.dK ws') ∧ DD R.K G2 H' acc ws' ∧
    OutX rlE R F W σ G H ((noExc (dcGo vs I.chk ft ftt fk fe (I.items.drop i) acc s2)).bind fun acc s2 => .ok (.own (.dict acc)) { s2 with env := backEnv s1.env s2.env vs }) Q,
    ⟨_, Nat.zero_le _, rfl, G1, _, [], [], (w.rel.alloc (o := .dK []) hD).wipe vs, Evo.refl.updNew hD gD, gD, upd_same, ⟨rfl, VRs.nil⟩, by simpa using o⟩, ?_⟩
  rintro i m H' ⟨hi, rfl, G2, s2, acc, ws', rel, ev, gD2, hD2, vacc, o⟩
  by_cases hlt : i < I.items.length
  · right
    rw [List.drop_eq_getElem_cons hlt] at o
    unfold dcGo at o
    split at o
    · rename_i hck
      obtain ⟨go, _, yl⟩ := ir F G2 H' s2 _ rel (ev.weak fun _ _ => trivial) hck
      refine ⟨go i hlt, fun H3 => ∃ G3 s3 acc ws', Rel R F G3 s3 (L2.wipe σ vs) H3 ∧ Evo EvT G1 H1 G3 H3 ∧ G3 D = none ∧ H3 D = some (.dK ws') ∧ DD R.K G3 H3 acc ws' ∧
        OutX rlE R F W σ G H ((noExc (dcGo vs I.chk ft ftt fk fe (I.items.drop (i + 1)) acc s3)).bind fun acc s2 => .ok (.own (.dict acc)) { s2 with env := backEnv s1.env s2.env vs }) Q,
        fun H3 ⟨G3, s3, a3, w3, k⟩ => ⟨I.items.length - (i + 1), by omega, hlt, rfl, G3, s3, a3, w3, k⟩, fun x H3 y => ?_⟩
      have hx : I.items[i]? = some I.items[i] := List.getElem?_eq_getElem hlt
      obtain ⟨G3, rel3, vr3, ev3⟩ := yield_in (G0 := G) (H0 := H) rel (yl i _ x H3 hx y)
      refine ⟨G3, s2, _, rel3, vr3, ?_⟩
      split at o
      · exact o.elim
      · rename_i s3 e
        rw [e]
        intro σ4 rel4 so
        have hwp : L2.wipe σ4 vs = L2.wipe (L2.wipe σ vs) vs := wipe_out so hw
        have hwp : L2.wipe σ4 vs = L2.wipe σ vs := by rw [hwp, wipe_wipe]
        refine ⟨hwp, ?_⟩
        obtain ⟨hD3, gD3⟩ := ev3.un D _ hD2 gD2
        -- the test
        refine ⟨G3, s3, rel4, ?_⟩
        cases q : ftt s3 with
        | bad => rw [q] at o; exact o.elim
        | exc c xs s4 => rw [q] at o; exact o.elim
        | ok b s4 =>
          rw [q] at o
          intro G4 H4 b' rel5 ev5 eb
          have eb : b' = b := eb
          subst eb
          obtain ⟨hD4, gD4⟩ := ev5.un D _ hD3 gD3
          have ev4 : Evo EvT G1 H1 G4 H4 := ev.trans (ev3.trans ev5)
          have vacc4 : DD R.K G4 H4 acc ws' := ⟨vacc.1, VRs.mono (ev3.trans ev5).mo _ _ vacc.2⟩
          simp only [Out.bind_ok] at o
          cases b' with
          | false =>
            simp only [Bool.false_eq_true, if_false] at o ⊢
            exact ⟨G4, _, acc, ws', by have := rel5.wipe vs; rw [hwp] at this; exact this, ev4, gD4, hD4, vacc4, o⟩
          | true =>
            simp only [if_true] at o ⊢
            refine ⟨G4, s4, rel5, ?_⟩
            cases q0 : mSh fk s4 with
            | bad => rw [q0] at o; exact o.elim
            | exc c xs s5 => rw [q0] at o; exact o.elim
            | ok k5 s5 =>
              rw [q0] at o
              intro G5 H5 kv rel6 ev6 vk
              have vk : VR R.K G5 H5 k5 kv := vk
              simp only [Out.bind_ok] at o
              obtain ⟨hD5, gD5⟩ := ev6.un D _ hD4 gD4
              refine ⟨G5, s5, rel6, ?_⟩
              cases q2 : mSh fe s5 with
              | bad => rw [q2] at o; exact o.elim
              | exc c xs s6 => rw [q2] at o; exact o.elim
              | ok y6 s6 =>
                rw [q2] at o
                intro G6 H6 yv rel7 ev7 vy
                have vy : VR R.K G6 H6 y6 yv := vy
                simp only [Out.bind_ok] at o
                obtain ⟨hD6, gD6⟩ := ev7.un D _ hD5 gD5
                split at o
                · rename_i kk hkk
                  obtain ⟨rfl, e2⟩ := keyOf_V vk hkk
                  subst e2
                  split at o
                  · rename_i hz
                    have v6 : DD R.K G6 H6 acc ws' := ⟨vacc4.1, VRs.mono (ev6.trans ev7).mo _ _ vacc4.2⟩
                    refine ⟨ws', kk, rfl, hD6, by rw [← v6.length]; exact hz, ?_⟩
                    have mu : Mo G6 H6 G6 (upd H6 D (.dK (putK ws' kk yv))) := Mo.upd (by rw [gD6]; simp)
                    have v7 := v6.put kk vy
                    refine ⟨G6, _, setK acc (keyMV kk) y6, putK ws' kk yv, ?_, (ev4.trans (ev6.trans ev7)).updNew hD gD6, gD6, upd_same, ⟨v7.1, VRs.mono mu _ _ v7.2⟩, o⟩
                    have r7 := (rel7.updNone (o := .dK (putK ws' kk yv)) gD6 hD0).wipe vs
                    rw [hwp] at r7
                    exact r7
                  · exact o.elim
                · exact o.elim
    · exact o.elim
  · left
    have e : i = I.items.length := by omega
    subst e
    rw [List.drop_length] at o
    unfold dcGo at o
    split at o
    · rename_i hck
      obtain ⟨_, st, _⟩ := ir F G2 H' s2 _ rel (ev.weak fun _ _ => trivial) hck
      exact ⟨st, o G2 H' (.ref D) (w.rel.unwipe rel ev.mo) (w.evo.trans ev) ⟨D, rfl, hDs, gD2, .dK ws', hD2, ws', rfl, vacc.1, vacc.2⟩⟩
    · exact o.elim
theorem tlc_imp {F : FI} {vs ws : List Nat} {fi : MS → Out MI} {ft : MG} {ftt : MS → Out Bool} {fe : ME} (hw : ∀ i ∈ ws, i ∈ vs) {σ : L2.St} {H : Hp} {Q : VK} (h : tE R F W (mLc vs fi ft ftt fe) σ H Q) :
    tLc (tX rlI R F W fi) (tG R F ws ft) (tT R F (fun _ _ _ _ => False) ftt) (tV R F (fun _ _ _ _ => False) (mSh fe)) vs σ H Q := by
  refine (first (M := rlI) h).mono fun J H1 ⟨G, I, s1, G1, w, ir, o⟩ => ?_
  have ir : ItRel R G1 H1 I J := ir
  intro D hD
  have gD := w.rel.noRole hD
  have hDs := fresh_back w.evo hD
  have hD0 := fresh_back w.st hDs
  refine ⟨fun i m H' => i ≤ I.items.length ∧ m = I.items.length - i ∧ ∃ G2 s2 acc ws', Rel R F G2 s2 (L2.wipe σ vs) H' ∧ Evo EvT G1 H1 G2 H' ∧ G2 D = none ∧ H' D = some (.lst ws') ∧ VRs R.K G2 H' acc ws' ∧
    OutX rlE R F W σ G H ((noExc (lcGo vs I.chk ft ftt fe (I.items.drop i) acc s2)).bind fun acc s2 => .ok (.own (.lst acc)) { s2 with env := backEnv s1.env s2.env vs }) Q,
    ⟨_, Nat.zero_le _, rfl, G1, _, [], [], (w.rel.alloc (o := .lst []) hD).wipe vs, Evo.refl.updNew hD gD, gD, upd_same, VRs.nil, by simpa using o⟩, ?_⟩
  rintro i m H' ⟨hi, rfl, G2, s2, acc, ws', rel, ev, gD2, hD2, vacc, o⟩
  by_cases hlt : i < I.items.length
  · right
    rw [List.drop_eq_getElem_cons hlt] at o
    unfold lcGo at o
    split at o
    · rename_i hck
      obtain ⟨go, _, yl⟩ := ir F G2 H' s2 _ rel (ev.weak fun _ _ => trivial) hck
      refine ⟨go i hlt, fun H3 => ∃ G3 s3 acc ws', Rel R F G3 s3 (L2.wipe σ vs) H3 ∧ Evo EvT G1 H1 G3 H3 ∧ G3 D = none ∧ H3 D = some (.lst ws') ∧ VRs R.K G3 H3 acc ws' ∧
        OutX rlE R F W σ G H ((noExc (lcGo vs I.chk ft ftt fe (I.items.drop (i + 1)) acc s3)).bind fun acc s2 => .ok (.own (.lst acc)) { s2 with env := backEnv s1.env s2.env vs }) Q,
        fun H3 ⟨G3, s3, a3, w3, k⟩ => ⟨I.items.length - (i + 1), by omega, hlt, rfl, G3, s3, a3, w3, k⟩, fun x H3 y => ?_⟩
      have hx : I.items[i]? = some I.items[i] := List.getElem?_eq_getElem hlt
      obtain ⟨G3, rel3, vr3, ev3⟩ := yield_in (G0 := G) (H0 := H) rel (yl i _ x H3 hx y)
      refine ⟨G3, s2, _, rel3, vr3, ?_⟩
      split at o
      · exact o.elim
      · rename_i s3 e
        rw [e]
        intro σ4 rel4 so
        have hwp : L2.wipe σ4 vs = L2.wipe (L2.wipe σ vs) vs := wipe_out so hw
        have hwp : L2.wipe σ4 vs = L2.wipe σ vs := by rw [hwp, wipe_wipe]
        refine ⟨hwp, ?_⟩
        obtain ⟨hD3, gD3⟩ := ev3.un D _ hD2 gD2
        -- the test
        refine ⟨G3, s3, rel4, ?_⟩
        cases q : ftt s3 with
        | bad => rw [q] at o; exact o.elim
        | exc c xs s4 => rw [q] at o; exact o.elim
        | ok b s4 =>
          rw [q] at o
          intro G4 H4 b' rel5 ev5 eb
          have eb : b' = b := eb
          subst eb
          obtain ⟨hD4, gD4⟩ := ev5.un D _ hD3 gD3
          have ev4 : Evo EvT G1 H1 G4 H4 := ev.trans (ev3.trans ev5)
          have vacc4 := VRs.mono (ev3.trans ev5).mo _ _ vacc
          simp only [Out.bind_ok] at o
          cases b' with
          | false =>
            simp only [Bool.false_eq_true, if_false] at o ⊢
            exact ⟨G4, _, acc, ws', by have := rel5.wipe vs; rw [hwp] at this; exact this, ev4, gD4, hD4, vacc4, o⟩
          | true =>
            simp only [if_true] at o ⊢
            refine ⟨G4, s4, rel5, ?_⟩
            cases q2 : mSh fe s4 with
            | bad => rw [q2] at o; exact o.elim
            | exc c xs s5 => rw [q2] at o; exact o.elim
            | ok y5 s5 =>
              rw [q2] at o
              intro G5 H5 yv rel6 ev6 vy
              have vy : VR R.K G5 H5 y5 yv := vy
              simp only [Out.bind_ok] at o
              obtain ⟨hD5, gD5⟩ := ev6.un D _ hD4 gD4
              split at o
              · rename_i hz
                have v5 := VRs.mono ev6.mo _ _ vacc4
                refine ⟨ws', hD5, by rw [← v5.length]; exact hz, ?_⟩
                have mu : Mo G5 H5 G5 (upd H5 D (.lst (ws' ++ [yv]))) := Mo.upd (by rw [gD5]; simp)
                refine ⟨G5, _, acc ++ [y5], ws' ++ [yv], ?_, (ev4.trans ev6).updNew hD gD5, gD5, upd_same, (VRs.mono mu _ _ v5).append (.cons (VR.mono mu _ _ vy) .nil), o⟩
                have r7 := (rel6.updNone (o := .lst (ws' ++ [yv])) gD5 hD0).wipe vs
                rw [hwp] at r7
                exact r7
              · exact o.elim
    · exact o.elim
  · left
    have e : i = I.items.length := by omega
    subst e
    rw [List.drop_length] at o
    unfold lcGo at o
    split at o
    · rename_i hck
      obtain ⟨_, st, _⟩ := ir F G2 H' s2 _ rel (ev.weak fun _ _ => trivial) hck
      exact ⟨st, o G2 H' (.ref D) (w.rel.unwipe rel ev.mo) (w.evo.trans ev) ⟨D, rfl, hDs, gD2, ws', hD2, vacc⟩⟩
    · exact o.elim
theorem ps_setDc {i : Nat} {y : Str} {py : Pos} {kx vx tg iter : Expr} {ifs : List Expr} {scope : Scope} {own : List (Str × Nat)} {pos spos : Pos} {wi : TI} {g : TG} {tt : TT} {tk tv : TE} (hc : X.calm = true) (hN : X.N.Nodup) (hy : X.N[i]? = some y) (hyl : X.env.scope.names.lookup y = some .local)
    (hsw : swapsWith (.DictComp kx vx [⟨tg, iter, ifs, 0⟩] scope pos) (some (.Name y py)) spos.line X.env = pure true) (hi : PI X tg iter wi) (ok : BlkOk X.N X.env.scope scope own)
    (hg : ∀ (s : Shared) (H : Hp) (C : Addr) (cl : List (Str × Addr)) (fp : List Addr), PG (X.blk s H scope (compEnvC scope cl C X.env) fp) tg g) (ht : ∀ (s : Shared) (H : Hp) (C : Addr) (cl : List (Str × Addr)) (fp : List Addr), PTs (X.blk s H scope (compEnvC scope cl C X.env) fp) ifs tt)
    (hk : ∀ (s : Shared) (H : Hp) (C : Addr) (cl : List (Str × Addr)) (fp : List Addr), PE (X.blk s H scope (compEnvC scope cl C X.env) fp) kx tk)
    (he : ∀ (s : Shared) (H : Hp) (C : Addr) (cl : List (Str × Addr)) (fp : List Addr), PE (X.blk s H scope (compEnvC scope cl C X.env) fp) vx tv)
    (hs : ∀ x, foldedSetIterable iter X.env x = pure x := by intro _; rfl) :
    PS X (.Assign [.Name y py] (.DictComp kx vx [⟨tg, iter, ifs, 0⟩] scope pos) spos) (tAsg (tDc wi g tt tk tv (own.map (·.2))) (gName i)) := by
  refine ⟨fun pins s σ H D I h => ?_⟩
  rw [exec_Assign_Name_used _ _ _ _ hsw]
  refine wpAny_bind (wpAny_standAt (wpAny_bind ?_))
  show wpAny _ X.A (do let _ ← comprehension (.DictComp kx vx [⟨tg, iter, ifs, 0⟩] scope pos) scope X.env (firstIterPos [⟨tg, iter, ifs, 0⟩] pos) PySem.newDict false (eval iter X.env) (some (assign (.Name y py) X.env))) _ _ s
  have h : tDc wi g tt tk tv (own.map (·.2)) σ H (fun x H1 => gName i x σ H1 D.nx) := h
  refine wpAny_bind (thn (dc_core (Qf := fun _ s' => SP X pins D .next s') hc hN I hi ok hg ht hk he hs h fun L C s' m H' I' q hn f => ?_) fun _ s' hq => wpAny_pure (wpAny_pure hq))
  show wpAny _ _ (assign (.Name y py) X.env (.ref L)) _ _ _
  refine wpAny_assign_Name (store_ok2 (v := V.ref L) I' hN hy (.inl hyl) rfl (fun s2 I2 ⟨a, sb, ha⟩ => ?_) (.inr hyl))
  obtain ⟨f0, f1, f2, f3, f4, f5⟩ := f
  have haC : C ≠ a := by
    rcases ha with z | z
    · rw [z]; exact f1
    · exact fun e => f4 y a z e.symm
  refine ⟨m, hn.sameBut sb haC, fun h3 sb3 => ?_⟩
  exact ⟨_, H', I2.turned (t' := s2.toks) (fun b o hb e => (sb3.2 b hb).trans e) f0 f1 f3 f4 f5, q⟩
theorem sw_trueD {kx vx : Expr} {gs : List Comprehension} {scope : Scope} {pos py : Pos} {y : Str} {l : Nat} {env : Env} (hk : env.scope.kind = .function) (hy : env.scope.names.lookup y = some .local) (hl : (py.line == pos.line) = true)
    (ha : (scope.names.any fun (n, k) => n == y && (k == .local || k == .cell)) = false) : swapsWith (.DictComp kx vx gs scope pos) (some (.Name y py)) l env = pure true := by
  have ky : env.kindOf y = some .local := hy
  have hb : env.blockKind = .function := by unfold Env.blockKind; rw [hk]; rfl
  unfold swapsWith
  simp only [hb, ky, ha, Expr.pos, hl]
  rfl
theorem tX_of {F : FI} {i : Nat} {f : ME} {D : Ends} {σ : L2.St} {H : Hp} (h : tS R F W (mSet i f) D σ H) : tE R F W f σ H fun x H1 => gName i x σ H1 D.nx := by
  obtain ⟨G, s, rel, o⟩ := h
  refine ⟨G, s, rel, ?_⟩
  have o : OutS R F W G H ((f s).bind fun r s1 => putSlot i r s1) D := o
  cases q : f s with
  | bad => rw [q] at o; exact o.elim
  | exc c xs s2 => rw [q] at o; exact fun G' H' cls d rel' ev e => o G' σ H' cls d rel' (ev.weak fun _ _ => trivial) e
  | ok r s2 =>
    rw [q] at o
    intro G' H' v rel' ev rr
    exact putSlot_ok ⟨rel', ev, rel.since⟩ rr o
theorem js_setDc {i : Nat} {y : Str} {py : Pos} {kx vx tg iter : Expr} {ifs : List Expr} {scope : Scope} {own : List (Str × Nat)} {ws : List Nat} {pos spos : Pos} {fi : MS → Out MI} {ft : MG} {ftt : MS → Out Bool} {fk fe : ME} (hc : X.calm = true) (hN : X.N.Nodup) (hi : JI X R W tg iter fi) (ok : BlkOk X.N X.env.scope scope own)
    (hg : ∀ (s : Shared) (H : Hp) (C : Addr) (cl : List (Str × Addr)) (fp : List Addr), JG (X.blk s H scope (compEnvC scope cl C X.env) fp) R tg ws ft)
    (ht : ∀ (s : Shared) (H : Hp) (C : Addr) (cl : List (Str × Addr)) (fp : List Addr), JTs (X.blk s H scope (compEnvC scope cl C X.env) fp) R (fun _ _ _ _ => False) ifs ftt)
    (hk : ∀ (s : Shared) (H : Hp) (C : Addr) (cl : List (Str × Addr)) (fp : List Addr), JE (X.blk s H scope (compEnvC scope cl C X.env) fp) R (fun _ _ _ _ => False) kx fk)
    (he : ∀ (s : Shared) (H : Hp) (C : Addr) (cl : List (Str × Addr)) (fp : List Addr), JE (X.blk s H scope (compEnvC scope cl C X.env) fp) R (fun _ _ _ _ => False) vx fe)
    (hy : X.N[i]? = some y := by rfl) (hyl : X.env.scope.names.lookup y = some .local := by rfl) (hkd : X.env.scope.kind = .function := by rfl) (hln : (py.line == pos.line) = true := by rfl) (han : (scope.names.any fun (n, k) => n == y && (k == .local || k == .cell)) = false := by rfl)
    (hw : ∀ i ∈ ws, i ∈ own.map (·.2) := by decide) (hs : ∀ x, foldedSetIterable iter X.env x = pure x := by intro _; rfl) : JS X R W (.Assign [.Name y py] (.DictComp kx vx [⟨tg, iter, ifs, 0⟩] scope pos) spos) (mSet i (mDc (own.map (·.2)) fi ft ftt fk fe)) := fun hK F =>
  PS.imp (ps_setDc hc hN hy hyl (sw_trueD hkd hyl hln han) (hi hK F) ok (fun s H C cl fp => hg s H C cl fp hK F) (fun s H C cl fp => ht s H C cl fp hK F) (fun s H C cl fp => jv_of (hk s H C cl fp) hK F) (fun s H C cl fp => jv_of (he s H C cl fp) hK F) hs) fun D σ H h =>
    tdc_imp (F := F) (W := W) (R := R) hw (tX_of h)
theorem js_setLc {i : Nat} {y : Str} {py : Pos} {elt tg iter : Expr} {ifs : List Expr} {scope : Scope} {own : List (Str × Nat)} {ws : List Nat} {pos spos : Pos} {fi : MS → Out MI} {ft : MG} {ftt : MS → Out Bool} {fe : ME} (hc : X.calm = true) (hN : X.N.Nodup) (hi : JI X R W tg iter fi) (ok : BlkOk X.N X.env.scope scope own)
    (hg : ∀ (s : Shared) (H : Hp) (C : Addr) (cl : List (Str × Addr)) (fp : List Addr), JG (X.blk s H scope (compEnvC scope cl C X.env) fp) R tg ws ft)
    (ht : ∀ (s : Shared) (H : Hp) (C : Addr) (cl : List (Str × Addr)) (fp : List Addr), JTs (X.blk s H scope (compEnvC scope cl C X.env) fp) R (fun _ _ _ _ => False) ifs ftt)
    (he : ∀ (s : Shared) (H : Hp) (C : Addr) (cl : List (Str × Addr)) (fp : List Addr), JE (X.blk s H scope (compEnvC scope cl C X.env) fp) R (fun _ _ _ _ => False) elt fe)
    (hy : X.N[i]? = some y := by rfl) (hyl : X.env.scope.names.lookup y = some .local := by rfl) (hkd : X.env.scope.kind = .function := by rfl) (hln : (py.line == pos.line) = true := by rfl) (han : (scope.names.any fun (n, k) => n == y && (k == .local || k == .cell)) = false := by rfl)
    (hw : ∀ i ∈ ws, i ∈ own.map (·.2) := by decide) (hs : ∀ x, foldedSetIterable iter X.env x = pure x := by intro _; rfl) : JS X R W (.Assign [.Name y py] (.ListComp elt [⟨tg, iter, ifs, 0⟩] scope pos) spos) (mSet i (mLc (own.map (·.2)) fi ft ftt fe)) := fun hK F =>
  PS.imp (ps_setLc hc hN hy hyl (sw_true hkd hyl hln han) (hi hK F) ok (fun s H C cl fp => hg s H C cl fp hK F) (fun s H C cl fp => ht s H C cl fp hK F) (fun s H C cl fp => jv_of (he s H C cl fp) hK F) hs) fun D σ H h =>
    tlc_imp (F := F) (W := W) (R := R) hw (tX_of h)
end
end Mi
set_option Elab.async false
set_option linter.all false
set_option maxRecDepth 100000
set_option maxHeartbeats 4000000
namespace Mi
open PySem PySem.Spec PyProof.Rows L2
/-! list(d), max(xs), min(xs) -/
theorem VRs_keys {K : PySem.W.Frag} {G : Gh} {H : Hp} : ∀ dk : List (Key × V), VRs K G H (dk.map fun q => keyMV q.1) (dk.map fun q => kV q.1)
  | [] => VRs.nil (K := K) (G := G) (H := H)
  | (.inl i, v) :: r => VRs.cons (VR.mkInt (K := K) (G := G) (H := H)) (VRs_keys r)
  | (.inr x, v) :: r => VRs.cons (VR.mkStr' (K := K) (G := G) (H := H) rfl) (VRs_keys r)
def pListD (rs : List RV) (s : MS) : Out RV := match rs with
  | [r] => match dictOf s r with
    | some kvs => .ok (.own (.lst (kvs.map (·.1)))) s
    | none => .bad
  | _ => .bad
def rListDA : List V → Hp → VK → Prop := fun xs H Q => ∃ (a : Addr) (kvs : List (Key × V)), xs = [V.ref a] ∧ Rd H a (.dK kvs) ∧ ∀ p, H p = none → Q (.ref p) (upd H p (.lst (kvs.map fun kv => kV kv.1)))
section
variable {X : Cx} {R : RC} {W : WX} {pos pp : Pos} {e : Expr} {es : List Expr} {fs : MS → Out (List RV)}
theorem pr_listD : PrimC R rListDA pListD := fun {F W σ G H G2 H2 s2 rs vs Q} w rr o => by
  unfold pListD at o
  split at o
  · obtain ⟨v, t, rfl, r1, rfl⟩ := rr
    split at o
    · rename_i kvs hd
      obtain ⟨a, dk, rfl, ha, dd⟩ := dict_ok w.rel r1 hd
      exact ⟨a, dk, rfl, ha, newLst w (by rw [dd.1]; exact VRs_keys dk) o⟩
    · exact o.elim
  · exact o.elim
theorem je_listD (ha : JA X R W [e] fs) (hm : X.mg "list" = none) (hg : Gl X "list" := by rfl) (hc : X.calm = true := by rfl) (he : starEach [e] X.env = (false, eval e X.env) :: starEach [] X.env := by rfl) (hpl : (backTo pos (starEach [] X.env)).any (·.1) = false := by rfl) :
    JE X R W (.Call (.Name "list" pp) [e] [] pos) (mCallB pListD fs) := je_callTy (r := rListDA) (call_listD hc) (fun _ => pr_listD) hm boot_list' ha hg (he := he) (hpl := hpl)
def topL (f : Int → Int → Bool) : List Int → Option Int
  | [] => none
  | n :: r => match topL f r with | none => some n | some m => if f n m = true then some m else some n
theorem topL_max : ∀ {ns : List Int} {m : Int}, topL (fun a b => decide (a < b)) ns = some m → m ∈ ns ∧ ∀ y ∈ ns, y ≤ m
  | n :: r, m, h => by
    unfold topL at h
    cases e : topL (fun a b => decide (a < b)) r with
    | none =>
      rw [e] at h; cases h
      cases r with
      | nil => simp
      | cons k r => unfold topL at e; cases e2 : topL (fun a b => decide (a < b)) r <;> rw [e2] at e <;> simp at e; split at e <;> cases e
    | some q =>
      rw [e] at h
      obtain ⟨h1, h2⟩ := topL_max e
      simp only [decide_eq_true_eq] at h
      split at h
      · rename_i g; cases h
        exact ⟨List.mem_cons_of_mem _ h1, fun y hy => by
          rcases List.mem_cons.mp hy with rfl | hy
          · omega
          · exact h2 y hy⟩
      · rename_i g; cases h
        exact ⟨List.mem_cons_self .., fun y hy => by
          rcases List.mem_cons.mp hy with rfl | hy
          · omega
          · have := h2 y hy; omega⟩
theorem topL_min : ∀ {ns : List Int} {m : Int}, topL (fun a b => decide (b < a)) ns = some m → m ∈ ns ∧ ∀ y ∈ ns, m ≤ y
  | n :: r, m, h => by
    unfold topL at h
    cases e : topL (fun a b => decide (b < a)) r with
    | none =>
      rw [e] at h; cases h
      cases r with
      | nil => simp
      | cons k r => unfold topL at e; cases e2 : topL (fun a b => decide (b < a)) r <;> rw [e2] at e <;> simp at e; split at e <;> cases e
    | some q =>
      rw [e] at h
      obtain ⟨h1, h2⟩ := topL_min e
      simp only [decide_eq_true_eq] at h
      split at h
      · rename_i g; cases h
        exact ⟨List.mem_cons_of_mem _ h1, fun y hy => by
          rcases List.mem_cons.mp hy with rfl | hy
          · omega
          · exact h2 y hy⟩
      · rename_i g; cases h
        exact ⟨List.mem_cons_self .., fun y hy => by
          rcases List.mem_cons.mp hy with rfl | hy
          · omega
          · have := h2 y hy; omega⟩
def pTopL (f : Int → Int → Bool) (rs : List RV) (s : MS) : Out RV := match rs with
  | [r] => match ((lstOf s r).bind intsOf).bind (topL f) with
    | some m => .ok (.v (.int m)) s
    | none => .bad
  | _ => .bad
abbrev pMaxL := pTopL fun a b => decide (a < b)
abbrev pMinL := pTopL fun a b => decide (b < a)
theorem pr_maxL : PrimC R (rMax R.K) pMaxL := fun {F W σ G H G2 H2 s2 rs vs Q} w rr o => by
  unfold pMaxL pTopL at o
  split at o
  · obtain ⟨v, t, rfl, r1, rfl⟩ := rr
    split at o
    · rename_i m e
      simp only [Option.bind_eq_some_iff] at e
      obtain ⟨ns, ⟨xs, e1, e2⟩, e3⟩ := e
      obtain ⟨a, ws, rfl, sq, h⟩ := lst_ok w.rel r1 e1
      have := ints_ok h e2
      subst this
      obtain ⟨t1, t2⟩ := topL_max e3
      refine ⟨a, ns, rfl, sq, List.length_pos_of_mem t1, fun m' h1 h2 => ?_⟩
      have : m' = m := Int.le_antisymm (t2 m' h1) (h2 m t1)
      subst this
      exact finV w o (VR.mkInt (K := R.K) (G := G2) (H := H2))
    · exact o.elim
  · exact o.elim
theorem pr_minL : PrimC R (rMin R.K) pMinL := fun {F W σ G H G2 H2 s2 rs vs Q} w rr o => by
  unfold pMinL pTopL at o
  split at o
  · obtain ⟨v, t, rfl, r1, rfl⟩ := rr
    split at o
    · rename_i m e
      simp only [Option.bind_eq_some_iff] at e
      obtain ⟨ns, ⟨xs, e1, e2⟩, e3⟩ := e
      obtain ⟨a, ws, rfl, sq, h⟩ := lst_ok w.rel r1 e1
      have := ints_ok h e2
      subst this
      obtain ⟨t1, t2⟩ := topL_min e3
      refine ⟨a, ns, rfl, sq, List.length_pos_of_mem t1, fun m' h1 h2 => ?_⟩
      have : m' = m := Int.le_antisymm (h2 m t1) (t2 m' h1)
      subst this
      exact finV w o (VR.mkInt (K := R.K) (G := G2) (H := H2))
    · exact o.elim
  · exact o.elim
theorem je_maxL (ha : JA X R W (e :: es) fs) (hm : X.mg "max" = none) (he : starEach (e :: es) X.env = (false, eval e X.env) :: starEach es X.env := by rfl) (hpl : (backTo pos (starEach es X.env)).any (·.1) = false := by rfl) (hg : Gl X "max" := by rfl) (hc : X.calm = true := by rfl) :
    JE X R W (.Call (.Name "max" pp) (e :: es) [] pos) (mCallB pMaxL fs) := je_callB (cr_max hc) (fun h => h ▸ pr_maxL) hm boot_max ha hg (he := he) (hpl := hpl)
theorem je_minL (ha : JA X R W (e :: es) fs) (hm : X.mg "min" = none) (he : starEach (e :: es) X.env = (false, eval e X.env) :: starEach es X.env := by rfl) (hpl : (backTo pos (starEach es X.env)).any (·.1) = false := by rfl) (hg : Gl X "min" := by rfl) (hc : X.calm = true := by rfl) :
    JE X R W (.Call (.Name "min" pp) (e :: es) [] pos) (mCallB pMinL fs) := je_callB (cr_min hc) (fun h => h ▸ pr_minL) hm boot_min ha hg (he := he) (hpl := hpl)
/-! xs.insert(i, y) -/
def lInsert (r : RV) (rs : List MV) (s : MS) : Out RV := match rs, place s r with
  | [.int i, x], some (.lst xs) => if xs.length < sizeLine ∧ 0 ≤ i ∧ i < 2 ^ 63 then .ok (.v .non) (putC s r (.lst (xs.take i.toNat ++ [x] ++ xs.drop i.toNat))) else .bad
  | _, _ => .bad
theorem pr_insert : PrimL R (fun x vs H Q => ∃ (l : Addr) (xs : List V) (i : Int) (y : V), x = .ref l ∧ vs = [.int i, y] ∧ H l = some (.lst xs) ∧ xs.length < sizeLine ∧ 0 ≤ i ∧ i < 2 ^ 63 ∧
    Q .non (upd H l (.lst (xs.take i.toNat ++ [y] ++ xs.drop i.toNat)))) lInsert := fun {F W σ G H G2 H2 s2 r0 rs v vs Q} w rr rs o => by
  unfold lInsert at o
  split at o
  · rename_i i x xs hp
    obtain ⟨u, t, rfl, p, q⟩ := rs.inv
    obtain ⟨u2, t2, rfl, p2, q2⟩ := q.inv
    unfold VRs at q2; subst q2
    cases VR.int p
    split at o
    · rename_i hz
      obtain ⟨a, vs, rfl, ha, hv, k⟩ := put_lst w rr hp o
      exact ⟨a, vs, i, u2, rfl, rfl, ha, by rw [← hv.length]; exact hz.1, hz.2.1, hz.2.2, k _ _ (((hv.take _).append (.cons p2 (VRs.nil (K := R.K)))).append (hv.drop _)) (VR.mkNon (K := R.K))⟩
    · exact o.elim
  · exact o.elim
theorem je_insert {o e e2 : Expr} {apos cpos : Pos} {fo : ME} {fa : MS → Out (List MV)} (ho : JE X R W o fo) (ha : JAs X R W [e, e2] fa) (hbase : attributeBase o "insert" X.env (eval o X.env) = eval o X.env := by rfl)
    (hfew : ((backTo cpos (starEach [e, e2] X.env)).all (fun x => !x.1) && (backToKw cpos (keywordEach [] X.env)).all (fun x => x.1.isSome) && decide ([e, e2].length + ([] : List Keyword).length + (if ([] : List Keyword).isEmpty then 0 else 1) < 30)) = true := by rfl)
    (hline : (apos.endLine == cpos.line) = true := by rfl) (hs : starEach [e, e2] X.env = (false, eval e X.env) :: starEach [e2] X.env := by rfl) (hpl : (backTo cpos (starEach [e2] X.env)).any (·.1) = false := by rfl) : JE X R W (.Call (.Attribute o "insert" apos) [e, e2] [] cpos) (mLM lInsert fo fa) :=
  je_lm PySem.F.slot_list_insert PySem.F.type_list_insert mt_insert (fun _ => pr_insert) ho ha hbase hfew hline hs hpl
end
end Mi
set_option Elab.async false
set_option linter.all false
set_option maxRecDepth 100000
set_option maxHeartbeats 4000000
namespace Mi
open PySem PySem.Spec PyProof.Rows L2
theorem exK_ok {P : Program} {w : World} {H : Hp} {h : Heap} {a : Addr} {cls : Value} {d : Option Addr} {oe : Obj} {vs : Array Value} (e : h.get? a = some oe) (z : Zc cls d oe) (q : oe.data = .fields vs) : ObjOk P w H h a (ExK cls d a) :=
  ⟨⟨oe, vs, e, z, q⟩, ⟨oe, e⟩, fun _ _ ⟨o, v, q, r⟩ k => ⟨o, v, k o q, r⟩⟩
/-- what 'except x as n' wishes, the exception tracked -/
def wAsT (K : PySem.W.Frag) (c : Value) (i : Nat) (ts : TS) (Wout : WX) (D : Ends) : WX := fun cls d σ H =>
  ∃ b, PySem.W.exmOne K cls c = some b ∧ (b = true → ∀ a, H a = none → ts { nx := fun σ' H' => D.nx (σ'.set i none) H', rt := D.rt, bk := fun σ' H' => D.bk (σ'.set i none) H', ct := fun σ' H' => D.ct (σ'.set i none) H' } (σ.set i (some (.ref a))) (upd H a (ExK cls d a))) ∧
    (b = false → Wout cls d σ H)
section
variable {X : Cx} {x n : Str} {c : Value} {i : Nat} {body suite : List Stmt} {b₀ : Stmt} {np pos pos' : Pos} {tb : WX → TS} {ts : TS} {Wout : WX}
theorem unsuiteT {pins : List (Addr × Obj)} {σ : L2.St} {H : Hp} {s : Shared} {a : Addr} {pn' : List (Addr × Obj)} (I : Inv (X.suite a (X.pn ++ pins)) pn' σ H s) (ok : X.Ok) : Inv X pins σ H s :=
  ⟨ok, I.os, I.bare, I.base, I.loc, I.cell, I.free, I.freeC, fun p hp => I.pin p (List.mem_append_left _ hp), I.hok, I.len⟩
theorem suiteT {pins : List (Addr × Obj)} {σ : L2.St} {H : Hp} {s : Shared} {a : Addr} (I : Inv X pins σ H s) : Inv (X.suite a (X.pn ++ pins)) [] σ H s :=
  ⟨I.ok.suite _ _, I.os, I.bare, I.base, I.loc, I.cell, I.free, I.freeC, fun p hp => I.pin p (by rw [List.append_nil] at hp; exact hp), I.hok, I.len⟩
theorem ps_try_asT (hs : X.stack = X.env :: X.outer) (hf : X.env.frame = some X.env.locals) (hN : X.N.Nodup) (hi : X.N[i]? = some n) (hln : X.env.kindOf n = some .local) (hc : Names X x c) (tk : Takes X Wout)
    (hb : ∀ (W : WX) (pn : List (Addr × Obj)) (xe : Value → Shared → Prop), Takes (X.tr pn xe) W → PassesOwn (model X.prog X.w) X.A X.env xe → PSs (X.tr pn xe) body (tb W))
    (hsu : ∀ (a : Addr) (pn : List (Addr × Obj)), PSs (X.suite a pn) (b₀ :: suite) ts) :
    PS X (.Try body [.ExceptHandler (some (.Name x np)) (some n) (b₀ :: suite) pos'] [] [] pos) (fun D σ H => tb (wAsT X.K c i ts Wout D) D σ H) := by
  refine ⟨fun pins s σ H D I h => ?_⟩
  have ok := I.ok
  have hfr : X.A.frames = some (X.env :: X.outer) := by rw [ok.frames, hs]
  have hloc : Loc X.env.scope n := .inl hln
  refine wpAny_Try_except ?_
  refine wpAny_mono ((hb (wAsT X.K c i ts Wout D) (X.pn ++ pins) (fun e s₁ => wpAny (model X.prog X.w) X.A (noteFrame e X.env) (fun _ s₂ => wpAny (model X.prog X.w) X.A (setFlight e none) (fun _ s₃ =>
    wpAny (model X.prog X.w) X.A (handleBy e X.env [.ExceptHandler (some (.Name x np)) (some n) (b₀ :: suite) pos']) (SP X pins D) X.xe s₃) X.xe s₂) X.xe s₁) (fun u s' xx => ?_) PassesOwn.looking).run [] s σ H D (I.toTry _) h) (fun f s1 hsp => ?_) (fun e s1 he => he)
  · obtain ⟨a, B, sI, pins', σ', H', cls, d, rfl, J', nb, up, sky, na, os, ag, b, hb1, hyes, hno⟩ := xx
    have J : Inv X pins σ' H' sI := J'.ofTry ok
    have sky' : Sky B (X.env :: X.outer) a (Zc cls d) X.env.locals s'.heap := by rw [← hs]; exact sky
    show wpAny (model X.prog X.w) X.A (noteFrame (.ref a) X.env) _ _ _
    refine Sky.land Zc.steady hfr hf sky' fun h3 fl3 up3 => ?_
    have J3 : Inv X pins σ' H' { s' with heap := h3 } := J.landed nb fl3.1 (up.trans up3) os ag
    obtain ⟨oe3, vs3, he3, hz3, hd3⟩ := fl3.there
    have notFr : ∀ {h : Heap} {o : Obj} {vs : Array Value}, h.FunFrames B (X.env :: X.outer) → h.get? a = some o → o.data = .fields vs → a ∉ frs (X.env :: X.outer) := fun {h o vs} ff e dd hm => by
      obtain ⟨_, o', e', hnf⟩ := ff.mem hm
      rw [e] at e'; cases e'
      exact hnf _ dd
    have nfr := notFr fl3.2.2.1 he3 hd3
    have nL : a ≠ X.env.locals := fun z => nfr (List.mem_filterMap.mpr ⟨X.env, List.mem_cons_self, by rw [hf, z]⟩)
    have nF : a ∉ X.fs := fun hm => by
      obtain ⟨e, he, q⟩ := List.mem_filterMap.mp hm
      exact nfr (List.mem_filterMap.mpr ⟨e, List.mem_cons_of_mem _ he, q⟩)
    have S3 := J3.suite he3 hd3 na nL nF
    refine wpAny_handleBy_cons (codeAny_handlers_test ?_) (by intro q; cases q)
    have LT : PySem.W.Looks (model X.prog X.w) h3 (typeOf (.ref a)) cls := fun A Q E s k q => wpAny_typeOf_ref (k _ _ he3) (by rw [hz3.1]; exact q)
    have LM := PySem.W.exm_one (M := model X.prog X.w) (J3.kIn) LT hb1
    have test : ∀ {Q : Value → Shared → Prop} {E : Value → Shared → Prop}, Q c { s' with heap := h3 } → wpAny (model X.prog X.w) (X.A.mark (some (.ref a))) (eval (.Name x np) X.env) Q E { s' with heap := h3 } := fun {Q E} q => by
      obtain ⟨hg, hdbg, hm | ⟨hm, hv, hnn⟩⟩ := hc
      · exact ld_glob (X := X.suite a ((a, oe3) :: (X.pn ++ pins))) S3 hg hm q hdbg
      · exact ld_blt (X := X.suite a ((a, oe3) :: (X.pn ++ pins))) S3 hg hm hv q hnn hdbg
    refine test (LM.here ?_)
    cases b with
    | true =>
      refine codeAny_handlers_suite_as ?_
      refine HandSPX.lands_againZ fl3 fun h4 fl4 up4 => ?_
      obtain ⟨oe4, vs4, he4, hz4, hd4⟩ := fl4.there
      obtain ⟨G, g1, g2⟩ := restrict h4 fun b => decide (b ≠ a)
      have gk : ∀ b o, b ≠ a → h4.get? b = some o → G.get? b = some o := fun b o hb e => by rw [g1 b (decide_eq_true hb)]; exact e
      have ga : G.get? a = none := g2 a (decide_eq_false fun z => z rfl)
      have gs : ∀ b o, G.get? b = some o → h4.get? b = some o := fun b o e => by
        by_cases hb : b = a
        · rw [hb, ga] at e; cases e
        · rw [← g1 b (decide_eq_true hb)]; exact e
      have sa : sI.heap.get? a = none := by
        cases q : sI.heap.get? a with
        | none => rfl
        | some o =>
          have z := nb a o q (by rw [hs]; exact nfr)
          rw [fl4.2.1] at z; cases z
      have stG : B.StaysIn G := fun b o e => gk b o (fun z => by rw [z, fl4.2.1] at e; cases e) (fl4.1 b o e)
      have up5 : sI.heap.UpToSlots h4 := (up.trans up3).trans up4
      have upG : sI.heap.UpToSlots G := fun b o e hn => by
        have hba : b ≠ a := fun z => by rw [z, sa] at e; cases e
        obtain ⟨sl, q⟩ := up5 b o e hn
        exact ⟨sl, gk b _ hba q⟩
      have JG : Inv X pins σ' H' { s' with heap := G } := J.landed nb stG upG os ag
      have JT : Inv X pins σ' (upd H' a (ExK cls d a)) { s' with heap := h4 } := JG.laidN (h' := h4) (t' := s'.toks) (fun b u e => gs b u e) ga na (exK_ok he4 hz4 hd4)
      refine store_ok (X := X.suite a (X.pn ++ pins)) (v := .ref a) (suiteT JT) hN hi hloc rfl (fun s5 S5 => ?_) (.inr hln)
      refine wpAny_mono ((hsu a (X.pn ++ pins)).run [] s5 _ _ _ S5 (hyes rfl a na)) (fun f s6 hsp => ?_) (fun _ _ z => False.elim z)
      have end_ : ∀ {σ6 : L2.St} {H6 : Hp} {Q : Shared → Prop}, Inv (X.suite a (X.pn ++ pins)) [] σ6 H6 s6 → (∀ s7, Inv X pins (σ6.set i none) H6 s7 → Q s7) →
          wpAny (model X.prog X.w) X.A (do bindName X.env n .none; unbindBehindTheSuite X.env n pos') (fun _ s7 => Q s7) X.xe s6 := fun {σ6 H6 Q} S6 hq => gone_ok (unsuiteT S6 ok) hN hi hln hq
      cases f with
      | next =>
        obtain ⟨σ6, H6, S6, q6⟩ := hsp
        exact end_ S6 fun s7 J7 => ⟨_, _, J7, q6⟩
      | brk =>
        obtain ⟨σ6, H6, S6, q6⟩ := hsp
        exact end_ S6 fun s7 J7 => ⟨_, _, J7, q6⟩
      | cont =>
        obtain ⟨σ6, H6, S6, q6⟩ := hsp
        exact end_ S6 fun s7 J7 => ⟨_, _, J7, q6⟩
      | ret u =>
        obtain ⟨v6, σ6, H6, S6, r6, q6⟩ := hsp
        exact end_ S6 fun s7 J7 => ⟨_, _, _, J7, r6, q6⟩
    | false =>
      show wpAny _ X.A (handleBy (.ref a) X.env []) _ _ _
      refine wpAny_handleBy_nil ?_
      obtain ⟨k1, k2, k3, oe, vs, T, oT, ts', he, hz, hd, h1, hr⟩ := id fl3
      unfold PySem.passOn
      refine wpAny_bind (wpAny_field he hd h1 ?_)
      rw [if_neg (show ¬ ((Value.ref T == Value.none) = true) from by simp)]
      have fin : wpAny (model X.prog X.w) X.A (setFlight (.ref a) X.env.frame) (fun _ s4 => wpAny (model X.prog X.w) X.A (throw (.ref a) : Sem Flow) (SP X pins D) X.xe s4) X.xe { s' with heap := h3 } := by
        rw [hf]
        refine HandSPX.setFlight_upZ fl3 fun h4 hh4 up4 => wpAny_throw (tk _ _ ?_)
        exact ⟨a, B, sI, pins, σ', H', cls, d, rfl, J, nb, (up.trans up3).trans up4, .inr (.inr (by rw [hs]; exact hh4)), na, os, ag, hno rfl⟩
      first
        | exact wpAny_bind (wpAny_pure (wpAny_bind fin))
        | exact wpAny_bind fin
  · cases f with
    | next =>
      obtain ⟨σ', H', J', q⟩ := hsp
      exact wpAny_execs_nil ⟨σ', H', J'.ofTry ok, q⟩
    | brk =>
      obtain ⟨σ', H', J', q⟩ := hsp
      exact ⟨σ', H', J'.ofTry ok, q⟩
    | cont =>
      obtain ⟨σ', H', J', q⟩ := hsp
      exact ⟨σ', H', J'.ofTry ok, q⟩
    | ret u =>
      obtain ⟨v, σ', H', J', r, q⟩ := hsp
      exact ⟨v, σ', H', J'.ofTry ok, r, q⟩
end
/-! isinstance(e, C) of a caught exception that is tracked -/
def rIsK (K : PySem.W.Frag) : List V → Hp → VK → Prop := fun xs H Q => ∃ (a D : Addr) (c : V) (cv : Value) (b : Bool), xs = [.ref a, c] ∧ H a = some (ExK (.ref D) none a) ∧ ExcC K D ∧ (∀ u, RelV c u → u = cv) ∧ PySem.W.kitOne K (.ref D) cv = some b ∧ Q (.bl b) H
theorem call_isK {X : Cx} : CallR X (.builtin "isinstance") (rIsK X.K) := by
  intro pins s σ H xs us Q I r h
  obtain ⟨a, D, c, cv, b, rfl, ha, C, hcv, e, q⟩ := h
  cases r with
  | cons rx rr =>
    cases rr with
    | cons rt rr =>
      cases rr
      cases rx
      have ec := hcv _ rt
      subst ec
      obtain ⟨⟨oe, vs, hget, hz, hv⟩, _⟩ := I.hok a _ ha
      have J : PySem.W.InstAt s.heap a oe D none := by
        obtain ⟨oc, od, oda, osl⟩ := oe
        obtain ⟨h1, h2⟩ := hz
        dsimp only at h1 h2 hv
        subst h1 h2 hv
        exact ⟨hget, rfl, rfl, trivial⟩
      exact PySem.W.kia_one (PySem.W.handS_kitx_exc C.hg C.hk C.hs C.hd C.ha C.hn C.ht C.hm) I.kIn J e (fun z => nomatch z) fun tk => ⟨.bl b, H, I.kept (t' := tk) fun _ _ z => z, rfl, q⟩
/-! raise C(): C's own __init__ sets no field -/
section
variable {X : Cx}
theorem mk_end1 {pins : List (Addr × Obj)} {σ : L2.St} {H1 H2 : Hp} {hp hp2 h2 : Heap} {g1 g2 : Array GenState} {d1 d2 : Drawn} {t1 t2 : Nat} {os1 os2 : OsState} {a C : Addr} (I1 : Inv X pins σ H1 ⟨hp, g1, d1, t1, os1⟩)
    (ha : hp.objs.size ≤ a) (k : ∀ b o, hp.get? b = some o → hp2.get? b = some o) (un : Un (frs X.stack) [] (upd H1 a (exo a C none)) H2 hp2 h2) (hok : HOk X.prog X.w H2 h2) (ho : os2 = os1) (hb : AllBare g2)
    (ea : H2 a = some (exo a C none)) :
    ∃ (t0 : Addr) (G : Heap), Inv X pins σ (del H2 a) ⟨G, g2, d2, t2, os2⟩ ∧ (∀ b o, G.get? b = some o → h2.get? b = some o) ∧ G.get? a = none ∧
      h2.get? a = some ({ cls := .ref C, dict := none, data := .fields #[.ref t0, .none, .none, .none, .bool false, .none] } : Obj) ∧ del H2 a a = none := by
  obtain ⟨t0, hoe⟩ := exo_at hok ea
  have hn : H1 a = none := I1.hok.fresh ha
  obtain ⟨G, g1', g2'⟩ := restrict h2 fun b => decide (b ≠ a)
  have gk : ∀ b, b ≠ a → G.get? b = h2.get? b := fun b hb => g1' b (decide_eq_true hb)
  have ge : G.get? a = none := g2' a (by simp)
  have nha : ∀ {b : Addr} {o : Obj}, hp.get? b = some o → b ≠ a := fun {b o} z => Nat.ne_of_lt (Nat.lt_of_lt_of_le (Heap.lt_size z) ha)
  have up : ∀ {b : Addr}, b ≠ a → H1 b = none → upd H1 a (exo a C none) b = none := fun {b} hb n => by rw [upd_ne hb]; exact n
  have U : Un (frs X.stack) [] H1 (del H2 a) hp G := {
    keep := fun b o z n hf hx => by
      rw [gk b (nha z)]
      exact un.keep b o (k b o z) (up (nha z) n) hf hx
    slot := fun b o z n hf hx => by
      rw [gk b (nha z)]
      exact un.slot b o (k b o z) (up (nha z) n) hf hx
    free := fun b o z n hx => by
      rw [del_ne (nha z)]
      exact un.free b o (k b o z) (up (nha z) n) hx
    there := fun b o z hx => by
      rw [gk b (nha z)]
      exact un.there b o (k b o z) hx
    tups := fun b xs z => by
      rw [del_ne (ne_of_none z hn)]
      exact un.tups b xs (by rw [upd_ne (ne_of_none z hn)]; exact z)
    frzs := fun b o v z => by
      rw [del_ne (ne_of_none z hn)]
      exact un.frzs b o v (by rw [upd_ne (ne_of_none z hn)]; exact z)
    tbls := fun b ps z => by
      rw [del_ne (ne_of_none z hn)]
      exact un.tbls b ps (by rw [upd_ne (ne_of_none z hn)]; exact z) }
  have hok3 : HOk X.prog X.w (del H2 a) G := fun b o z => by
    have hba : b ≠ a := fun e => by
      rw [e, del_same] at z
      cases z
    rw [del_ne hba] at z
    have noa : ∀ {c : Addr}, H2 c = some (.own b) → c ≠ a := fun {c} hc => at_ne ea hc exo_own
    exact (hok b o z).stay (fun c v hc y => by
        have hca : c ≠ a := by
          rcases hc with hc | hc
          · rw [hc]
            exact hba
          · exact noa hc
        rw [gk c hca]
        exact y)
      (fun c hc => by rw [del_ne (noa hc)]; exact hc) (fun c xs hc => by rw [del_ne (at_ne ea hc exo_tup)]; exact hc)
  have J : Inv X pins σ (del H2 a) ⟨G, g2, d2, t2, os2⟩ := I1.call' (ch := []) ho U hok3 hb (fun b z => absurd z (by simp))
  refine ⟨t0, G, J, fun b o z => ?_, ge, hoe, del_same⟩
  by_cases hba : b = a
  · rw [hba, ge] at z
    cases z
  · exact (gk b hba).symm.trans z
/-- what __init__ keeps -/
def spI (C : Addr) : Sp := fun vs H Q _ => ∃ a, vs = [.ref a] ∧ H a = some (exo a C none) ∧ Q .non H
theorem pmk_oex0 {x : Str} {C fI : Addr} {k : Nat} {fd : FuncData} {ps : List Str} {p pos : Pos} (T : OexC X.K C) (iC : PySem.W.findIn X.K (.ref C) "__init__" = some (some (.ref fI))) (tI : PySem.W.typeIn X.K (.ref fI) = some (.type "function"))
    (F1 : Mi.FnOk X.prog X.w X.K X.mg X.base (L2.CX X.prog X.w) k fI fd ps (spI C)) (hr : Mi.Room (k + 1) X.A) (hb : Binds X.K fd ps []) (hg : Gl X x) (hm : X.mg x = some (.ref C))
    (hdb : (x == ("__debug__" : Str)) = false := by decide) :
    PMk X (.Call (.Name x p) [] [] pos) (fun σ H Q => Q (.ref C) none H) := by
  intro pins s σ H Q I q
  obtain ⟨nm, qq, N, bs, bm, sn, sub, ab, col, dd, k0, k1, k2, k3, k5, hC, hbm⟩ := T.cls
  refine wpAny_Call_Name_kw (ld_glob I hg hm ?_ hdb)
  refine PySem.W.callWith_K0 I.kIn T.kC ?_
  show wpAny _ _ (call (.ref C) []) _ _ _
  obtain ⟨hp, g, dr, tk, os⟩ := s
  have hsz : hp.objs.size ≤ hp.objs.size + 1 := Nat.le_succ _
  have hn : H (hp.objs.size + 1) = none := I.hok.fresh hsz
  have kk : ∀ b o, hp.get? b = some o → ((hp.push (PySem.W.kdv_tup [])).push (PySem.HandSPX.excO C hp.objs.size)).get? b = some o := fun b o e => Heap.get?_push_of_some _ (Heap.get?_push_of_some _ e)
  have hget : ((hp.push (PySem.W.kdv_tup [])).push (PySem.HandSPX.excO C hp.objs.size)).get? (hp.objs.size + 1) = some (PySem.HandSPX.excO C hp.objs.size) := by heap_get
  have I2 : Inv X pins σ (upd H (hp.objs.size + 1) (exo (hp.objs.size + 1) C none)) ⟨(hp.push (PySem.W.kdv_tup [])).push (PySem.HandSPX.excO C hp.objs.size), g, dr, tk, os⟩ :=
    I.laid (t' := tk) (a := hp.objs.size + 1) (o := exo (hp.objs.size + 1) C none) (h' := (hp.push (PySem.W.kdv_tup [])).push (PySem.HandSPX.excO C hp.objs.size)) kk hsz (exo_ok hget)
  have r2 : Vals [V.ref (hp.objs.size + 1)] [Value.ref (hp.objs.size + 1)] := .cons rfl .nil
  have hq : spI C [.ref (hp.objs.size + 1)] (upd H (hp.objs.size + 1) (exo (hp.objs.size + 1) C none)) (fun v H2 => v = .non ∧ H2 = upd H (hp.objs.size + 1) (exo (hp.objs.size + 1) C none)) (fun _ _ _ => False) := ⟨_, rfl, upd_same, rfl, rfl⟩
  have hl : ([Value.ref (hp.objs.size + 1)] ++ ([] : List Value)).length = ps.length := by
    have e := r2.length
    rw [F1.len _ _ _ _ hq] at e
    rw [List.append_nil]
    exact e.symm
  have hb2 := hb _ [Value.ref (hp.objs.size + 1)] I2.kIn hl
  rw [List.append_nil] at hb2
  refine wpAny_call (PySem.HandSPX.call_own F.excBase_ValueError (fun Y => PySem.HandSPX.refsVE_contains Y bm hbm) (I.kIn _ _ hC) (PySem.W.looks_findIn I.kIn iC) (fun self => PySem.W.bind_fn I.kIn self tI) (by show 0 ≤ sizeLine; omega)
    (codeAny_mono (F1.run _ X.stack _ _ ⟨[Value.ref (hp.objs.size + 1)], []⟩ [Value.ref (hp.objs.size + 1)] _ _ (fun _ _ _ => False) (hr.make C [] []) (I2.env0.make C [] []) hb2 r2 hq) fun r s' hq' => ?_))
  cases r with
  | error er => exact passL pins σ _ _ er s' I2 hq'
  | ok fl =>
    cases fl with
    | ret u =>
      obtain ⟨v, H2, os2, bare2, un2, hok2, rv, ev, eH⟩ := hq'
      subst ev eH
      obtain ⟨h2, g2, d2, t2, os'⟩ := s'
      obtain ⟨t0, G, J, kG, ge, hoe, na⟩ := mk_end1 (d2 := d2) (t2 := t2) I hsz kk un2 hok2 os2 bare2 upd_same
      have eH : del (upd H (hp.objs.size + 1) (exo (hp.objs.size + 1) C none)) (hp.objs.size + 1) = H := by
        funext b
        by_cases hba : b = hp.objs.size + 1
        · rw [hba, del_same, hn]
        · rw [del_ne hba, upd_ne hba]
      rw [eH] at J na
      exact ⟨rv, ⟨_, _, _, ⟨G, g2, d2, t2, os'⟩, _, .ref C, none, rfl, J, kG, ge, hoe, ⟨rfl, rfl⟩, rfl, rfl, na, rfl, bare2, raises_own T.exC T.tyC, q⟩⟩
    | next => exact False.elim hq'
    | brk => exact False.elim hq'
    | cont => exact False.elim hq'
end
end Mi
set_option Elab.async false
set_option linter.all false
set_option maxRecDepth 100000
set_option maxHeartbeats 4000000
namespace Mi
open PySem PySem.Spec PyProof.Rows L2
section
variable {X : Cx} {R : RC} {W : WX} {F : FI} {σ : L2.St} {G : Gh} {H : Hp} {s : MS}
/-! raise C() -/
def mRaise (c : Nat) : MSt := fun s => .exc c [] s
theorem js_raise0 {x : Str} {fI : Addr} {k : Nat} {fd : FuncData} {ps : List Str} {p pos pos2 : Pos} (c : Nat) (hnf : R.exF c = []) (T : OexC X.K (R.exA c)) (iC : PySem.W.findIn X.K (.ref (R.exA c)) "__init__" = some (some (.ref fI))) (tI : PySem.W.typeIn X.K (.ref fI) = some (.type "function"))
    (F1 : Mi.FnOk X.prog X.w X.K X.mg X.base (L2.CX X.prog X.w) k fI fd ps (spI (R.exA c))) (tk : Takes X W) (hr : Mi.Room (k + 1) X.A) (hb : Binds X.K fd ps []) (hm : X.mg x = some (.ref (R.exA c))) (hg : Gl X x := by rfl) (hdb : (x == ("__debug__" : Str)) = false := by decide) (hc : X.calm = true := by rfl) :
    JS X R W (.Raise (some (.Call (.Name x p) [] [] pos)) none pos2) (mRaise c) := fun hK F =>
  PS.imp (ps_raise hc tk (pmk_oex0 T iC tI F1 hr hb hg hm hdb)) fun D σ H ⟨G, s, rel, o⟩ => o G σ H (.ref (R.exA c)) none rel .refl ⟨rfl, by rw [hnf]; rfl, fun _ => rfl, fun h => absurd rfl h⟩
/-! try: .. / except C as e: x = e -/
def mTryE (cm : Nat → Option Bool) (i j : Nat) (fb : MSt) : MSt := fun s => match fb s with
  | .exc c xs s1 => (match cm c with
    | some true => if xs = [] ∧ i < s1.env.length ∧ j < s1.env.length then .ok .next { s1 with hp := s1.hp ++ [.exc c], env := ((s1.env.set i (some (.v (.ref s1.hp.length)))).set j (some (.v (.ref s1.hp.length)))).set i none } else .bad
    | some false => .exc c xs s1
    | none => .bad)
  | o => o
theorem Rel.unset {i : Nat} (h : Rel R F G s σ H) : Rel R F G { s with env := s.env.set i none } (σ.set i none) H := by
  refine ⟨h.hp, by simpa using h.len, fun j sv q => ?_, h.since, h.base, h.le, h.ent⟩
  by_cases e : i = j
  · subst e
    have : (s.env.set i none)[i]? = some (some sv) := q
    rw [List.getElem?_set_self'] at this
    cases z : s.env[i]? <;> rw [z] at this <;> cases this
  · have q : (s.env.set i none)[j]? = some (some sv) := q
    rw [List.getElem?_set_ne e] at q
    obtain ⟨v, h1, h2⟩ := h.env j sv q
    exact ⟨v, by rw [List.getElem?_set_ne e]; exact h1, h2⟩
theorem js_try {n x y : Str} {i j : Nat} {cv : Value} {cm : Nat → Option Bool} {body : List Stmt} {fb : MSt} {np py pn pa pos pos' : Pos} (hN : X.N.Nodup) (hc : Names X x cv) (tk : Takes X W) (hi : X.N[i]? = some n) (hj : X.N[j]? = some y)
    (hcm : X.K = R.K → ∀ c b, cm c = some b → PySem.W.exmOne X.K (.ref (R.exA c)) cv = some b)
    (hb : ∀ (W' : WX) (pn : List (Addr × Obj)) (xe : Value → Shared → Prop), Takes (X.tr pn xe) W' → PassesOwn (model X.prog X.w) X.A X.env xe → JB (X.tr pn xe) R W' body fb)
    (hs : X.stack = X.env :: X.outer := by rfl) (hf : X.env.frame = some X.env.locals := by rfl) (hln : X.env.kindOf n = some .local := by rfl)
    (hv : Vis X.env.scope n := by exact .inl rfl) (hly : Loc X.env.scope y := by first | exact Or.inl rfl | exact Or.inr rfl)
    (hsw : ∀ (a : Addr) (pnn : List (Addr × Obj)), swapsWith (.Name n pn) (some (.Name y py)) pa.line (X.suite a pnn).env = pure false := by intro _ _; rfl) (hfy : X.fn y = true ∨ X.env.scope.names.lookup y = some .local := by first | exact .inl rfl | exact .inr rfl)
    (hdn : (n == ("__debug__" : Str)) = false := by decide) (hcn : (n == ("__classdict__" : Str)) = false := by decide) :
    JS X R W (.Try body [.ExceptHandler (some (.Name x np)) (some n) [.Assign [.Name y py] (.Name n pn) pa] pos'] [] [] pos) (mTryE cm i j fb) := fun hK F =>
  PS.imp (ps_try_asT hs hf hN hi hln hc tk (tb := fun W' => tS R F W' fb) (ts := tAsg (tVar i) (gName j)) (fun W' pnn xe t p => hb W' pnn xe t p hK F)
    (fun a pnn => pss_one (ps_set (X := X.suite a pnn) hN hj hly (pe_var (X := X.suite a pnn) hi hv hdn hcn) (hsw a pnn) hfy))) fun D σ H ⟨G, s, rel, o⟩ => by
    refine ⟨G, s, rel, ?_⟩
    have o : OutS R F W G H (mTryE cm i j fb s) D := o
    unfold mTryE at o
    cases q : fb s with
    | ok fl s2 =>
      rw [q] at o
      cases fl with
      | next => exact o
      | ret r => exact o
    | bad => rw [q] at o; exact o.elim
    | exc c xs s1 =>
      rw [q] at o
      simp only at o
      intro G' σ' H' cls d rel' ev ⟨e1, e2, e3, e4⟩
      subst e1
      cases qc : cm c with
      | none => rw [qc] at o; exact o.elim
      | some b =>
        rw [qc] at o
        refine ⟨b, hcm hK.symm c b qc, fun hb a ha => ?_, fun hb => ?_⟩
        · subst hb
          simp only at o
          split at o
          · rename_i hh
            obtain ⟨rfl, hi', hj'⟩ := hh
            rw [e3 rfl]
            have hiσ : i < σ'.length := by rw [← rel'.len]; exact hi'
            have g : G' a = none := rel'.noRole ha
            have rel1 := rel'.alloc (o := ExK (.ref (R.exA c)) none a) ha
            have hH : H a = none := fresh_back ev ha
            have h0 : F.H0 a = none := fresh_back rel'.since ha
            have m : Mo G' (upd H' a (ExK (.ref (R.exA c)) none a)) (setG G' a (some (.obj s1.hp.length))) (upd H' a (ExK (.ref (R.exA c)) none a)) := Mo.setr g
            have rel2 : Rel R F (setG G' a (some (.obj s1.hp.length))) { s1 with hp := s1.hp ++ [.exc c] } σ' (upd H' a (ExK (.ref (R.exA c)) none a)) := by
              refine ⟨rel1.hp.push g ⟨_, upd_same⟩ upd_same, rel1.len, fun k sv q2 => ?_, rel1.since.setr h0 g, rel1.base, Nat.le_trans rel1.le (by simp), rel1.ent⟩
              obtain ⟨v, q1, k2⟩ := rel1.env k sv q2
              refine ⟨v, q1, ?_⟩
              cases sv with
              | v x => exact VR.mono m x v k2
              | own c =>
                obtain ⟨b, q3, gb, k3⟩ := k2
                exact ⟨b, q3, by rw [setG_ne fun z => by rw [z, g] at gb; cases gb]; exact gb, k3.mono m rfl⟩
            have vr : VR R.K (setG G' a (some (.obj s1.hp.length))) (upd H' a (ExK (.ref (R.exA c)) none a)) (.ref s1.hp.length) (.ref a) := by
              unfold VR
              exact ⟨a, rfl, setG_same⟩
            have rel3 := rel2.setSlot (i := i) (sv := some (.v (.ref s1.hp.length))) hi' (fun x e => by cases e; exact vr)
            have rel4 := rel3.setSlot (i := j) (sv := some (.v (.ref s1.hp.length))) (by simpa using hj') (fun x e => by cases e; exact vr)
            have rel5 := rel4.unset (i := i)
            exact ⟨.ref a, List.getElem?_set_self hiσ, o _ _ _ rel5 ((ev.updNew hH g).setr hH g)⟩
          · exact o.elim
        · subst hb
          exact o G' σ' H' _ d rel' ev ⟨rfl, e2, e3, e4⟩
/-! isinstance(e, C) of a caught exception -/
structure IsX (R : RC) (K : PySem.W.Frag) (cv : Value) (km : Nat → Option Bool) : Prop where
  ok : ∀ c b, km c = some b → ExcC K (R.exA c) ∧ PySem.W.kitOne K (.ref (R.exA c)) cv = some b
def pIsX (km : Nat → Option Bool) (r : RV) (s : MS) : Out RV := match r with
  | .v (.ref n) => match s.hp[n]? with
    | some (.exc c) => (match km c with | some b => .ok (.v (.bl b)) s | none => .bad)
    | _ => .bad
  | _ => .bad
def mIsX (km : Nat → Option Bool) (f : ME) : ME := fun s => (f s).bind fun r s1 => pIsX km r s1
theorem isX_ok {H1 : Hp} {G1 : Gh} {s1 : MS} {km : Nat → Option Bool} {cv : Value} {c : V} {r : RV} {y : V} {Q : VK} (I : IsX R R.K cv km) (hcv : ∀ u, RelV c u → u = cv) (w : Way R F σ G H G1 H1 s1) (rr : RR R σ H G1 H1 r y) (o : OutX rlE R F W σ G H (pIsX km r s1) Q) : rIsK R.K [y, c] H1 Q := by
  unfold pIsX at o
  split at o
  · rename_i n
    split at o
    · rename_i ec hh
      split at o
      · rename_i b hb
        obtain ⟨h1, h2⟩ := I.ok ec b hb
        have rr : VR R.K G1 H1 (.ref n) y := rr
        unfold VR at rr
        obtain ⟨a, rfl, ga⟩ := rr
        obtain ⟨a', ga', ho⟩ := w.rel.hp.objs n _ hh
        have := w.rel.hp.uniq a' a n ga' ga
        subst this
        exact ⟨a', R.exA ec, c, cv, b, rfl, ho, h1, hcv, h2, finB w o⟩
      · exact o.elim
    · exact o.elim
  · exact o.elim
theorem je_isX {e : Expr} {f : ME} {x : Str} {C : Addr} {km : Nat → Option Bool} {p tp pos : Pos} (he : JE X R W e f) (hm : X.mg "isinstance" = none) (hx : X.mg x = some (.ref C)) (I : IsX R X.K (.ref C) km) (hg : Gl X "isinstance" := by rfl) (hgx : Gl X x := by rfl) (hd : (x == ("__debug__" : Str)) = false := by decide)
    (hs : starEach (e :: [.Name x tp]) X.env = (false, eval e X.env) :: starEach [.Name x tp] X.env := by rfl) (hs2 : starEach [.Name x tp] X.env = (false, eval (.Name x tp) X.env) :: starEach [] X.env := by rfl) (hpl : (backTo pos (starEach [.Name x tp] X.env)).any (·.1) = false := by rfl) :
    JE X R W (.Call (.Name "isinstance" p) [e, .Name x tp] [] pos) (mIsX km f) := fun hK F =>
  PE.imp (pe_callB call_isK hg hm PyProof.Rows.boot_isinstance (pa_cons (he hK F) (pa_cons (pe_glob (v := .ref C) hgx hx rfl hd) pa_nil hs2) hs) (by decide) (by decide) hs hpl) fun σ H Q h => by
    refine (first (M := rlE) h).mono fun y H1 ⟨G, r, s1, G1, w, rr, o⟩ => ?_
    have := isX_ok (c := .ref C) (by rw [hK]; exact I) (fun u h => h) w rr o
    rw [hK] at this
    exact this
theorem je_isXb {e : Expr} {f : ME} {x : Str} {T : String} {km : Nat → Option Bool} {p tp pos : Pos} (he : JE X R W e f) (hm : X.mg "isinstance" = none) (hx : X.mg x = none) (hb : bootBuiltins x = some (.type T)) (I : IsX R X.K (.type T) km) (hg : Gl X "isinstance" := by rfl) (hgx : Gl X x := by rfl) (hn : x ≠ "__name__" := by decide) (hd : (x == ("__debug__" : Str)) = false := by decide)
    (hs : starEach (e :: [.Name x tp]) X.env = (false, eval e X.env) :: starEach [.Name x tp] X.env := by rfl) (hs2 : starEach [.Name x tp] X.env = (false, eval (.Name x tp) X.env) :: starEach [] X.env := by rfl) (hpl : (backTo pos (starEach [.Name x tp] X.env)).any (·.1) = false := by rfl) :
    JE X R W (.Call (.Name "isinstance" p) [e, .Name x tp] [] pos) (mIsX km f) := fun hK F =>
  PE.imp (pe_callB call_isK hg hm PyProof.Rows.boot_isinstance (pa_cons (he hK F) (pa_cons (pe_bltn (v := .ty T) hgx hx hb rfl hn hd) pa_nil hs2) hs) (by decide) (by decide) hs hpl) fun σ H Q h => by
    refine (first (M := rlE) h).mono fun y H1 ⟨G, r, s1, G1, w, rr, o⟩ => ?_
    have := isX_ok (c := .ty T) (by rw [hK]; exact I) (fun u h => h) w rr o
    rw [hK] at this
    exact this
end
end Mi
set_option Elab.async false
set_option linter.all false
set_option maxRecDepth 100000
set_option maxHeartbeats 4000000
namespace Mi
open PySem PySem.Spec PyProof.Rows L2
/-! the __init__ of an own exception over ValueError that only calls ValueError.__init__(self, text) -/
theorem exc_wish {K : PySem.W.Frag} {C : Addr} {vs : List V} {H : Hp} {Q : VK} {E : XK} {x : Str} {N : List Str} (T : OexC K C) (h : spI C vs H Q E) :
    tDrop (tVeI K (tCons (tVar 0) (tCons (tC (.str x)) tNil))) { nx := fun _ H' => Q .non H', rt := Q } (L2.start ("self" :: N) vs) H := by
  obtain ⟨a, rfl, e, q⟩ := h
  exact ⟨.ref a, rfl, a, C, [.str x], rfl, by simp, T, e, q⟩
theorem names_own {X : Cx} {x : Str} {c : Value} (hm : X.mg x = some c) (hg : Gl X x := by rfl) (hd : (x == ("__debug__" : Str)) = false := by decide) : Names X x c := ⟨hg, hd, .inl hm⟩
theorem boot_ValueError : bootBuiltins "ValueError" = some (.type "ValueError") := by decide +kernel
end Mi
set_option Elab.async false
set_option linter.all false
set_option maxRecDepth 100000
set_option maxHeartbeats 4000000
namespace Mi
open PySem PySem.Spec PyProof.Rows L2
theorem flyingZ_keeps {B h h' : Heap} {l : List Env} {a : Addr} {Z : Obj → Prop} (f : HandSPX.FlyingZ B l a Z h) (k : ∀ b o, h.get? b = some o → h'.get? b = some o) : HandSPX.FlyingZ B l a Z h' := by
  obtain ⟨f1, f2, f3, oe, vs, T, oT, ts, he, hz, hd, h1, hnT, hTe, hT, hdT, h3⟩ := f
  exact ⟨fun b o e => k b o (f1 b o e), f2, f3.of_keeps fun b o e _ => ⟨o, k b o e, rfl⟩, oe, vs, T, oT, ts, k _ _ he, hz, hd, h1, hnT, hTe, k _ _ hT, hdT, h3⟩
/-- the test of an except clause: it answers cm of the exception's class, and lays at most new objects -/
def Clause (X : Cx) (ec : Expr) (cm : Value → Option Bool) : Prop := ∀ {a : Addr} {oe : Obj} {pn pins : List (Addr × Obj)} {σ : L2.St} {H : Hp} {s : Shared} {cls : Value} {b : Bool} {Q : Bool → Shared → Prop} {E : Value → Shared → Prop},
  Inv (X.suite a ((a, oe) :: pn)) pins σ H s → PySem.W.Looks (model X.prog X.w) s.heap (typeOf (.ref a)) cls → cm cls = some b →
  (∀ h', (∀ b o, s.heap.get? b = some o → h'.get? b = some o) → Q b { s with heap := h' }) →
  wpAny (model X.prog X.w) (X.A.mark (some (.ref a))) (eval ec X.env) (fun c s₁ => wpAny (model X.prog X.w) (X.A.mark (some (.ref a))) (excMatches (.ref a) c) Q E s₁) E s
def wAsC (cm : Value → Option Bool) (i : Nat) (ts : TS) (Wout : WX) (D : Ends) : WX := fun cls d σ H =>
  ∃ b, cm cls = some b ∧ (b = true → ∀ a, H a = none → ts { nx := fun σ' H' => D.nx (σ'.set i none) H', rt := D.rt, bk := fun σ' H' => D.bk (σ'.set i none) H', ct := fun σ' H' => D.ct (σ'.set i none) H' } (σ.set i (some (.ref a))) (upd H a (ExK cls d a))) ∧
    (b = false → Wout cls d σ H)
section
variable {X : Cx} {n : Str} {ec : Expr} {cm : Value → Option Bool} {i : Nat} {body suite : List Stmt} {b₀ : Stmt} {np pos pos' : Pos} {tb : WX → TS} {ts : TS} {Wout : WX}
theorem ps_try_asC (hs : X.stack = X.env :: X.outer) (hf : X.env.frame = some X.env.locals) (hN : X.N.Nodup) (hi : X.N[i]? = some n) (hln : X.env.kindOf n = some .local) (hc : Clause X ec cm) (tk : Takes X Wout)
    (hb : ∀ (W : WX) (pn : List (Addr × Obj)) (xe : Value → Shared → Prop), Takes (X.tr pn xe) W → PassesOwn (model X.prog X.w) X.A X.env xe → PSs (X.tr pn xe) body (tb W))
    (hsu : ∀ (a : Addr) (pn : List (Addr × Obj)), PSs (X.suite a pn) (b₀ :: suite) ts) :
    PS X (.Try body [.ExceptHandler (some ec) (some n) (b₀ :: suite) pos'] [] [] pos) (fun D σ H => tb (wAsC cm i ts Wout D) D σ H) := by
  refine ⟨fun pins s σ H D I h => ?_⟩
  have ok := I.ok
  have hfr : X.A.frames = some (X.env :: X.outer) := by rw [ok.frames, hs]
  have hloc : Loc X.env.scope n := .inl hln
  refine wpAny_Try_except ?_
  refine wpAny_mono ((hb (wAsC cm i ts Wout D) (X.pn ++ pins) (fun e s₁ => wpAny (model X.prog X.w) X.A (noteFrame e X.env) (fun _ s₂ => wpAny (model X.prog X.w) X.A (setFlight e none) (fun _ s₃ =>
    wpAny (model X.prog X.w) X.A (handleBy e X.env [.ExceptHandler (some ec) (some n) (b₀ :: suite) pos']) (SP X pins D) X.xe s₃) X.xe s₂) X.xe s₁) (fun u s' xx => ?_) PassesOwn.looking).run [] s σ H D (I.toTry _) h) (fun f s1 hsp => ?_) (fun e s1 he => he)
  · obtain ⟨a, B, sI, pins', σ', H', cls, d, rfl, J', nb, up, sky, na, os, ag, b, hb1, hyes, hno⟩ := xx
    have J : Inv X pins σ' H' sI := J'.ofTry ok
    have sky' : Sky B (X.env :: X.outer) a (Zc cls d) X.env.locals s'.heap := by rw [← hs]; exact sky
    show wpAny (model X.prog X.w) X.A (noteFrame (.ref a) X.env) _ _ _
    refine Sky.land Zc.steady hfr hf sky' fun h2 fl2 up2 => ?_
    have J2 : Inv X pins σ' H' { s' with heap := h2 } := J.landed nb fl2.1 (up.trans up2) os ag
    obtain ⟨oe2, vs2, he2, hz2, hd2⟩ := fl2.there
    have notFr : ∀ {h : Heap} {o : Obj} {vs : Array Value}, h.FunFrames B (X.env :: X.outer) → h.get? a = some o → o.data = .fields vs → a ∉ frs (X.env :: X.outer) := fun {h o vs} ff e dd hm => by
      obtain ⟨_, o', e', hnf⟩ := ff.mem hm
      rw [e] at e'; cases e'
      exact hnf _ dd
    have nfr := notFr fl2.2.2.1 he2 hd2
    have nL : a ≠ X.env.locals := fun z => nfr (List.mem_filterMap.mpr ⟨X.env, List.mem_cons_self, by rw [hf, z]⟩)
    have nF : a ∉ X.fs := fun hm => by
      obtain ⟨e, he, q⟩ := List.mem_filterMap.mp hm
      exact nfr (List.mem_filterMap.mpr ⟨e, List.mem_cons_of_mem _ he, q⟩)
    have S2 := J2.suite he2 hd2 na nL nF
    refine wpAny_handleBy_cons (codeAny_handlers_test ?_) (by intro q; cases q)
    have LT : PySem.W.Looks (model X.prog X.w) h2 (typeOf (.ref a)) cls := fun A Q E s k q => wpAny_typeOf_ref (k _ _ he2) (by rw [hz2.1]; exact q)
    refine hc S2 LT hb1 fun h3 k3 => ?_
    have fl3 := flyingZ_keeps fl2 k3
    have up3 : s'.heap.UpToSlots h3 := fun b o e hn => by
      obtain ⟨sl, q⟩ := up2 b o e hn
      exact ⟨sl, k3 _ _ q⟩
    cases b with
    | true =>
      refine codeAny_handlers_suite_as ?_
      refine HandSPX.lands_againZ fl3 fun h4 fl4 up4 => ?_
      obtain ⟨oe4, vs4, he4, hz4, hd4⟩ := fl4.there
      obtain ⟨G, g1, g2⟩ := restrict h4 fun b => decide (b ≠ a)
      have gk : ∀ b o, b ≠ a → h4.get? b = some o → G.get? b = some o := fun b o hb e => by rw [g1 b (decide_eq_true hb)]; exact e
      have ga : G.get? a = none := g2 a (decide_eq_false fun z => z rfl)
      have gs : ∀ b o, G.get? b = some o → h4.get? b = some o := fun b o e => by
        by_cases hb : b = a
        · rw [hb, ga] at e; cases e
        · rw [← g1 b (decide_eq_true hb)]; exact e
      have sa : sI.heap.get? a = none := by
        cases q : sI.heap.get? a with
        | none => rfl
        | some o =>
          have z := nb a o q (by rw [hs]; exact nfr)
          rw [fl4.2.1] at z; cases z
      have stG : B.StaysIn G := fun b o e => gk b o (fun z => by rw [z, fl4.2.1] at e; cases e) (fl4.1 b o e)
      have up5 : sI.heap.UpToSlots h4 := (up.trans up3).trans up4
      have upG : sI.heap.UpToSlots G := fun b o e hn => by
        have hba : b ≠ a := fun z => by rw [z, sa] at e; cases e
        obtain ⟨sl, q⟩ := up5 b o e hn
        exact ⟨sl, gk b _ hba q⟩
      have JG : Inv X pins σ' H' { s' with heap := G } := J.landed nb stG upG os ag
      have JT : Inv X pins σ' (upd H' a (ExK cls d a)) { s' with heap := h4 } := JG.laidN (h' := h4) (t' := s'.toks) (fun b u e => gs b u e) ga na (exK_ok he4 hz4 hd4)
      refine store_ok (X := X.suite a (X.pn ++ pins)) (v := .ref a) (suiteT JT) hN hi hloc rfl (fun s5 S5 => ?_) (.inr hln)
      refine wpAny_mono ((hsu a (X.pn ++ pins)).run [] s5 _ _ _ S5 (hyes rfl a na)) (fun f s6 hsp => ?_) (fun _ _ z => False.elim z)
      have end_ : ∀ {σ6 : L2.St} {H6 : Hp} {Q : Shared → Prop}, Inv (X.suite a (X.pn ++ pins)) [] σ6 H6 s6 → (∀ s7, Inv X pins (σ6.set i none) H6 s7 → Q s7) →
          wpAny (model X.prog X.w) X.A (do bindName X.env n .none; unbindBehindTheSuite X.env n pos') (fun _ s7 => Q s7) X.xe s6 := fun {σ6 H6 Q} S6 hq => gone_ok (unsuiteT S6 ok) hN hi hln hq
      cases f with
      | next =>
        obtain ⟨σ6, H6, S6, q6⟩ := hsp
        exact end_ S6 fun s7 J7 => ⟨_, _, J7, q6⟩
      | brk =>
        obtain ⟨σ6, H6, S6, q6⟩ := hsp
        exact end_ S6 fun s7 J7 => ⟨_, _, J7, q6⟩
      | cont =>
        obtain ⟨σ6, H6, S6, q6⟩ := hsp
        exact end_ S6 fun s7 J7 => ⟨_, _, J7, q6⟩
      | ret u =>
        obtain ⟨v6, σ6, H6, S6, r6, q6⟩ := hsp
        exact end_ S6 fun s7 J7 => ⟨_, _, _, J7, r6, q6⟩
    | false =>
      show wpAny _ X.A (handleBy (.ref a) X.env []) _ _ _
      refine wpAny_handleBy_nil ?_
      obtain ⟨k1, k2, k3', oe, vs, T, oT, ts', he, hz, hd, h1, hr⟩ := id fl3
      unfold PySem.passOn
      refine wpAny_bind (wpAny_field he hd h1 ?_)
      rw [if_neg (show ¬ ((Value.ref T == Value.none) = true) from by simp)]
      have fin : wpAny (model X.prog X.w) X.A (setFlight (.ref a) X.env.frame) (fun _ s4 => wpAny (model X.prog X.w) X.A (throw (.ref a) : Sem Flow) (SP X pins D) X.xe s4) X.xe { s' with heap := h3 } := by
        rw [hf]
        refine HandSPX.setFlight_upZ fl3 fun h4 hh4 up4 => wpAny_throw (tk _ _ ?_)
        exact ⟨a, B, sI, pins, σ', H', cls, d, rfl, J, nb, (up.trans up3).trans up4, .inr (.inr (by rw [hs]; exact hh4)), na, os, ag, hno rfl⟩
      first
        | exact wpAny_bind (wpAny_pure (wpAny_bind fin))
        | exact wpAny_bind fin
  · cases f with
    | next =>
      obtain ⟨σ', H', J', q⟩ := hsp
      exact wpAny_execs_nil ⟨σ', H', J'.ofTry ok, q⟩
    | brk =>
      obtain ⟨σ', H', J', q⟩ := hsp
      exact ⟨σ', H', J'.ofTry ok, q⟩
    | cont =>
      obtain ⟨σ', H', J', q⟩ := hsp
      exact ⟨σ', H', J'.ofTry ok, q⟩
    | ret u =>
      obtain ⟨v, σ', H', J', r, q⟩ := hsp
      exact ⟨v, σ', H', J'.ofTry ok, r, q⟩
end
section
variable {X : Cx}
theorem names_ev {a : Addr} {oe : Obj} {pn pins : List (Addr × Obj)} {σ : L2.St} {H : Hp} {s : Shared} {x : Str} {np : Pos} {c : Value} {Q : Value → Shared → Prop} {E : Value → Shared → Prop} (hc : Names X x c) (S : Inv (X.suite a ((a, oe) :: pn)) pins σ H s) (q : Q c s) :
    wpAny (model X.prog X.w) (X.A.mark (some (.ref a))) (eval (.Name x np) X.env) Q E s := by
  obtain ⟨hg, hdbg, hm | ⟨hm, hv, hnn⟩⟩ := hc
  · exact ld_glob (X := X.suite a ((a, oe) :: pn)) S hg hm q hdbg
  · exact ld_blt (X := X.suite a ((a, oe) :: pn)) S hg hm hv q hnn hdbg
theorem clause_name {x : Str} {np : Pos} {c : Value} (hc : Names X x c) : Clause X (.Name x np) (fun cls => PySem.W.exmOne X.K cls c) := by
  intro a oe pn pins σ H s cls b Q E S LT hb h
  exact names_ev hc S ((PySem.W.exm_one (M := model X.prog X.w) S.kIn LT hb).here (h s.heap fun _ _ z => z))
theorem clause_tup2 {x1 x2 : Str} {p1 p2 : Pos} {k : Nat} {pos : Pos} {c1 c2 : Value} (h1 : Names X x1 c1) (h2 : Names X x2 c2)
    (e1 : starEach [.Name x1 p1, .Name x2 p2] X.env = (false, eval (.Name x1 p1) X.env) :: starEach [.Name x2 p2] X.env := by rfl) (e2 : starEach [.Name x2 p2] X.env = (false, eval (.Name x2 p2) X.env) :: starEach [] X.env := by rfl) : Clause X (.Tuple [.Name x1 p1, .Name x2 p2] k pos) (fun cls => PySem.W.exmAny X.K cls [c1, c2]) := by
  intro a oe pn pins σ H s cls b Q E S LT hb h
  refine wpAny_Tuple_spliced (args_cons (names_ev h1 S (args_cons (names_ev h2 S (args_nil ?_)) e2)) e1) 
  refine ⟨(show 2 ≤ sizeLine by rw [sizeLine_eq]; decide), ?_⟩
  have kk : ∀ b o, s.heap.get? b = some o → (s.heap.push { cls := .type "tuple", data := .seq [c1, c2].toArray }).get? b = some o := fun b o e => Heap.get?_push_of_some _ e
  exact (PySem.W.exm_tup2 (M := model X.prog X.w) (S.kIn.keeps kk) (LT.keeps kk) (Heap.get?_push_size _ rfl) hb).here (h _ kk)
theorem clause_tup3 {x1 x2 x3 : Str} {p1 p2 p3 : Pos} {k : Nat} {pos : Pos} {c1 c2 c3 : Value} (h1 : Names X x1 c1) (h2 : Names X x2 c2) (h3 : Names X x3 c3)
    (e1 : starEach [.Name x1 p1, .Name x2 p2, .Name x3 p3] X.env = (false, eval (.Name x1 p1) X.env) :: starEach [.Name x2 p2, .Name x3 p3] X.env := by rfl) (e2 : starEach [.Name x2 p2, .Name x3 p3] X.env = (false, eval (.Name x2 p2) X.env) :: starEach [.Name x3 p3] X.env := by rfl) (e3 : starEach [.Name x3 p3] X.env = (false, eval (.Name x3 p3) X.env) :: starEach [] X.env := by rfl) : Clause X (.Tuple [.Name x1 p1, .Name x2 p2, .Name x3 p3] k pos) (fun cls => PySem.W.exmAny X.K cls [c1, c2, c3]) := by
  intro a oe pn pins σ H s cls b Q E S LT hb h
  refine wpAny_Tuple_spliced (args_cons (names_ev h1 S (args_cons (names_ev h2 S (args_cons (names_ev h3 S (args_nil ?_)) e3)) e2)) e1) 
  refine ⟨(show 3 ≤ sizeLine by rw [sizeLine_eq]; decide), ?_⟩
  have kk : ∀ b o, s.heap.get? b = some o → (s.heap.push { cls := .type "tuple", data := .seq [c1, c2, c3].toArray }).get? b = some o := fun b o e => Heap.get?_push_of_some _ e
  exact (PySem.W.exm_tup3 (M := model X.prog X.w) (S.kIn.keeps kk) (LT.keeps kk) (Heap.get?_push_size _ rfl) hb).here (h _ kk)
theorem clause_tup4 {x1 x2 x3 x4 : Str} {p1 p2 p3 p4 : Pos} {k : Nat} {pos : Pos} {c1 c2 c3 c4 : Value} (h1 : Names X x1 c1) (h2 : Names X x2 c2) (h3 : Names X x3 c3) (h4 : Names X x4 c4)
    (e1 : starEach [.Name x1 p1, .Name x2 p2, .Name x3 p3, .Name x4 p4] X.env = (false, eval (.Name x1 p1) X.env) :: starEach [.Name x2 p2, .Name x3 p3, .Name x4 p4] X.env := by rfl) (e2 : starEach [.Name x2 p2, .Name x3 p3, .Name x4 p4] X.env = (false, eval (.Name x2 p2) X.env) :: starEach [.Name x3 p3, .Name x4 p4] X.env := by rfl) (e3 : starEach [.Name x3 p3, .Name x4 p4] X.env = (false, eval (.Name x3 p3) X.env) :: starEach [.Name x4 p4] X.env := by rfl) (e4 : starEach [.Name x4 p4] X.env = (false, eval (.Name x4 p4) X.env) :: starEach [] X.env := by rfl) : Clause X (.Tuple [.Name x1 p1, .Name x2 p2, .Name x3 p3, .Name x4 p4] k pos) (fun cls => PySem.W.exmAny X.K cls [c1, c2, c3, c4]) := by
  intro a oe pn pins σ H s cls b Q E S LT hb h
  refine wpAny_Tuple_spliced (args_cons (names_ev h1 S (args_cons (names_ev h2 S (args_cons (names_ev h3 S (args_cons (names_ev h4 S (args_nil ?_)) e4)) e3)) e2)) e1) 
  refine ⟨(show 4 ≤ sizeLine by rw [sizeLine_eq]; decide), ?_⟩
  have kk : ∀ b o, s.heap.get? b = some o → (s.heap.push { cls := .type "tuple", data := .seq [c1, c2, c3, c4].toArray }).get? b = some o := fun b o e => Heap.get?_push_of_some _ e
  exact (PySem.W.exm_tup4 (M := model X.prog X.w) (S.kIn.keeps kk) (LT.keeps kk) (Heap.get?_push_size _ rfl) hb).here (h _ kk)
end
section
variable {X : Cx} {R : RC} {W : WX} {F : FI} {σ : L2.St} {G : Gh} {H : Hp} {s : MS}
theorem js_tryC {n y : Str} {i j : Nat} {ec : Expr} {cmv : Value → Option Bool} {cm : Nat → Option Bool} {body : List Stmt} {fb : MSt} {py pn pa pos pos' : Pos} (hN : X.N.Nodup) (hc : Clause X ec cmv) (tk : Takes X W) (hi : X.N[i]? = some n) (hj : X.N[j]? = some y)
    (hcm : ∀ c b, cm c = some b → cmv (.ref (R.exA c)) = some b)
    (hb : ∀ (W' : WX) (pn : List (Addr × Obj)) (xe : Value → Shared → Prop), Takes (X.tr pn xe) W' → PassesOwn (model X.prog X.w) X.A X.env xe → JB (X.tr pn xe) R W' body fb)
    (hs : X.stack = X.env :: X.outer := by rfl) (hf : X.env.frame = some X.env.locals := by rfl) (hln : X.env.kindOf n = some .local := by rfl)
    (hv : Vis X.env.scope n := by exact .inl rfl) (hly : Loc X.env.scope y := by first | exact Or.inl rfl | exact Or.inr rfl)
    (hsw : ∀ (a : Addr) (pnn : List (Addr × Obj)), swapsWith (.Name n pn) (some (.Name y py)) pa.line (X.suite a pnn).env = pure false := by intro _ _; rfl) (hfy : X.fn y = true ∨ X.env.scope.names.lookup y = some .local := by first | exact .inl rfl | exact .inr rfl)
    (hdn : (n == ("__debug__" : Str)) = false := by decide) (hcn : (n == ("__classdict__" : Str)) = false := by decide) :
    JS X R W (.Try body [.ExceptHandler (some ec) (some n) [.Assign [.Name y py] (.Name n pn) pa] pos'] [] [] pos) (mTryE cm i j fb) := fun hK F =>
  PS.imp (ps_try_asC hs hf hN hi hln hc tk (tb := fun W' => tS R F W' fb) (ts := tAsg (tVar i) (gName j)) (fun W' pnn xe t p => hb W' pnn xe t p hK F)
    (fun a pnn => pss_one (ps_set (X := X.suite a pnn) hN hj hly (pe_var (X := X.suite a pnn) hi hv hdn hcn) (hsw a pnn) hfy))) fun D σ H ⟨G, s, rel, o⟩ => by
    refine ⟨G, s, rel, ?_⟩
    have o : OutS R F W G H (mTryE cm i j fb s) D := o
    unfold mTryE at o
    cases q : fb s with
    | ok fl s2 =>
      rw [q] at o
      cases fl with
      | next => exact o
      | ret r => exact o
    | bad => rw [q] at o; exact o.elim
    | exc c xs s1 =>
      rw [q] at o
      simp only at o
      intro G' σ' H' cls d rel' ev ⟨e1, e2, e3, e4⟩
      subst e1
      cases qc : cm c with
      | none => rw [qc] at o; exact o.elim
      | some b =>
        rw [qc] at o
        refine ⟨b, hcm c b qc, fun hb a ha => ?_, fun hb => ?_⟩
        · subst hb
          simp only at o
          split at o
          · rename_i hh
            obtain ⟨rfl, hi', hj'⟩ := hh
            rw [e3 rfl]
            have hiσ : i < σ'.length := by rw [← rel'.len]; exact hi'
            have g : G' a = none := rel'.noRole ha
            have rel1 := rel'.alloc (o := ExK (.ref (R.exA c)) none a) ha
            have hH : H a = none := fresh_back ev ha
            have h0 : F.H0 a = none := fresh_back rel'.since ha
            have m : Mo G' (upd H' a (ExK (.ref (R.exA c)) none a)) (setG G' a (some (.obj s1.hp.length))) (upd H' a (ExK (.ref (R.exA c)) none a)) := Mo.setr g
            have rel2 : Rel R F (setG G' a (some (.obj s1.hp.length))) { s1 with hp := s1.hp ++ [.exc c] } σ' (upd H' a (ExK (.ref (R.exA c)) none a)) := by
              refine ⟨rel1.hp.push g ⟨_, upd_same⟩ upd_same, rel1.len, fun k sv q2 => ?_, rel1.since.setr h0 g, rel1.base, Nat.le_trans rel1.le (by simp), rel1.ent⟩
              obtain ⟨v, q1, k2⟩ := rel1.env k sv q2
              refine ⟨v, q1, ?_⟩
              cases sv with
              | v x => exact VR.mono m x v k2
              | own c =>
                obtain ⟨b, q3, gb, k3⟩ := k2
                exact ⟨b, q3, by rw [setG_ne fun z => by rw [z, g] at gb; cases gb]; exact gb, k3.mono m rfl⟩
            have vr : VR R.K (setG G' a (some (.obj s1.hp.length))) (upd H' a (ExK (.ref (R.exA c)) none a)) (.ref s1.hp.length) (.ref a) := by
              unfold VR
              exact ⟨a, rfl, setG_same⟩
            have rel3 := rel2.setSlot (i := i) (sv := some (.v (.ref s1.hp.length))) hi' (fun x e => by cases e; exact vr)
            have rel4 := rel3.setSlot (i := j) (sv := some (.v (.ref s1.hp.length))) (by simpa using hj') (fun x e => by cases e; exact vr)
            have rel5 := rel4.unset (i := i)
            exact ⟨.ref a, List.getElem?_set_self hiσ, o _ _ _ rel5 ((ev.updNew hH g).setr hH g)⟩
          · exact o.elim
        · subst hb
          exact o G' σ' H' _ d rel' ev ⟨rfl, e2, e3, e4⟩
end
theorem exmAny_two {K : PySem.W.Frag} {cls c : Value} {r : List Value} {b d : Bool} (h1 : PySem.W.exmOne K cls c = some b) (h2 : PySem.W.exmAny K cls r = some d) : PySem.W.exmAny K cls (c :: r) = some (b || d) := by
  unfold PySem.W.exmAny
  rw [h1, h2]
end Mi
set_option Elab.async false
set_option linter.all false
set_option maxRecDepth 100000
set_option maxHeartbeats 4000000
namespace Mi
open PySem PySem.Spec PyProof.Rows L2
section
variable {X : Cx} {R : RC} {W : WX} {F : FI} {σ : L2.St} {G : Gh} {H : Hp} {s : MS}
/-! try: .. / except C as e: any suite -/
def mTryH (cm : Nat → Option Bool) (i : Nat) (fb fh : MSt) : MSt := fun s => match fb s with
  | .exc c xs s1 => (match cm c with
    | some true => if xs = [] ∧ i < s1.env.length then (match fh { s1 with hp := s1.hp ++ [.exc c], env := s1.env.set i (some (.v (.ref s1.hp.length))) } with
      | .ok .next s2 => .ok .next { s2 with env := s2.env.set i none }
      | .ok (.ret r) s2 => .ok (.ret r) s2
      | _ => .bad) else .bad
    | some false => .exc c xs s1
    | none => .bad)
  | o => o
theorem js_tryH {n x : Str} {i : Nat} {cv : Value} {cm : Nat → Option Bool} {body suite : List Stmt} {b₀ : Stmt} {fb fh : MSt} {np pos pos' : Pos} (hN : X.N.Nodup) (hc : Names X x cv) (tk : Takes X W) (hi : X.N[i]? = some n)
    (hcm : X.K = R.K → ∀ c b, cm c = some b → PySem.W.exmOne X.K (.ref (R.exA c)) cv = some b)
    (hb : ∀ (W' : WX) (pn : List (Addr × Obj)) (xe : Value → Shared → Prop), Takes (X.tr pn xe) W' → PassesOwn (model X.prog X.w) X.A X.env xe → JB (X.tr pn xe) R W' body fb)
    (hh : ∀ (a : Addr) (pnn : List (Addr × Obj)), JB (X.suite a pnn) R (fun _ _ _ _ => False) (b₀ :: suite) fh)
    (hs : X.stack = X.env :: X.outer := by rfl) (hf : X.env.frame = some X.env.locals := by rfl) (hln : X.env.kindOf n = some .local := by rfl) :
    JS X R W (.Try body [.ExceptHandler (some (.Name x np)) (some n) (b₀ :: suite) pos'] [] [] pos) (mTryH cm i fb fh) := fun hK F =>
  PS.imp (ps_try_asT hs hf hN hi hln hc tk (tb := fun W' => tS R F W' fb) (ts := tS R F (fun _ _ _ _ => False) fh) (fun W' pnn xe t p => hb W' pnn xe t p hK F)
    (fun a pnn => hh a pnn hK F)) fun D σ H ⟨G, s, rel, o⟩ => by
    refine ⟨G, s, rel, ?_⟩
    have o : OutS R F W G H (mTryH cm i fb fh s) D := o
    unfold mTryH at o
    cases q : fb s with
    | ok fl s2 =>
      rw [q] at o
      cases fl with
      | next => exact o
      | ret r => exact o
    | bad => rw [q] at o; exact o.elim
    | exc c xs s1 =>
      rw [q] at o
      simp only at o
      intro G' σ' H' cls d rel' ev ⟨e1, e2, e3, e4⟩
      subst e1
      cases qc : cm c with
      | none => rw [qc] at o; exact o.elim
      | some b =>
        rw [qc] at o
        refine ⟨b, hcm hK.symm c b qc, fun hb a ha => ?_, fun hb => ?_⟩
        · subst hb
          simp only at o
          split at o
          · rename_i hh
            obtain ⟨rfl, hi'⟩ := hh
            rw [e3 rfl]
            have hiσ : i < σ'.length := by rw [← rel'.len]; exact hi'
            have g : G' a = none := rel'.noRole ha
            have rel1 := rel'.alloc (o := ExK (.ref (R.exA c)) none a) ha
            have hH : H a = none := fresh_back ev ha
            have h0 : F.H0 a = none := fresh_back rel'.since ha
            have m : Mo G' (upd H' a (ExK (.ref (R.exA c)) none a)) (setG G' a (some (.obj s1.hp.length))) (upd H' a (ExK (.ref (R.exA c)) none a)) := Mo.setr g
            have rel2 : Rel R F (setG G' a (some (.obj s1.hp.length))) { s1 with hp := s1.hp ++ [.exc c] } σ' (upd H' a (ExK (.ref (R.exA c)) none a)) := by
              refine ⟨rel1.hp.push g ⟨_, upd_same⟩ upd_same, rel1.len, fun k sv q2 => ?_, rel1.since.setr h0 g, rel1.base, Nat.le_trans rel1.le (by simp), rel1.ent⟩
              obtain ⟨v, q1, k2⟩ := rel1.env k sv q2
              refine ⟨v, q1, ?_⟩
              cases sv with
              | v x => exact VR.mono m x v k2
              | own c =>
                obtain ⟨b, q3, gb, k3⟩ := k2
                exact ⟨b, q3, by rw [setG_ne fun z => by rw [z, g] at gb; cases gb]; exact gb, k3.mono m rfl⟩
            have vr : VR R.K (setG G' a (some (.obj s1.hp.length))) (upd H' a (ExK (.ref (R.exA c)) none a)) (.ref s1.hp.length) (.ref a) := by
              unfold VR
              exact ⟨a, rfl, setG_same⟩
            have rel3 := rel2.setSlot (i := i) (sv := some (.v (.ref s1.hp.length))) hi' (fun x e => by cases e; exact vr)
            have evn := (ev.updNew (o := ExK (.ref (R.exA c)) none a) hH g).setr (r := some (.obj s1.hp.length)) hH g
            refine ⟨_, _, rel3, ?_⟩
            cases qh : fh { s1 with hp := s1.hp ++ [.exc c], env := s1.env.set i (some (.v (.ref s1.hp.length))) } with
            | ok fl s2 =>
              rw [qh] at o
              cases fl with
              | next => exact fun G2 σ2 H2 r2 ev2 => o G2 (σ2.set i none) H2 r2.unset (evn.trans ev2)
              | ret r => exact fun G2 σ2 H2 v r2 k => o G2 σ2 H2 v r2 k
            | exc c2 xs2 s2 => rw [qh] at o; exact o.elim
            | bad => rw [qh] at o; exact o.elim
          · exact o.elim
        · subst hb
          exact o G' σ' H' _ d rel' ev ⟨rfl, e2, e3, e4⟩
end
end Mi
set_option Elab.async false
set_option linter.all false
set_option maxRecDepth 100000
set_option maxHeartbeats 4000000
namespace Mi
open PySem PySem.Spec PyProof.Rows L2
section
variable {X : Cx} {R : RC} {W : WX} {pos pp : Pos} {x : Str} {f : Addr} {fd : FuncData} {ps ks : List Str} {n k : Nat} {run : Fn}
/-! an instance made, its one parameter by its default -/
def mMakeD (c m : Nat) (run : Fn) (n : Nat) (dm : List MV) : ME := fun s => if (MV.ref s.hp.length :: dm).length = n then
    (mRun run (.ref s.hp.length :: dm) { s with hp := s.hp ++ [.inst c (List.replicate m none)] }).bind fun r s2 => (match r with
      | .v .non => .ok (.v (.ref s.hp.length)) s2
      | _ => .bad)
  else .bad
theorem vr_str {K : PySem.W.Frag} {z : List Nat} : ∀ G H, VRs K G H [.str z] [.str ⟨z.toArray⟩] := fun G H => VRs.cons (VR.mkStr' (K := K) (G := G) (H := H) rfl) (VRs.nil (K := K) (G := G) (H := H))
theorem run_makeSDD {pins : List (Addr × Obj)} {σ : L2.St} {H : Hp} {s : Shared} {Q : VK} {ds : List Value} {dvs : List V} {C : Addr} {sp : Sp} {E : L2.St → XK} (M : Mk X.K C f) (Fo : FnOk X.prog X.w X.K X.mg X.base (L2.CX X.prog X.w) k f fd ps sp) (hr : Room (k + 1) X.A) (hd : Vals dvs ds) (hb : Binds X.K fd ps ds)
    (hx : PassesAt (L2.CX X.prog X.w) X σ (E σ)) (I : Inv X pins σ H s) (h : ∀ p d, H p = none → H d = none → d ≠ p → sp (.ref p :: dvs) (upd (upd H d (.own p)) p (.ins C d [])) (fun v H2 => v = .non ∧ Q (.ref p) H2) (E σ)) :
    wpAny (model X.prog X.w) X.A (call (.ref C) []) (EP X pins σ Q) X.xe s := by
  have hq := h (s.heap.objs.size + 1) s.heap.objs.size (I.hok.fresh (Nat.le_succ _)) (I.hok.fresh (Nat.le_refl _)) (Nat.ne_of_lt (Nat.lt_succ_self _))
  have I2 := Inv.made (C := C) I
  have r2 : Vals (V.ref (s.heap.objs.size + 1) :: dvs) (Value.ref (s.heap.objs.size + 1) :: ds) := .cons rfl hd
  have hl : ([Value.ref (s.heap.objs.size + 1)] ++ ds).length = ps.length := by
    have := r2.length
    rw [List.singleton_append, ← this]; exact Fo.len _ _ _ _ hq
  have hb2 := hb _ [Value.ref (s.heap.objs.size + 1)] I2.kIn hl
  refine wpAny_call (make_map (f := f) I.kIn M.makes M.init (beq_iff_eq.mp M.fn) (codeAny_mono (Fo.run _ X.stack _ _ ⟨[Value.ref (s.heap.objs.size + 1)], []⟩ (Value.ref (s.heap.objs.size + 1) :: ds) _ _ (E σ) (hr.make C [] [])
    (I2.env0.make C [] []) hb2 r2 hq) fun r s' hq' => ?_))
  cases r with
  | error e => exact hx pins _ _ e s' I2 hq'
  | ok fl =>
    cases fl with
    | ret u =>
      obtain ⟨v, H', I3, rv, ev, q3⟩ := I2.after hq'
      subst ev
      exact ⟨rv, ⟨V.ref (s.heap.objs.size + 1), H', I3, rfl, q3⟩⟩
    | next => exact False.elim hq'
    | brk => exact False.elim hq'
    | cont => exact False.elim hq'
theorem je_makeD (c : Nat) {dm : List MV} {dvs : List V} (M : Mk X.K (R.cls c) f) (Fo : FnOk X.prog X.w X.K X.mg X.base (L2.CX X.prog X.w) k f fd ps (spF R n run)) (tk : Takes X W) (hr : Room (k + 1) X.A) (hm : X.mg x = some (.ref (R.cls c))) (hb : ∃ ds, Vals dvs ds ∧ Binds X.K fd ps ds) (hv : ∀ G H, VRs R.K G H dm dvs)
    {m : Nat} (hmm : (R.flds c).length = m := by rfl) (hg : Gl X x := by rfl) (hdb : (x == ("__debug__" : Str)) = false := by decide) :
    JE X R W (.Call (.Name x pp) [] [] pos) (mMakeD c m run n dm) := fun hK F => by
  obtain ⟨ds, hd, hb⟩ := hb
  subst hmm
  refine ⟨fun pins s σ H Q I h => ?_⟩
  refine wpAny_Call_Name_kw (ld_glob I hg hm ?_ hdb)
  obtain ⟨G, s1, rel, o⟩ := h
  have w : Way R F σ G H G H s1 := ⟨rel, .refl, rel.since⟩
  have o : OutX rlE R F W σ G H (mMakeD c (R.flds c).length run n dm s1) Q := o
  unfold mMakeD at o
  split at o
  · rename_i hl
    refine PySem.W.callWith_K0 I.kIn M.kp (run_makeSDD (E := WE W) M Fo hr hd hb (passAt tk σ) I fun p d hp hd' ne => ?_)
    obtain ⟨rel, ev, mo⟩ := make_way w rfl hp hd' ne
    have w2 : Way R F σ (setG G p (some (.obj s1.hp.length))) (upd (upd H d (.own p)) p (.ins (R.cls c) d [])) (setG G p (some (.obj s1.hp.length))) (upd (upd H d (.own p)) p (.ins (R.cls c) d [])) { s1 with hp := s1.hp ++ [.inst c (List.replicate (R.flds c).length none)] } := ⟨rel, .refl, rel.since⟩
    have vs : VRs R.K (setG G p (some (.obj s1.hp.length))) (upd (upd H d (.own p)) p (.ins (R.cls c) d [])) (.ref s1.hp.length :: dm) (.ref p :: dvs) := VRs.cons (by unfold VR; exact ⟨p, rfl, setG_same⟩) (hv _ _)
    refine run_sp w2 vs hl ?_
    cases q : mRun run (.ref s1.hp.length :: dm) { s1 with hp := s1.hp ++ [.inst c (List.replicate (R.flds c).length none)] } with
    | ok rv s2 =>
      rw [q] at o
      intro G' H' v rel' ev' rr
      have rr : RR R σ _ G' H' rv v := rr
      simp only [Out.bind_ok] at o
      split at o
      · cases RR.non rr
        refine ⟨rfl, o _ _ _ rel' (ev.trans ev') ?_⟩
        show VR _ _ _ _ _
        unfold VR
        exact ⟨p, rfl, ev'.ob p _ setG_same⟩
      · exact o.elim
    | exc c ys s2 =>
      rw [q] at o
      exact fun G' H' cls d rel' ev' x => o G' H' cls d rel' (ev.trans ev') x
    | bad => rw [q] at o; exact o.elim
  · exact o.elim
end
theorem dflt_str {K : PySem.W.Frag} {f D : Addr} {st : Stmt} {nm x qual : Str} {ps : List Str} {oc kV dc pm cd ct : Value} {od an : Option Addr} {sl : Array (Option Value)} {b : Str} {tb : Tok} {n : Nat}
    (l : K.lookup f = some ⟨oc, od, .func (PySem.W.fnOf x qual (defArgs st) (defBody st) (defScope st) .none kV dc pm an cd ct), sl⟩) (c : PySem.W.codeIn K cd qual = true) (k : PySem.W.keepIn K (.ref f) = true) (kd : kV = .ref D) (kn : PySem.W.nsIn K D nm = some (some (.str b tb)))
    (h : ∀ (D : Addr) (dc pm : Value) (an : Option Addr) (cd ct : Value) (us : List Value) (u : Value), us.length = n → KwChain D [(nm, u)] (bindArgs (PySem.W.fnOf x qual (defArgs st) (defBody st) (defScope st) .none (.ref D) dc pm an cd ct) ⟨us, []⟩) (ps.zip (us ++ [u]))) (hn : n + 1 = ps.length := by rfl) :
    ∃ ds, Vals [V.str b] ds ∧ Binds K (PySem.W.fnOf x qual (defArgs st) (defBody st) (defScope st) .none kV dc pm an cd ct) ps ds := by
  subst kd
  have F : FunD K x qual (defArgs st) (defBody st) (defScope st) [] [(nm, V.str b)] f (PySem.W.fnOf x qual (defArgs st) (defBody st) (defScope st) .none (.ref D) dc pm an cd ct) :=
    ⟨⟨oc, od, .none, .ref D, dc, pm, an, cd, ct, sl, rfl, l, c, .inl ⟨rfl, rfl⟩, .inr ⟨D, rfl, fun q hq => by
      rcases List.mem_cons.mp hq with e | e
      · subst e; exact ⟨_, kn, ⟨tb, rfl⟩⟩
      · cases e⟩⟩, k⟩
  exact F.binds0 n (by simp) hn fun D dc pm an cd ct us ks h1 h2 => by
    match ks, h2 with
    | [u], _ => exact h D dc pm an cd ct us u h1
end Mi
set_option Elab.async false
set_option linter.all false
set_option maxRecDepth 100000
set_option maxHeartbeats 4000000
namespace Mi
open PySem PySem.Spec PyProof.Rows L2
section
variable {X : Cx} {R : RC} {W : WX} {pos : Pos}
/-! tuple(x) of a list or a tuple -/
def opTupOf (r : RV) (s : MS) : Out RV := match r with
  | .v (.tup xs) => .ok (.v (.tup xs)) s
  | r => match lstOf s r with | some xs => .ok (.v (.tup xs)) s | none => .bad
def mTupOf (fa : ME) : ME := fun s => (fa s).bind opTupOf
theorem je_tupOf {a : Expr} {fa : ME} {p : Pos} (ha : JE X R W a fa) (hm : X.mg "tuple" = none) (hg : Gl X "tuple" := by rfl) (na : starEach [a] X.env = (false, eval a X.env) :: starEach [] X.env := by rfl) : JE X R W (.Call (.Name "tuple" p) [a] [] pos) (mTupOf fa) := fun hK F =>
  PE.imp (pe_tupleOf hg hm (ha hK F) na) fun σ H Q h => by
    refine (first (M := rlE) h).mono fun x H1 ⟨G, r, s1, G1, w, rr, o⟩ => ?_
    have rr : RR R σ H G1 H1 r x := rr
    unfold opTupOf at o
    split at o
    · rename_i xs
      obtain ⟨a, vs, rfl, k, h⟩ := RR.tup rr
      refine .inr ⟨a, vs, rfl, by rw [← hK]; exact k, o _ _ _ w.rel w.evo rr⟩
    · split at o
      · rename_i xs hx
        obtain ⟨a, vs, rfl, k, q⟩ := lst_ok w.rel rr hx
        exact .inl ⟨a, vs, rfl, by rw [← hK]; exact k, newTup w q o⟩
      · exact o.elim
/-! a tuple of texts among the globals -/
def GTupS (K : PySem.W.Frag) (mg : Str → Option Value) (x : Str) (zs : List (List Nat)) : Prop := ∃ a, mg x = some (.ref a) ∧ KtT K a (zs.map fun z => V.str ⟨z.toArray⟩)
def mInG (neg : Bool) (zs : List (List Nat)) (fa : ME) : ME := fun s => (fa s).bind fun r s1 => match r with
  | .v x => (match flatOf x with
    | some v => .ok (.v (.bl (neg ^^ inV v (zs.map fun z => V.str ⟨z.toArray⟩)))) s1
    | none => .bad)
  | _ => .bad
theorem tInG {F : FI} {fa : ME} {zs : List (List Nat)} {l : Addr} (h2 : KtT R.K l (zs.map fun z => V.str ⟨z.toArray⟩)) : ∀ σ H Q, tE R F W (mInG false zs fa) σ H Q → tOp (rIn R.K false) (tE R F W fa) (tC (.ref l)) σ H Q := fun σ H Q h => by
  refine (first (M := rlE) h).mono fun x H1 ⟨G, r, s1, G1, w, rr, o⟩ => ?_
  show rIn R.K false x (.ref l) H1 Q
  have rr : RR R σ H G1 H1 r x := rr
  cases r with
  | own c => exact o.elim
  | loc i => exact o.elim
  | fld n f => exact o.elim
  | v y =>
    simp only at o
    split at o
    · rename_i v e
      obtain ⟨rfl, f1⟩ := flat_ok (show VR R.K G1 H1 y x from rr) e
      exact ⟨l, _, rfl, .inr (.inr h2), f1, by simp [flatV], by simpa using finB w o⟩
    · exact o.elim
theorem je_inG {x : Str} {zs : List (List Nat)} {a : Expr} {fa : ME} {pp : Pos} (hm : GTupS X.K X.mg x zs) (ha : JE X R W a fa) (hg : Gl X x := by rfl) (hd : (x == ("__debug__" : Str)) = false := by decide) (hbm : behindInMarks .In (.Name x pp) = false := by rfl) :
    JE X R W (.Compare a [.In] [.Name x pp] pos) (mInG false zs fa) := fun hK F => by
  obtain ⟨l, h1, h2⟩ := hm
  exact PE.imp (pe_cmpR op_in_seq (ha hK F) (pe_glob hg h1 (v := .ref l) rfl hd) hbm) fun σ H Q h => hK ▸ tInG (hK ▸ h2) σ H Q h
theorem jt_inG {x : Str} {zs : List (List Nat)} {a : Expr} {fa : ME} {pp : Pos} (hm : GTupS X.K X.mg x zs) (ha : JE X R W a fa) (hg : Gl X x := by rfl) (hd : (x == ("__debug__" : Str)) = false := by decide) (hbm : behindInMarks .In (.Name x pp) = false := by rfl) :
    JT X R W (.Compare a [.In] [.Name x pp] pos) (mTestB (mInG false zs fa)) := fun hK F => by
  obtain ⟨l, h1, h2⟩ := hm
  exact PT.imp (pt_cmpR op_in_seq (ha hK F) (pe_glob hg h1 (v := .ref l) rfl hd) hbm) (tTestB fun σ H Q h => hK ▸ tInG (hK ▸ h2) σ H Q h)
end
end Mi
set_option Elab.async false
set_option linter.all false
set_option maxRecDepth 100000
set_option maxHeartbeats 4000000
namespace Mi
open PySem PySem.Spec PyProof.Rows L2
section
variable {prog : Program} {w : World} {A : Around} {E : Value → Shared → Prop} {s : Shared}
/-! a, .., *r, .., z = a tuple: what the star gets is a new list -/
theorem star_tup {l : Addr} {items : Array Value} {n i : Nat} {Q : List Value → Shared → Prop} (hh : A.handled = none) (hl : IsTup s.heap l items) (hi : i < n) (hn : n ≤ items.size + 1) (hz : items.size ≤ 16384)
    (h : ∀ (h' : Heap) (tk : Nat), (∀ b o, s.heap.get? b = some o → h'.get? b = some o) →
      Q (items.toList.take i ++ [.ref h'.objs.size] ++ (items.toList.drop i).drop (items.size + 1 - n)) { s with heap := h'.push { cls := .type "list", data := .seq ((items.toList.drop i).take (items.size + 1 - n)).toArray }, toks := tk }) :
    wpAny (model prog w) A (unpackItems (.ref l) n (some i)) Q E s := by
  have lt : l < s.heap.objs.size := by
    obtain ⟨o, ho, _⟩ := hl
    exact Heap.lt_size ho
  have ne : l ≠ s.heap.objs.size := Nat.ne_of_lt lt
  have len1 : (items.toList.take i).length = i := by rw [List.length_take, Array.length_toList]; omega
  have len2 : (items.toList.drop i).length = items.size - i := by rw [List.length_drop, Array.length_toList]
  have cut : (items.toList.drop i).length - (n - 1 - i) = items.size + 1 - n := by rw [len2]; omega
  unfold unpackItems notIterableAtAll
  refine wpAny_bind (wpAny_bind (wpAny_specialOf hl.typeIs slot_tuple_iter.lookup (wpAny_pure ?_)))
  simp only [Bool.false_eq_true, if_false]
  refine wpAny_bind (wpAny_holding (iter_tuple hl ?_))
  refine wpAny_bind (wpAny_holding (draw_tuple ne i 0 _ _ ⟨_, Heap.get?_push_size _ rfl, rfl, rfl⟩ (hl.push _) (by omega) fun h1 it1 e1 => ?_))
  rw [Nat.zero_add] at it1
  rw [List.drop_zero, if_neg (by rw [len1]; omega)]
  have hl1 : IsTup h1 l items := (hl.push _).extBut e1.extBut ne
  have lt1 : s.heap.objs.size < h1.objs.size := by
    obtain ⟨o, ho, _⟩ := it1
    exact Heap.lt_size ho
  refine wpAny_bind (wpAny_holding (PySem.W.kun_collect (s := { s with heap := h1 }) (T := "tuple_iterator") (.inr (.inr (.inr rfl))) (Walks.tuple (A := A.in1) hh s.heap.objs.size l ne items) (fun j u st => st.1.typeIs) (k := i) (by omega) ⟨it1, hl1⟩ lt1 (Nat.lt_trans lt lt1) (fun h2 tk k2 => ?_) (by rw [sizeLine_eq]; omega)))
  show wpAny _ _ (if (items.toList.drop i).length < n - 1 - i then _ else _) _ _ _
  rw [if_neg (by rw [len2]; omega)]
  show wpAny _ _ (newList ((items.toList.drop i).take ((items.toList.drop i).length - (n - 1 - i))) >>= fun d => pure (items.toList.take i ++ [d] ++ (items.toList.drop i).drop ((items.toList.drop i).length - (n - 1 - i)))) _ _ _
  rw [cut]
  have keep : ∀ b o, s.heap.get? b = some o → h2.get? b = some o := fun b o e => k2 b o (Nat.ne_of_lt (Heap.lt_size e)) (e1.extBut b o (Nat.ne_of_lt (Heap.lt_size e)) (Heap.get?_push_of_some _ e))
  exact wpAny_bind (wpAny_newList (wpAny_pure (h h2 tk keep)) (by rw [List.length_take, len2, sizeLine_eq]; omega))
theorem star_lst {l : Addr} {items : Array Value} {n i : Nat} {Q : List Value → Shared → Prop} (hh : A.handled = none) (hl : s.heap.IsList l items) (hi : i < n) (hn : n ≤ items.size + 1) (hz : items.size ≤ 16384)
    (h : ∀ (h' : Heap) (tk : Nat), (∀ b o, s.heap.get? b = some o → h'.get? b = some o) →
      Q (items.toList.take i ++ [.ref h'.objs.size] ++ (items.toList.drop i).drop (items.size + 1 - n)) { s with heap := h'.push { cls := .type "list", data := .seq ((items.toList.drop i).take (items.size + 1 - n)).toArray }, toks := tk }) :
    wpAny (model prog w) A (unpackItems (.ref l) n (some i)) Q E s := by
  have lt : l < s.heap.objs.size := by
    obtain ⟨o, ho, _⟩ := hl
    exact Heap.lt_size ho
  have ne : l ≠ s.heap.objs.size := Nat.ne_of_lt lt
  have len1 : (items.toList.take i).length = i := by rw [List.length_take, Array.length_toList]; omega
  have len2 : (items.toList.drop i).length = items.size - i := by rw [List.length_drop, Array.length_toList]
  have cut : (items.toList.drop i).length - (n - 1 - i) = items.size + 1 - n := by rw [len2]; omega
  unfold unpackItems notIterableAtAll
  refine wpAny_bind (wpAny_bind (wpAny_specialOf hl.typeIs slot_list_iter.lookup (wpAny_pure ?_)))
  simp only [Bool.false_eq_true, if_false]
  refine wpAny_bind (wpAny_holding (wpAny_pyIter_list hl ?_))
  refine wpAny_bind (wpAny_holding (PySem.W.kun_draw ne i 0 _ _ ⟨_, Heap.get?_push_size _ rfl, rfl, rfl⟩ (hl.push _) (by omega) fun h1 it1 e1 => ?_))
  rw [Nat.zero_add] at it1
  rw [List.drop_zero, if_neg (by rw [len1]; omega)]
  have hl1 : h1.IsList l items := (hl.push _).extBut e1.extBut ne
  have lt1 : s.heap.objs.size < h1.objs.size := by
    obtain ⟨o, ho, _⟩ := it1
    exact Heap.lt_size ho
  refine wpAny_bind (wpAny_holding (PySem.W.kun_collect (s := { s with heap := h1 }) (T := "list_iterator") (.inr (.inr (.inl rfl))) (Walks.list (A := A.in1) hh s.heap.objs.size l ne items) (fun j u st => st.1.typeIs) (k := i) (by omega) ⟨it1, hl1⟩ lt1 (Nat.lt_trans lt lt1) (fun h2 tk k2 => ?_) (by rw [sizeLine_eq]; omega)))
  show wpAny _ _ (if (items.toList.drop i).length < n - 1 - i then _ else _) _ _ _
  rw [if_neg (by rw [len2]; omega)]
  show wpAny _ _ (newList ((items.toList.drop i).take ((items.toList.drop i).length - (n - 1 - i))) >>= fun d => pure (items.toList.take i ++ [d] ++ (items.toList.drop i).drop ((items.toList.drop i).length - (n - 1 - i)))) _ _ _
  rw [cut]
  have keep : ∀ b o, s.heap.get? b = some o → h2.get? b = some o := fun b o e => k2 b o (Nat.ne_of_lt (Heap.lt_size e)) (e1.extBut b o (Nat.ne_of_lt (Heap.lt_size e)) (Heap.get?_push_of_some _ e))
  exact wpAny_bind (wpAny_newList (wpAny_pure (h h2 tk keep)) (by rw [List.length_take, len2, sizeLine_eq]; omega))
end
section
variable {X : Cx}
/-- the targets of a, .., *r, .., z: the star's list is new -/
def gStar (K : PySem.W.Frag) (n i : Nat) (t : TGs) : TG := fun v σ H Q => ∃ a xs, v = .ref a ∧ (SqT K H a xs ∨ SqL K H a xs) ∧ n ≤ xs.length + 1 ∧ xs.length ≤ 16384 ∧
  ∀ p, H p = none → t (xs.take i ++ [.ref p] ++ (xs.drop i).drop (xs.length + 1 - n)) σ (upd H p (.lst ((xs.drop i).take (xs.length + 1 - n)))) Q
theorem vals_take {xs : List V} {us : List Value} (h : Vals xs us) (i : Nat) : Vals (xs.take i) (us.take i) := by
  induction h generalizing i with
  | nil => simp only [List.take_nil, List.drop_nil]; exact .nil
  | cons r _ ih =>
    cases i with
    | zero => exact .nil
    | succ i => exact .cons r (ih i)
theorem vals_drop {xs : List V} {us : List Value} (h : Vals xs us) (i : Nat) : Vals (xs.drop i) (us.drop i) := by
  induction h generalizing i with
  | nil => simp only [List.take_nil, List.drop_nil]; exact .nil
  | cons r t ih =>
    cases i with
    | zero => exact .cons r t
    | succ i => exact ih i
theorem vals_app {xs ys : List V} {us ws : List Value} (h : Vals xs us) (k : Vals ys ws) : Vals (xs ++ ys) (us ++ ws) := by
  induction h with
  | nil => exact k
  | cons r _ ih => exact .cons r ih
theorem pg_star {es es' : List Expr} {k n i : Nat} {t : TGs} {pos : Pos} (hc : X.calm = true) (h : PGs X es' t) (hi : i < n := by decide)
    (he : (assignEach es X.env).map (·.2) = (assignEach es' X.env).map (·.2) := by rfl) (hn : (assignEach es X.env).length = n := by rfl) (hst : (assignEach es X.env).findIdx? (·.1) = some i := by rfl) : PG X (.Tuple es k pos) (gStar X.K n i t) := by
  refine ⟨fun pins s σ H v u Q I r hw => ?_⟩
  obtain ⟨a, xs, e1, hq, hl, hz, hw⟩ := hw
  subst e1
  cases r
  rw [arm_assign_Tuple]
  refine wpAny_bind (wpAny_standAt ?_)
  unfold unpack
  rw [hn, hst, he]
  have fin : ∀ (its : List Value), Vals xs its → ∀ (h' : Heap) (tk : Nat), (∀ b o, s.heap.get? b = some o → h'.get? b = some o) →
      wpAny (model X.prog X.w) X.A (assignInOrder ((assignEach es' X.env).map (·.2)) (its.take i ++ [.ref h'.objs.size] ++ (its.drop i).drop (its.length + 1 - n))) (fun _ s' => ∃ σ' H', Inv X pins σ' H' s' ∧ Q σ' H') X.xe
        { s with heap := h'.push { cls := .type "list", data := .seq ((its.drop i).take (its.length + 1 - n)).toArray }, toks := tk } := fun its rv h' tk kp => by
    have hlen := rv.length
    have hD : s.heap.get? h'.objs.size = none := by
      cases q : s.heap.get? h'.objs.size with
      | none => rfl
      | some o => exact absurd (Heap.lt_size (kp _ _ q)) (Nat.lt_irrefl _)
    have hH : H h'.objs.size = none := I.hok.gone hD
    have rm := vals_take (vals_drop rv i) (xs.length + 1 - n)
    have I1 : Inv X pins σ (upd H h'.objs.size (.lst ((xs.drop i).take (xs.length + 1 - n)))) { s with heap := h'.push { cls := .type "list", data := .seq ((its.drop i).take (its.length + 1 - n)).toArray }, toks := tk } :=
      I.laidN (t' := tk) (fun b u e => Heap.get?_push_of_some _ (kp b u e)) hD hH (show ObjOk X.prog X.w _ _ _ (.lst _) from ⟨by rw [List.length_take, List.length_drop, sizeLine_eq]; omega, _, 0, by rw [← hlen]; exact rm, Heap.get?_push_size _ rfl⟩)
    exact h.run pins _ σ _ _ _ Q I1 (vals_app (vals_app (vals_take rv i) (.cons (show RelV (V.ref h'.objs.size) (Value.ref h'.objs.size) from rfl) .nil)) (by rw [← hlen]; exact vals_drop (vals_drop rv i) _)) (hw _ hH)
  rcases hq with hq | hq
  · obtain ⟨its, rv, ht, _⟩ := I.tuple hq
    have hlen := rv.length
    refine wpAny_bind (wpAny_holding (star_tup (I.ok.hd hc) ht hi (by simp [← hlen]; exact hl) (by simp [← hlen]; exact hz) fun h' tk kp => ?_))
    exact fin its rv h' tk kp
  · obtain ⟨its, rv, ht, _⟩ := I.list hq
    have hlen := rv.length
    refine wpAny_bind (wpAny_holding (star_lst (I.ok.hd hc) ht.isList hi (by simp [← hlen]; exact hl) (by simp [← hlen]; exact hz) fun h' tk kp => ?_))
    exact fin its rv h' tk kp
end
section
variable {X : Cx} {R : RC} {W : WX} {pos : Pos}
def starL (n i : Nat) (xs : List MV) : List MV := xs.take i ++ [.lst ((xs.drop i).take (xs.length + 1 - n))] ++ (xs.drop i).drop (xs.length + 1 - n)
def starV : MV → Option (List MV)
  | .tup xs => some xs
  | .lst xs => some xs
  | _ => none
def mStar (n i : Nat) (f : ME) (u : List MV → MS → Option MS) : MSt := fun s => (mSh f s).bind fun x s1 => match starV x with
  | some xs => if n ≤ xs.length + 1 ∧ xs.length ≤ 16384 then (match u (starL n i xs) s1 with | some s2 => .ok .next s2 | none => .bad) else .bad
  | none => .bad
theorem starV_ok {K : PySem.W.Frag} {G : Gh} {H : Hp} {x : MV} {v : V} {xs : List MV} (h : VR K G H x v) (e : starV x = some xs) : ∃ a vs, v = .ref a ∧ (SqT K H a vs ∨ SqL K H a vs) ∧ VRs K G H xs vs := by
  cases x with
  | tup ys =>
    cases e
    obtain ⟨a, vs, rfl, k, r⟩ := VR.tup h
    exact ⟨a, vs, rfl, .inl k, r⟩
  | lst ys =>
    cases e
    unfold VR at h
    obtain ⟨a, vs, rfl, k, r⟩ := h
    refine ⟨a, vs, rfl, .inr ?_, r⟩
    rcases k with ⟨_, k⟩ | k
    · exact .inl k
    · exact .inr k
  | non => cases e
  | bl _ => cases e
  | int _ => cases e
  | str _ => cases e
  | dct _ _ => cases e
  | ref _ => cases e
theorem js_star {es es' : List Expr} {e : Expr} {k n i : Nat} {f : ME} {ws : List Nat} {u : List MV → MS → Option MS} {tpos : Pos} (hc : X.calm = true) (he : JE X R W e f) (hg : JGs X R es' ws u) (hi : i < n := by decide)
    (hee : (assignEach es X.env).map (·.2) = (assignEach es' X.env).map (·.2) := by rfl) (hn : (assignEach es X.env).length = n := by rfl) (hst : (assignEach es X.env).findIdx? (·.1) = some i := by rfl)
    (hs : swapsWithSole [.Tuple es k tpos] e pos.line X.env = pure false := by rfl) (hw : swappedStores [.Tuple es k tpos] e X.env = pure none := by rfl)
    (h1 : (assignEach [.Tuple es k tpos] X.env).map (·.2) = [assign (.Tuple es k tpos) X.env] := by rfl) : JS X R W (.Assign [.Tuple es k tpos] e pos) (mStar n i f u) := fun hK F =>
  PS.imp (ps_asg (jv_of he hK F) (pg_star hc (hg hK F) hi hee hn hst) hs hw h1) fun D σ H h => by
    refine (firstS (M := rlV) h).mono fun v H1 ⟨G, x, s1, G1, w, vx, o⟩ => ?_
    have vx : VR R.K G1 H1 x v := vx
    split at o
    · rename_i xs hx
      split at o
      · rename_i hl
        obtain ⟨a, vs, rfl, sq, r⟩ := starV_ok vx hx
        have hlen := r.length
        refine ⟨a, vs, rfl, by rw [← hK]; exact sq, by rw [← hlen]; exact hl.1, by rw [← hlen]; exact hl.2, fun p hp => ?_⟩
        have g := w.rel.noRole hp
        have hH := fresh_back w.evo hp
        have rel2 := ((w.rel.alloc (o := .lst ((vs.drop i).take (vs.length + 1 - n))) hp).setr g ⟨_, upd_same⟩ (fresh_back w.st hH) (.inl rfl))
        have m1 : Mo G1 H1 G1 (upd H1 p (.lst ((vs.drop i).take (vs.length + 1 - n)))) := Mo.upd (by rw [g]; simp)
        have m : Mo G1 H1 (setG G1 p (some .frz)) (upd H1 p (.lst ((vs.drop i).take (vs.length + 1 - n)))) := m1.trans (Mo.setr g)
        refine ⟨_, s1, starL n i xs, rel2, ?_, ?_⟩
        · unfold starL
          rw [hlen]
          refine VRs.append (VRs.append (VRs.mono m _ _ (r.take i)) (VRs.cons ?_ (VRs.nil (K := R.K)))) (VRs.mono m _ _ ((r.drop i).drop _))
          unfold VR
          exact ⟨p, _, rfl, .inl ⟨setG_same, .inl upd_same⟩, VRs.mono m _ _ ((r.drop i).take _)⟩
        · split at o
          · rename_i s2 e
            first | rw [e] | skip
            exact fun σ' rel' _ => o _ _ _ rel' (((w.evo.updNew hH g).setr hH g).weak fun _ _ => trivial)
          · exact o.elim
      · exact o.elim
    · exact o.elim
end
end Mi
set_option Elab.async false
set_option linter.all false
set_option maxRecDepth 100000
set_option maxHeartbeats 4000000
namespace Mi
open PySem PySem.Spec PyProof.Rows L2
/-! tuples of ints in their order -/
def ltL : List Int → List Int → Bool
  | x :: xs, y :: ys => if x = y then ltL xs ys else decide (x < y)
  | [], _ :: _ => true
  | _, [] => false
theorem ltL_asym : ∀ x y : List Int, ltL x y = true → ltL y x = false
  | [], [], h => by cases h
  | [], _ :: _, _ => rfl
  | _ :: _, [], h => by cases h
  | x :: xs, y :: ys, h => by
    unfold ltL at h ⊢
    by_cases e : x = y
    · rw [if_pos e] at h; rw [if_pos e.symm]; exact ltL_asym xs ys h
    · rw [if_neg e, decide_eq_true_eq] at h
      rw [if_neg (Ne.symm e)]
      exact decide_eq_false (by omega)
theorem ltL_tr : ∀ x y z : List Int, ltL y x = false → ltL z y = false → ltL z x = false
  | [], _, [], _, _ => rfl
  | x :: xs, [], _, h, _ => by cases h
  | _, y :: ys, [], _, h => by cases h
  | [], _, z :: zs, _, _ => rfl
  | x :: xs, y :: ys, z :: zs, h1, h2 => by
    unfold ltL at h1 h2 ⊢
    by_cases e : z = x
    · rw [if_pos e]
      by_cases e1 : y = x
      · rw [if_pos e1] at h1
        rw [if_pos (e.trans e1.symm)] at h2
        exact ltL_tr xs ys zs h1 h2
      · rw [if_neg e1, decide_eq_false_iff_not] at h1
        rw [if_neg (by omega), decide_eq_false_iff_not] at h2
        omega
    · rw [if_neg e]
      refine decide_eq_false ?_
      by_cases e1 : y = x
      · rw [if_neg (by omega), decide_eq_false_iff_not] at h2
        omega
      · rw [if_neg e1, decide_eq_false_iff_not] at h1
        by_cases e2 : z = y
        · omega
        · rw [if_neg e2, decide_eq_false_iff_not] at h2
          omega
theorem ltL_total : ∀ x y : List Int, ltL x y = false → ltL y x = false → x = y
  | [], [], _, _ => rfl
  | [], _ :: _, h, _ => by cases h
  | _ :: _, [], _, h => by cases h
  | x :: xs, y :: ys, h1, h2 => by
    unfold ltL at h1 h2
    by_cases e : x = y
    · rw [if_pos e] at h1; rw [if_pos e.symm] at h2
      rw [e, ltL_total xs ys h1 h2]
    · rw [if_neg e, decide_eq_false_iff_not] at h1
      rw [if_neg (Ne.symm e), decide_eq_false_iff_not] at h2
      omega
theorem ltL_swo (k : Value → List Int) : SrtO.Swo fun v u => ltL (k v) (k u) := ⟨fun x y => ltL_asym _ _, fun x y z => ltL_tr _ _ _⟩
def insL (a : List Int) : List (List Int) → List (List Int)
  | [] => [a]
  | b :: r => if ltL b a = true then b :: insL a r else a :: b :: r
def srtL : List (List Int) → List (List Int)
  | [] => []
  | a :: r => insL a (srtL r)
abbrev LeL (x y : List Int) : Prop := ltL y x = false
theorem insL_perm (a : List Int) : ∀ l, (insL a l).Perm (a :: l)
  | [] => .refl _
  | b :: r => by
    unfold insL
    split
    · exact ((insL_perm a r).cons b).trans (.swap a b r)
    · exact .refl _
theorem srtL_perm : ∀ l, (srtL l).Perm l
  | [] => .refl _
  | a :: r => (insL_perm a (srtL r)).trans ((srtL_perm r).cons a)
theorem insL_sorted (a : List Int) : ∀ l, l.Pairwise LeL → (insL a l).Pairwise LeL
  | [], _ => by unfold insL; simp
  | b :: r, h => by
    unfold insL
    have hb := List.pairwise_cons.mp h
    split
    · rename_i hab
      refine List.pairwise_cons.mpr ⟨fun x hx => ?_, insL_sorted a r hb.2⟩
      rcases List.mem_cons.mp ((insL_perm a r).mem_iff.mp hx) with e | e
      · rw [e]; exact ltL_asym _ _ hab
      · exact hb.1 x e
    · rename_i hab
      have hab : ltL b a = false := by simpa using hab
      refine List.pairwise_cons.mpr ⟨fun x hx => ?_, h⟩
      rcases List.mem_cons.mp hx with e | e
      · rw [e]; exact hab
      · exact ltL_tr _ _ _ hab (hb.1 x e)
theorem srtL_sorted : ∀ l, (srtL l).Pairwise LeL
  | [] => List.Pairwise.nil
  | a :: r => insL_sorted a _ (srtL_sorted r)
theorem sortedL_unique : ∀ {l m : List (List Int)}, l.Perm m → l.Pairwise LeL → m.Pairwise LeL → l = m
  | [], m, p, _, _ => p.nil_eq
  | a :: r, [], p, _, _ => by have := p.length_eq; simp at this
  | a :: r, b :: t, p, h1, h2 => by
    have e1 := List.pairwise_cons.mp h1
    have e2 := List.pairwise_cons.mp h2
    have rf : ∀ x, ltL x x = false := fun x => by
      cases q : ltL x x with
      | false => rfl
      | true => rw [← ltL_asym _ _ q]; exact q.symm
    have ab : a = b := by
      have ha : a ∈ b :: t := p.mem_iff.mp (List.mem_cons_self ..)
      have hb : b ∈ a :: r := p.mem_iff.mpr (List.mem_cons_self ..)
      refine ltL_total _ _ ?_ ?_
      · rcases List.mem_cons.mp ha with z | z
        · rw [z]; exact rf _
        · exact e2.1 a z
      · rcases List.mem_cons.mp hb with z | z
        · rw [z]; exact rf _
        · exact e1.1 b z
    subst ab
    rw [sortedL_unique (List.Perm.cons_inv p) e1.2 e2.2]
theorem srtL_eq {l m : List (List Int)} (p : l.Perm m) (h : l.Pairwise LeL) : l = srtL m := sortedL_unique (p.trans (srtL_perm m).symm) h (srtL_sorted m)
section
variable {prog : Program} {w : World} {A : Around} {E : Value → Shared → Prop} {s : Shared} {Q : Bool → Shared → Prop}
theorem lex_L {b : Bool} {xs ys : List Value} {ns ms : List Int} (i : Nat) (hx : IntsAre xs ns) (hy : IntsAre ys ms) (h : Q (ltL ns ms) s) : PySem.W.KatLex prog w A b (decide (xs.length < ys.length)) Q (xs.zip ys) i s := by
  induction hx generalizing ys ms i with
  | nil =>
    cases hy with
    | nil => exact PySem.W.kat_nil h
    | cons q u hy => exact PySem.W.kat_nil (by simpa [ltL] using h)
  | @cons p t xs ns hx ih =>
    cases hy with
    | nil => exact PySem.W.kat_nil (by simpa [ltL] using h)
    | @cons q u ys ms hy =>
      show PySem.W.KatLex prog w A b _ Q ((Value.int p t, Value.int q u) :: xs.zip ys) i s
      refine PySem.W.kat_cons (wpAny_eqBool_int ?_)
      rw [show decide ((Value.int p t :: xs).length < (Value.int q u :: ys).length) = decide (xs.length < ys.length) by simp]
      by_cases e : p = q
      · subst e
        rw [beq_self_eq_true]
        refine PySem.W.kat_yes (ih (i + 1) hy ?_)
        have : ltL (p :: ns) (p :: ms) = ltL ns ms := by rw [ltL, if_pos rfl]
        rw [← this]; exact h
      · rw [show (p == q) = false from beq_eq_false_iff_ne.mpr e]
        refine PySem.W.kat_no (TS.oneLt_ints _ ?_)
        have : ltL (p :: ns) (q :: ms) = decide (p < q) := by rw [ltL, if_neg e]
        rw [← this]; exact h
theorem tup_cmp {vs : List Value} {k : Value → List Int} (hp : ∀ v ∈ vs, TS.TupInts s.heap v (k v)) : SrtO.Cmp prog w A s (tuples' true) (fun p => p.1 ∈ vs) (SrtO.lt2 fun v u => ltL (k v) (k u)) := by
  intro p q hm hm'
  obtain ⟨a, xs, e1, ⟨o, ho, hc, n, hd⟩, i⟩ := hp _ hm
  obtain ⟨a', ys, e2, ⟨o', ho', hc', n', hd'⟩, i'⟩ := hp _ hm'
  show wpAny (model prog w) A (keyLt' (tuples' true) p.1 q.1) (fun r s' => s' = s ∧ r = ltL (k p.1) (k q.1)) (fun _ _ => False) s
  generalize k p.1 = ns at i ⊢
  generalize k q.1 = ms at i' ⊢
  rw [e1, e2]
  refine PySem.W.kat_lt ho hd ho' hd' ?_
  have := lex_L (prog := prog) (w := w) (A := A) (s := s) (b := true) (Q := fun r s' => s' = s ∧ r = ltL ns ms) 0 i i' ⟨rfl, rfl⟩
  simpa [Array.length_toList] using this
theorem firsts_L {h : Heap} {k : Value → List Int} : ∀ vs : List Value, (∀ v ∈ vs, TS.TupInts h v (k v) ∧ k v ≠ []) → ∃ fs, PySem.W.KatTups h vs fs ∧ fs.length = vs.length ∧ ∀ f, f ∈ fs → ∃ n t, f = Value.int n t
  | [], _ => ⟨[], PySem.W.KatTups.nil, rfl, fun f hf => by simp at hf⟩
  | v :: vs, x => by
    obtain ⟨fs, kk, hl, hi⟩ := firsts_L vs fun u hu => x u (List.mem_cons_of_mem _ hu)
    obtain ⟨⟨a, xs, e0, ⟨o, ho, hc, n, hdt⟩, i⟩, hn⟩ := x v (List.mem_cons_self ..)
    subst e0
    obtain ⟨y, ys, e⟩ : ∃ y ys, xs.toList = y :: ys := by
      cases q : xs.toList with
      | nil => rw [q] at i; have l := i.length; exact absurd (List.eq_nil_of_length_eq_zero l.symm) hn
      | cons y ys => exact ⟨y, ys, rfl⟩
    obtain ⟨m, t, hy⟩ := i.all y (by rw [e]; exact List.mem_cons_self ..)
    refine ⟨y :: fs, PySem.W.KatTups.cons ho hc hdt ?_ kk, by simp [hl], ?_⟩
    · have z := congrArg (fun l : List Value => l[0]?) e
      simpa using z
    · intro f hf
      rcases List.mem_cons.mp hf with rfl | hf
      · exact ⟨m, t, hy⟩
      · exact hi f hf
theorem tups_sortable {a : Addr} {vs : List Value} {k : Value → List Int} (h0 : 0 < vs.length) (hp : ∀ v ∈ vs, TS.TupInts s.heap v (k v) ∧ k v ≠ []) (ha : ∀ o, s.heap.get? a = some o → o.cls ≠ .type "tuple") : SrtO.SortableO prog w A s a vs fun v u => ltL (k v) (k u) := by
  intro h' keep
  have hp' : ∀ v ∈ vs, TS.TupInts h' v (k v) ∧ k v ≠ [] := fun v hm => ⟨(hp v hm).1.keeps fun b o e c => keep b o (fun z => by subst z; exact ha o e c) e, (hp v hm).2⟩
  obtain ⟨fs, h1, h2, h3⟩ := firsts_L _ hp'
  refine ⟨tuples' true, fun Q E hq => ?_, tup_cmp fun v hv => (hp' v hv).1⟩
  refine PySem.W.kat_kind (T := .type "int") h1 (by omega) (fun f hm => ?_) (by rfl) ?_
  · obtain ⟨x, t, rfl⟩ := h3 f hm
    exact PySem.W.Looks.now
  · have e : (Value.type "int" != Value.type "tuple") = true := by first | decide +kernel | rfl | decide
    rw [e]
    exact hq
end
/-! sorted of them -/
/-- the ints of the tuple at a tracked place -/
def iV : V → Int
  | .int i => i
  | _ => 0
def kOf (H : Hp) : V → List Int
  | .ref t => match H t with | some (.tup vs) => vs.map iV | _ => []
  | _ => []
def TupH (H : Hp) (x : V) : Prop := ∃ t, x = .ref t ∧ H t = some (.tup ((kOf H x).map V.int))
theorem TupH.of {H : Hp} {t : Addr} {ns : List Int} (h : H t = some (.tup (ns.map V.int))) : TupH H (.ref t) ∧ kOf H (.ref t) = ns := by
  have e : kOf H (.ref t) = ns := by
    unfold kOf
    simp only [h, List.map_map]
    exact (List.map_congr_left fun _ _ => rfl).trans (List.map_id _)
  exact ⟨⟨t, rfl, by rw [e]; exact h⟩, e⟩
def kVal (H : Hp) : Value → List Int
  | .ref t => kOf H (.ref t)
  | _ => []
section
variable {X : Cx} {pins : List (Addr × Obj)} {σ : L2.St} {H : Hp} {s : Shared}
theorem tupH_raw (I : Inv X pins σ H s) {t : Addr} (h : TupH H (.ref t)) : TS.TupInts s.heap (.ref t) (kVal H (.ref t)) := by
  obtain ⟨t', e, h⟩ := h
  cases e
  obtain ⟨its, rv, hT, _⟩ := I.tuple (show SqT X.K H t ((kOf H (.ref t)).map V.int) from .inl (.inl h))
  exact ⟨t, its.toArray, rfl, hT, by simpa using (show IntsAre its (kVal H (.ref t)) from rv.ints)⟩
end
/-- the tuples of ints of the source at a -/
def SrcT (K : PySem.W.Frag) (H : Hp) (a : Addr) (kss : List (List Int)) : Prop :=
  (∃ xs, SqL K H a xs ∧ xs.map (kOf H) = kss ∧ ∀ x ∈ xs, TupH H x) ∨ ∃ kvs : List (List Key × V), Rd H a (.dT kvs) ∧ kvs.map (·.1) = kss.map (·.map Sum.inl)
def rSortTL (K : PySem.W.Frag) : List V → Hp → VK → Prop := fun vs H Q => ∃ (a : Addr) (kss : List (List Int)), vs = [.ref a] ∧ SrcT K H a kss ∧ (∀ ks ∈ kss, ks ≠ []) ∧
  ∀ ys p, (∀ y ∈ ys, TupH H y) → ys.map (kOf H) = srtL kss → H p = none → Q (.ref p) (upd H p (.lst ys))
theorem bk_refs : ∀ {us : List Value}, (∀ u ∈ us, ∃ a, u = Value.ref a) → Vals (us.map backV) us ∧ ∀ H : Hp, (us.map backV).map (kOf H) = us.map (kVal H)
  | [], _ => ⟨.nil, fun _ => rfl⟩
  | u :: us, h => by
    obtain ⟨a, e⟩ := h u List.mem_cons_self
    subst e
    obtain ⟨h1, h2⟩ := bk_refs (us := us) fun y hy => h y (List.mem_cons_of_mem _ hy)
    exact ⟨.cons (show RelV (.ref a) (.ref a) from rfl) h1, fun H => by rw [List.map_cons, List.map_cons, List.map_cons, h2]; rfl⟩
theorem inl_inj : ∀ {a b : List Int}, a.map (Sum.inl : Int → Key) = b.map Sum.inl → a = b
  | [], [], _ => rfl
  | [], _ :: _, h => by cases h
  | _ :: _, [], h => by cases h
  | x :: xs, y :: ys, h => by
    simp only [List.map_cons, List.cons.injEq, Sum.inl.injEq] at h
    rw [h.1, inl_inj h.2]
theorem kv_ints (ns : List Int) : (ns.map (Sum.inl : Int → Key)).map kV = ns.map V.int := by
  rw [List.map_map]; rfl
section
variable {X : Cx}
theorem out_T {pins : List (Addr × Obj)} {σ : L2.St} {H : Hp} {s : Shared} {vs out : List Value} {kss : List (List Int)} (hv : ∀ v ∈ vs, ∃ a, v = Value.ref a ∧ TupH H (.ref a)) (hk : vs.map (kVal H) = kss)
    (h1 : SrtO.Srtd (fun v u => ltL (kVal H v) (kVal H u)) out) (h2 : SrtO.Stb (fun v u => ltL (kVal H v) (kVal H u)) out vs) :
    Vals (out.map backV) out ∧ (∀ y ∈ out.map backV, TupH H y) ∧ (out.map backV).map (kOf H) = srtL kss := by
  have ho : ∀ v ∈ out, ∃ a, v = Value.ref a ∧ TupH H (.ref a) := fun v m => hv v (h2.perm.mem_iff.mp m)
  obtain ⟨r1, r2⟩ := bk_refs (us := out) fun u m => let ⟨a, e, _⟩ := ho u m; ⟨a, e⟩
  refine ⟨r1, fun y hy => ?_, ?_⟩
  · obtain ⟨u, m, rfl⟩ := List.mem_map.mp hy
    obtain ⟨a, rfl, t⟩ := ho u m
    exact t
  · rw [r2]
    refine srtL_eq ?_ ?_
    · rw [← hk]; exact h2.perm.map _
    · exact List.pairwise_map.mpr h1
theorem call_sortTL (hc : X.calm = true) : CallR X (.builtin "sorted") (rSortTL X.K) := by
  intro pins s σ H xs us Q I r h
  obtain ⟨a, kss, rfl, src, hne, q⟩ := h
  obtain ⟨u, rfl, rx⟩ := r.one
  cases rx
  rcases src with ⟨xs, hs, hk, ht⟩ | ⟨kvs, hd, hk⟩
  · obtain ⟨its, rv, hl, hz⟩ := I.list hs
    obtain ⟨e1, e2⟩ := refs_back rv fun x m => let ⟨t, e, _⟩ := ht x m; ⟨t, e⟩
    have hv : ∀ v ∈ its, ∃ a, v = Value.ref a ∧ TupH H (.ref a) := fun v hv => by
      obtain ⟨t, rfl⟩ := e2 v hv
      exact ⟨t, rfl, ht _ (by rw [e1]; exact List.mem_map.mpr ⟨_, hv, rfl⟩)⟩
    have hkk : its.map (kVal H) = kss := by
      rw [← hk, e1]
      exact ((bk_refs (us := its) e2).2 H).symm
    have hp : ∀ v ∈ its, TS.TupInts s.heap v (kVal H v) ∧ kVal H v ≠ [] := fun v m => by
      obtain ⟨t, rfl, th⟩ := hv v m
      exact ⟨tupH_raw I th, hne _ (by rw [← hkk]; exact List.mem_map.mpr ⟨_, m, rfl⟩)⟩
    refine SrtO.sorted_ord (ltL_swo (kVal H)) hl.isList (by rw [← rv.length]; exact hz) (fun h2 h₁ a' ha kk => ?_) fun out h1 h2 => ?_
    · refine tups_sortable (s := { s with heap := h₁ }) (by omega) (fun v hm => ⟨(hp v hm).1.keeps fun b o e _ => (kk b o e).2, (hp v hm).2⟩) fun o e => ?_
      have e' : some o = some (seqObj "list" its.toArray 0) := e.symm.trans ha
      cases e'
      intro c
      exact absurd (Value.type.inj c) (by decide)
    · obtain ⟨r1, r2, r3⟩ := out_T (pins := pins) (σ := σ) (s := s) hv hkk h1 h2
      obtain ⟨ep, he'⟩ := PyProof.Rows.sortedAll_at s.heap its out.toArray
      have hlen : (out.map backV).length ≤ sizeLine := by
        rw [List.length_map, h2.perm.length_eq, ← rv.length]; exact hz
      exact ⟨.ref _, upd H (s.heap.objs.size + 1) (.lst (out.map backV)), I.laid (t' := s.toks) (fun _ _ => PyProof.Rows.sortedAll_old) (Nat.le_succ _) ⟨hlen, out, ep, r1, he'⟩, rfl, q _ _ r2 r3 (I.hok.fresh (Nat.le_succ _))⟩
  · obtain ⟨z, hs, ks, pr, o, es, ep, ho, hx, hdt, he, hn⟩ := (show ObjOk X.prog X.w H s.heap a (.dT kvs) from hd.ok I.hok)
    have l1 : es.size = ks.length := size_of_entries he
    have l2 : kvs.length = ks.length := Paired.length pr
    refine Calls.call_function_entry PyProof.Rows.kind_sorted PyProof.Rows.plain_sorted PyProof.Rows.entry_sorted (PyProof.Rows.args_sorted1 _) ?_
    unfold Builtin.«sorted»
    refine wpAny_bind (m := checkCount "sorted" 1 1 _) (wpAny_pure ?_)
    refine wpAny_bind (PySem.W.kdu_collect (A := X.A.in1) (kdl_raw hs hx hdt) (I.ok.hd hc) ho (by omega) fun h' tk acc hk' it => ?_)
    have ea : acc.toList = ks.map fun x => Value.ref x.2.1 := by
      have hl : acc.toList.length = ks.length := by rw [Array.length_toList, it.1]; exact l1
      apply List.ext_getElem?
      intro j
      rw [List.getElem?_map]
      cases hj : acc.toList[j]? with
      | none =>
        have h1 := List.getElem?_eq_none_iff.mp hj
        rw [List.getElem?_eq_none (by omega)]
        all_goals rfl
      | some v =>
        obtain ⟨en, hen, hv⟩ := it.2 j v (by rw [← Array.getElem?_toList]; exact hj)
        have qe := entry_at he j
        rw [hen] at qe
        cases hb : ks[j]? with
        | none =>
          rw [hb] at qe
          exact nomatch (show some en = none from qe)
        | some b =>
          rw [hb] at qe
          have e2 : en = entryOfKey (tupleKind (mixKind X.prog X.w)) b := Option.some.inj qe
          rw [hv, e2]
          all_goals rfl
    have hkey : ∀ (l : List (List Key × V)) (m : List (List Key × Addr × Value)) (kss : List (List Int)), KT H l m → l.map (·.1) = kss.map (·.map Sum.inl) → (∀ x ∈ m, TupH H (.ref x.2.1)) ∧ m.map (fun x => kOf H (.ref x.2.1)) = kss := by
      intro l m kss pr
      induction pr generalizing kss with
      | nil => intro e; cases kss with | nil => exact ⟨fun x hx => by simp at hx, rfl⟩ | cons _ _ => cases e
      | @cons p x ps xs hx _ ih =>
        intro e
        cases kss with
        | nil => cases e
        | cons ns kss =>
          simp only [List.map_cons, List.cons.injEq] at e
          obtain ⟨i1, i2⟩ := ih kss e.2
          have hH : H x.2.1 = some (.tup (ns.map V.int)) := by
            have := hx.2.1
            rw [e.1, kv_ints] at this
            exact this
          obtain ⟨t1, t2⟩ := TupH.of hH
          refine ⟨fun y hy => ?_, ?_⟩
          · rcases List.mem_cons.mp hy with rfl | hy
            · exact t1
            · exact i1 y hy
          · rw [List.map_cons, i2, t2]
    obtain ⟨g1, g2⟩ := hkey _ _ _ pr hk
    have hv : ∀ v ∈ acc.toList, ∃ b, v = Value.ref b ∧ TupH H (.ref b) := fun v hv => by
      rw [ea] at hv
      obtain ⟨x, m, rfl⟩ := List.mem_map.mp hv
      exact ⟨_, rfl, g1 x m⟩
    have hkk : acc.toList.map (kVal H) = kss := by
      rw [ea, List.map_map]
      exact g2
    have I1 : Inv X pins σ H { s with heap := h', toks := tk } := I.kept hk'
    have hp : ∀ v ∈ acc.toList, TS.TupInts h' v (kVal H v) ∧ kVal H v ≠ [] := fun v m => by
      obtain ⟨t, rfl, th⟩ := hv v m
      exact ⟨tupH_raw I1 th, hne _ (by rw [← hkk]; exact List.mem_map.mpr ⟨_, m, rfl⟩)⟩
    have hzl : acc.toList.length ≤ sizeLine := by rw [ea, List.length_map]; omega
    refine wpAny_bind (wpAny_newList ?_ hzl)
    have hoL : (h'.push (seqObj "list" acc.toList.toArray 0)).get? h'.objs.size = some (seqObj "list" acc.toList.toArray 0) := Heap.get?_push_size _ rfl
    show wpAny _ _ _ _ _ { s with heap := h'.push (seqObj "list" acc.toList.toArray 0), toks := tk }
    refine wpAny_bind (wpAny_holding (wpAny_call_entry PyProof.Rows.slot_list_sort ⟨_, hoL, rfl⟩ PyProof.Rows.entry_list_sort
      (SrtO.list_sort_ord (s := { s with heap := h'.push (seqObj "list" acc.toList.toArray 0), toks := tk }) (ltL_swo (kVal H)) hoL hzl (fun h2 => ?_) fun out g1 g2 => ⟨_, rfl, ?_⟩) (PyProof.Rows.args_list_sort _)))
    · refine tups_sortable (s := { s with heap := h'.push (seqObj "list" acc.toList.toArray 0), toks := tk }) (by omega) (fun v hm => ⟨(hp v hm).1.keeps fun b o e _ => Heap.get?_push_of_some _ e, (hp v hm).2⟩) fun o e => ?_
      have e' : some o = some (seqObj "list" acc.toList.toArray 0) := e.symm.trans hoL
      cases e'
      intro c
      exact absurd (Value.type.inj c) (by decide)
    · obtain ⟨r1, r2, r3⟩ := out_T (pins := pins) (σ := σ) (s := s) hv hkk g1 g2
      obtain ⟨e', he'⟩ := PyProof.Rows.sortedHeap_at (vs := acc.toList) (out := out.toArray) hoL
      have hlen : (out.map backV).length ≤ sizeLine := by
        rw [List.length_map, g2.perm.length_eq]; exact hzl
      refine wpAny_pure ⟨_, rfl, .ref h'.objs.size, upd H h'.objs.size (.lst (out.map backV)), I1.laid (t' := tk) (fun b u e => ?_) (Nat.le_refl _)
        (show ObjOk X.prog X.w _ _ _ (.lst (out.map backV)) from ⟨hlen, out, e', r1, he'⟩), rfl, q _ _ r2 r3 (I1.hok.fresh (Nat.le_refl _))⟩
      have hb : b < h'.objs.size := Heap.lt_size e
      rw [PyProof.Rows.sortedHeap_old (Nat.ne_of_lt hb) (by rw [size_push']; exact Nat.lt_succ_of_lt hb)]
      exact Heap.get?_push_of_some _ e
end
end Mi
set_option Elab.async false
set_option linter.all false
set_option maxRecDepth 100000
set_option maxHeartbeats 4000000
namespace Mi
open PySem PySem.Spec PyProof.Rows L2
/-! dicts whose keys are tuples -/
def keysT : List MV → Option (List Key)
  | [] => some []
  | x :: r => match keyOf x, keysT r with | some k, some ks => some (k :: ks) | _, _ => none
def keyT : MV → Option (List Key)
  | .tup xs => keysT xs
  | _ => none
abbrev mvT (ks : List Key) : MV := .tup (ks.map keyMV)
theorem keyOf_MV (k : Key) : keyOf (keyMV k) = some k := by
  cases k with
  | inl i => rfl
  | inr x => obtain ⟨⟨x⟩⟩ := x; rfl
theorem keysT_MV : ∀ ks : List Key, keysT (ks.map keyMV) = some ks
  | [] => rfl
  | k :: ks => by rw [List.map_cons, keysT, keyOf_MV, keysT_MV ks]
theorem keyT_MV (ks : List Key) : keyT (mvT ks) = some ks := keysT_MV ks
theorem keysT_V {K : PySem.W.Frag} {G : Gh} {H : Hp} : ∀ {xs : List MV} {vs : List V} {ks : List Key}, VRs K G H xs vs → keysT xs = some ks → vs = ks.map kV ∧ ks.map keyMV = xs
  | [], _, _, h, e => by unfold VRs at h; subst h; cases e; exact ⟨rfl, rfl⟩
  | x :: xs, _, ks, h, e => by
    obtain ⟨v, r, rfl, p, q⟩ := h.inv
    unfold keysT at e
    split at e
    · rename_i k ks' e1 e2
      cases e
      obtain ⟨a, b⟩ := keyOf_V p e1
      obtain ⟨c, d⟩ := keysT_V q e2
      rw [a, c, List.map_cons, List.map_cons, b, d]
      exact ⟨rfl, rfl⟩
    · cases e
theorem keyT_V {K : PySem.W.Frag} {G : Gh} {H : Hp} {x : MV} {v : V} {ks : List Key} (h : VR K G H x v) (e : keyT x = some ks) : (∃ b, v = .ref b ∧ H b = some (.tup (ks.map kV))) ∧ mvT ks = x := by
  cases x with
  | tup xs =>
    unfold VR at h
    obtain ⟨a, vs, rfl, f, r⟩ := h
    obtain ⟨rfl, e2⟩ := keysT_V r e
    exact ⟨⟨a, rfl, f⟩, by rw [mvT, e2]⟩
  | _ => cases e
theorem VR_keyT {K : PySem.W.Frag} {G : Gh} {H : Hp} {b : Addr} {ks : List Key} (h : H b = some (.tup (ks.map kV))) : VR K G H (mvT ks) (.ref b) := by
  unfold VR
  refine ⟨b, _, rfl, h, ?_⟩
  clear h
  induction ks with
  | nil => exact VRs.nil (K := K) (G := G) (H := H)
  | cons k ks ih => exact VRs.cons (VR_key k) ih
def eqT (a b : MV) : Bool := match keyT a, keyT b with | some x, some y => decide (x = y) | _, _ => false
theorem eqT_MV (a b : List Key) : eqT (mvT a) (mvT b) = decide (a = b) := by unfold eqT; rw [keyT_MV, keyT_MV]
def getT : List (MV × MV) → MV → Option MV
  | [], _ => none
  | (k', x) :: r, k => if eqT k' k = true then some x else getT r k
def setT (kvs : List (MV × MV)) (k x : MV) : List (MV × MV) := if (kvs.any fun p => eqT p.1 k) = true then kvs.map (fun p => if eqT p.1 k = true then (p.1, x) else p) else kvs ++ [(k, x)]
section
variable {K : PySem.W.Frag} {G : Gh} {H : Hp}
def DDT (K : PySem.W.Frag) (G : Gh) (H : Hp) (kvs : List (MV × MV)) (dk : List (List Key × V)) : Prop := kvs.map (·.1) = dk.map (fun q => mvT q.1) ∧ VRs K G H (kvs.map (·.2)) (dk.map (·.2))
theorem DDT.inv {p : MV × MV} {kvs : List (MV × MV)} {dk : List (List Key × V)} (h : DDT K G H (p :: kvs) dk) : ∃ j v r, dk = (j, v) :: r ∧ p.1 = mvT j ∧ VR K G H p.2 v ∧ DDT K G H kvs r := by
  obtain ⟨h1, h2⟩ := h
  cases dk with
  | nil => simp at h1
  | cons q r =>
    simp only [List.map_cons, List.cons.injEq] at h1
    obtain ⟨v, t, e, p1, p2⟩ := VRs.inv (K := K) (G := G) (H := H) (by simpa using h2)
    simp only [List.map_cons, List.cons.injEq] at e
    obtain ⟨e1, e2⟩ := e
    subst e1 e2
    exact ⟨q.1, q.2, r, rfl, h1.1, p1, h1.2, p2⟩
theorem DDT.nil {dk : List (List Key × V)} (h : DDT K G H [] dk) : dk = [] := by
  obtain ⟨h1, _⟩ := h
  cases dk with
  | nil => rfl
  | cons q r => simp at h1
theorem DDT.cons {p : MV × MV} {kvs : List (MV × MV)} {j : List Key} {v : V} {r : List (List Key × V)} (e : p.1 = mvT j) (hv : VR K G H p.2 v) (h : DDT K G H kvs r) : DDT K G H (p :: kvs) ((j, v) :: r) :=
  ⟨by simp [e, h.1], VRs.cons (K := K) (G := G) (H := H) hv h.2⟩
theorem DDT.length {kvs : List (MV × MV)} {dk : List (List Key × V)} (h : DDT K G H kvs dk) : kvs.length = dk.length := by have := congrArg List.length h.1; simpa using this
theorem DDT.get : ∀ {kvs : List (MV × MV)} {dk : List (List Key × V)} (k : List Key), DDT K G H kvs dk → (getT kvs (mvT k) = none → valV dk k = none) ∧ ∀ x, getT kvs (mvT k) = some x → ∃ v, valV dk k = some v ∧ VR K G H x v
  | [], dk, k, h => by
    rw [h.nil]
    exact ⟨fun _ => rfl, fun x e => by cases e⟩
  | p :: kvs, dk, k, h => by
    obtain ⟨j, v, r, rfl, e, hv, hr⟩ := h.inv
    obtain ⟨pk, px⟩ := p
    simp only at e hv
    subst e
    unfold getT
    rw [eqT_MV]
    by_cases z : j = k
    · rw [if_pos (decide_eq_true z), valV_pos (by exact z)]
      exact ⟨(fun q => by cases q), fun x q => by cases q; exact ⟨v, rfl, hv⟩⟩
    · rw [if_neg (by simpa using z), valV_neg (by exact z)]
      exact DDT.get k hr
theorem DDT.any : ∀ {kvs : List (MV × MV)} {dk : List (List Key × V)} (k : List Key), DDT K G H kvs dk → (kvs.any fun p => eqT p.1 (mvT k)) = dk.any fun q => decide (q.1 = k)
  | [], dk, k, h => by rw [h.nil]; rfl
  | p :: kvs, dk, k, h => by
    obtain ⟨j, v, r, rfl, e, hv, hr⟩ := h.inv
    simp only [List.any_cons, e, eqT_MV, DDT.any k hr]
theorem DDT.map : ∀ {kvs : List (MV × MV)} {dk : List (List Key × V)} (k : List Key) {x : MV} {u : V}, VR K G H x u → DDT K G H kvs dk → DDT K G H (kvs.map fun p => if eqT p.1 (mvT k) = true then (p.1, x) else p) (dk.map fun q => if q.1 = k then (q.1, u) else q)
  | [], dk, k, x, u, _, h => by rw [h.nil]; exact ⟨rfl, VRs.nil (K := K) (G := G) (H := H)⟩
  | p :: kvs, dk, k, x, u, hu, h => by
    obtain ⟨j, v, r, rfl, e, hv, hr⟩ := h.inv
    simp only [List.map_cons, e, eqT_MV]
    by_cases z : j = k
    · rw [if_pos (decide_eq_true z), if_pos z]; exact .cons rfl hu (DDT.map k hu hr)
    · rw [if_neg (by simpa using z), if_neg z]; exact .cons e hv (DDT.map k hu hr)
theorem DDT.snoc : ∀ {kvs : List (MV × MV)} {dk : List (List Key × V)} {p : MV × MV} {j : List Key} {v : V}, p.1 = mvT j → VR K G H p.2 v → DDT K G H kvs dk → DDT K G H (kvs ++ [p]) (dk ++ [(j, v)])
  | [], dk, p, j, v, e, hv, h => by
    have z := h.nil
    subst z
    exact .cons e hv h
  | q :: kvs, dk, p, j, v, e, hv, h => by
    obtain ⟨i, u, r, rfl, e2, hu, hr⟩ := h.inv
    exact .cons e2 hu (DDT.snoc e hv hr)
theorem DDT.put {kvs : List (MV × MV)} {dk : List (List Key × V)} (k : List Key) {x : MV} {u : V} (hu : VR K G H x u) (h : DDT K G H kvs dk) : DDT K G H (setT kvs (mvT k) x) (putK dk k u) := by
  unfold setT putK
  rw [h.any k]
  split
  · rename_i z; exact h.map k hu
  · rename_i z; exact h.snoc rfl hu
theorem DDT.mono {G' : Gh} {H' : Hp} {kvs : List (MV × MV)} {dk : List (List Key × V)} (m : Mo G H G' H') (h : DDT K G H kvs dk) : DDT K G' H' kvs dk := ⟨h.1, VRs.mono m _ _ h.2⟩
theorem DTR.to {kvs : List (MV × MV)} {a : Addr} {l : Bool} (h : DTR K G H kvs a l) : ∃ dk, Rd H a (.dT dk) ∧ DDT K G H kvs dk ∧ (l = false → H a = some (.dT dk)) ∧ (l = true → ∃ od, H a = some (.frz od (.dT dk))) := by
  cases l with
  | false =>
    obtain ⟨ho, h1, dk, rfl, h2, h3⟩ := h
    exact ⟨dk, .inl h1, ⟨h2, h3⟩, fun _ => h1, fun q => by cases q⟩
  | true =>
    obtain ⟨od, ho, h1, dk, rfl, h2, h3⟩ := h
    exact ⟨dk, .inr ⟨od, h1⟩, ⟨h2, h3⟩, (fun q => by cases q), fun _ => ⟨od, h1⟩⟩
end
/-- the object n, a dict with tuple keys -/
def dtOf (s : MS) : RV → Option (List (MV × MV))
  | .v (.ref n) => match s.hp[n]? with | some (.dt _ kvs) => some kvs | _ => none
  | _ => none
section
variable {R : RC} {F : FI} {σ : L2.St} {G : Gh} {H Hs : Hp} {s : MS} {v : V} {n : Nat}
theorem dt_at {l : Bool} {kvs : List (MV × MV)} (rel : Rel R F G s σ H) (rr : VR R.K G H (.ref n) v) (e : s.hp[n]? = some (.dt l kvs)) : ∃ a, v = .ref a ∧ G a = some (.obj n) ∧ DTR R.K G H kvs a l := by
  unfold VR at rr
  obtain ⟨a, q, g⟩ := rr
  obtain ⟨a', ga', cr⟩ := rel.hp.objs n _ e
  have ea := rel.hp.uniq _ _ _ g ga'
  subst ea
  exact ⟨a, q, g, cr⟩
theorem dt_ok {r : RV} {kvs : List (MV × MV)} (rel : Rel R F G s σ H) (rr : RR R σ Hs G H r v) (e : dtOf s r = some kvs) : ∃ a dk, v = .ref a ∧ Rd H a (.dT dk) ∧ DDT R.K G H kvs dk := by
  unfold dtOf at e
  split at e
  · rename_i m
    split at e
    · rename_i l kvs' hm
      cases e
      obtain ⟨a, q, _, d⟩ := dt_at rel rr hm
      obtain ⟨dk, rd, dd, _⟩ := d.to
      exact ⟨a, dk, q, rd, dd⟩
    · cases e
  · cases e
theorem put_dt {l l' : Bool} {kvs kvs' : List (MV × MV)} {a : Addr} {ho : HO} (rel : Rel R F G s σ H) (g : G a = some (.obj n)) (e : s.hp[n]? = some (.dt l kvs)) (d : DTR R.K G H kvs a l) (nf0 : ∀ x u, F.H0 a ≠ some (.frz x u)) (new : DTR R.K G (upd H a ho) kvs' a l') :
    Rel R F G { s with hp := s.hp.set n (.dt l' kvs') } σ (upd H a ho) := by
  have m : Mo G H G (upd H a ho) := Mo.upd (by rw [g]; simp) d.nt
  refine ⟨rel.hp.put g (.inl rfl) new (fun c f gc => ?_) d.nt, rel.len, env_keep m rel.env fun d i gd => ⟨gd, upd_ne fun y => by rw [y, g] at gd; cases gd⟩, rel.since.updLate (by rw [g]; simp) (by rw [g]; simp) nf0 d.nt, rel.base, by simpa using rel.le, rel.ent⟩
  obtain ⟨a3, cl3, fs3, dx3, hfs3, nm3, ga3, hn3, q3⟩ := rel.hp.fldOk c n f gc
  rw [e] at hn3; cases hn3
theorem dt_nf0 {dk : List (List Key × V)} {a : Addr} (rel : Rel R F G s σ H) (h : H a = some (.dT dk)) : ∀ x u, F.H0 a ≠ some (.frz x u) := fun x u z => by
  obtain ⟨o', e1, e2⟩ := rel.since.tk a _ z
  rw [e2 (.inl ⟨_, _, rfl⟩), h] at e1
  cases e1
end
section
variable {X : Cx} {R : RC} {W : WX} {pos tpos apos cpos : Pos} {k : Nat} {o e f i : Expr} {fo fe ff fi pk : ME}
/-! {} -/
def mDNewT : ME := fun s => .ok (.v (.ref s.hp.length)) { s with hp := s.hp ++ [.dt false []] }
theorem je_dnewT : JE X R W (.Dict [] [] pos) mDNewT := fun hK F => PE.imp pe_dnewT fun σ H Q ⟨G, s, rel, h⟩ => by
  intro p hp
  have g := rel.noRole hp
  have rel1 := rel.alloc (o := .dT []) hp
  have h0 : F.H0 p = none := fresh_back rel.since hp
  have m : Mo G (upd H p (.dT [])) (setG G p (some (.obj s.hp.length))) (upd H p (.dT [])) := Mo.setr g
  refine h (setG G p (some (.obj s.hp.length))) (upd H p (.dT [])) _ ⟨rel1.hp.push g ⟨_, upd_same⟩ ⟨_, upd_same, [], rfl, rfl, VRs.nil⟩, rel1.len, fun i sv q => ?_, rel1.since.setr h0 g, rel1.base, Nat.le_trans rel1.le (by simp), rel1.ent⟩ ((Evo.refl.updNew hp g).setr hp g) ?_
  · obtain ⟨v, q1, k⟩ := rel1.env i sv q
    refine ⟨v, q1, ?_⟩
    cases sv with
    | v x => exact VR.mono m x v k
    | own c =>
      obtain ⟨b, q2, gb, k⟩ := k
      exact ⟨b, q2, by rw [setG_ne fun z => by rw [z, g] at gb; cases gb]; exact gb, k.mono m rfl⟩
  · show VR _ _ _ _ _
    unfold VR
    exact ⟨p, rfl, setG_same⟩
/-! d[k] -/
def opIxT (r i : RV) (s : MS) : Out RV := match dtOf s r, i with
  | some kvs, .v q => match keyT q with
    | some _ => (match getT kvs q with | some x => .ok (.v x) s | none => .bad)
    | none => .bad
  | _, _ => .bad
theorem pr_ixT {R : RC} : PrimR R (fun x y H Q => ∃ a v, x = .ref a ∧ DGet H a y (some v) ∧ Q v H) opIxT := fun {F W σ G H G2 H2 s2 r1 r2 x y Q} w h1 h2 o => by
  unfold opIxT at o
  split at o
  · rename_i kvs q hd
    obtain ⟨a, dk, rfl, rd, dd⟩ := dt_ok w.rel h1 hd
    split at o
    · rename_i ks hk
      obtain ⟨⟨b, rfl, hb⟩, e⟩ := keyT_V (show VR R.K G2 H2 q y from h2) hk
      subst e
      split at o
      · rename_i z hz
        obtain ⟨v, hv, vr⟩ := (dd.get ks).2 z hz
        exact ⟨a, v, rfl, .inr ⟨dk, ks, b, rd, rfl, hb, hv.symm⟩, finV w o vr⟩
      · exact o.elim
    · exact o.elim
  · exact o.elim
theorem je_ixT (hr : Room k X.A) (ho : JE X R W o fo) (hi : JE X R W i fi) (hs : PlainIx i := by exact fun _ _ => rfl) : JE X R W (.Subscript o i pos) (mBin opIxT fo fi) := fun hK F =>
  PE.imp (pe_ix (ix_dict (hu1 hr)) (ho hK F) (hi hK F) hs) (tBin pr_ixT)
/-! d[k] = x -/
def setIxT (r i : RV) (x : MV) (s : MS) : Out Fl := match r, i with
  | .v (.ref n), .v q => match s.hp[n]? with
    | some (.dt false kvs) => match keyT q with
      | some _ => if kvs.length < sizeLine then .ok .next { s with hp := s.hp.set n (.dt false (setT kvs q x)) } else .bad
      | none => .bad
    | _ => .bad
  | _, _ => .bad
def mSetIxT (fe fo fi : ME) : MSt := fun s => (mSh fe s).bind fun x s1 => (fo s1).bind fun r s2 => (fi s2).bind fun i s3 => setIxT r i x s3
theorem js_setixT {i : Expr} {fi : ME} {tpos : Pos} (hr : Room k X.A) (he : JE X R W e fe) (ho : JE X R W o fo) (hi : JE X R W i fi) (hs : swapsWithSole [.Subscript o i tpos] e pos.line X.env = pure false := by rfl) (hw : swappedStores [.Subscript o i tpos] e X.env = pure none := by rfl)
    (h1 : (assignEach [.Subscript o i tpos] X.env).map (·.2) = [assign (.Subscript o i tpos) X.env] := by rfl)
    (ha : ∀ v, assign (.Subscript o i tpos) X.env v = (do
      let ov ← holding [v] (eval o X.env)
      let iv ← holding [v, ov] (eval i X.env)
      standAt tpos
      holding [v, ov, iv] (setItem ov iv v)
      release [v, ov, iv] []) := by intro _; rfl) : JS X R W (.Assign [.Subscript o i tpos] e pos) (mSetIxT fe fo fi) := fun hK F =>
  PS.imp (ps_asg (jv_of he hK F) (pg_sub (ho hK F) (hi hK F) (set_dict (hu1 hr)) ha) hs hw h1) fun D σ H h => by
    refine (firstS (M := rlV) h).mono fun v H1 ⟨G, x, s1, G1, w, vx, o⟩ => ?_
    refine (nextS (M := rlE) w o).mono fun ov H2 ⟨r, s2, G2, w2, e12, rr, o2⟩ => ?_
    refine (nextS (M := rlE) w2 o2).mono fun iv H3 ⟨ir, s3, G3, w3, e23, ri, o3⟩ => ?_
    have rr3 : RR R σ H G3 H3 r ov := (show RR R σ H G2 H2 r ov from rr).mono e23
    have ri : RR R σ H G3 H3 ir iv := ri
    have vx3 : VR R.K G3 H3 x v := VR.mono (e12.trans e23).mo _ _ (show VR R.K G1 H1 x v from vx)
    unfold setIxT at o3
    split at o3
    · rename_i n q _ _
      split at o3
      · rename_i kvs hn
        obtain ⟨a, rfl, g, d⟩ := dt_at w3.rel rr3 hn
        obtain ⟨dk, rd, dd, h1, _⟩ := d.to
        have ha := h1 rfl
        split at o3
        · rename_i ks hk
          obtain ⟨⟨b, rfl, hb⟩, e⟩ := keyT_V (show VR R.K G3 H3 q iv from ri) hk
          subst e
          split at o3
          · rename_i hz
            have mu : Mo G3 H3 G3 (upd H3 a (.dT (putK dk ks v))) := Mo.upd (by rw [g]; simp) d.nt
            have d2 := (dd.put ks vx3).mono mu
            exact ⟨a, _, rfl, DPut.t ha hb (by rw [← dd.length]; exact hz), o3 _ _ _ (put_dt w3.rel g hn d (dt_nf0 w3.rel ha) ⟨_, upd_same, _, rfl, d2.1, d2.2⟩) (w3.evS.trans (Evo.updRole (by rw [g]; simp) (by rw [g]; simp) (fun x u z => by rw [ha] at z; cases z) d.nt))⟩
          · exact o3.elim
        · exact o3.elim
      · exact o3.elim
    · exact o3.elim
/-! d.setdefault(k, x) -/
theorem d_setdT {pins : List (Addr × Obj)} {σ : L2.St} {H : Hp} {s : Shared} {a b : Addr} {r : Value} {d : V} {A : Around} {E : Value → Shared → Prop} {kvs : List (List Key × V)} {ks : List Key} {Q : Value → Shared → Prop} (hu : A.units + 1 < cLine) (I : Inv X pins σ H s) (e : H a = some (.dT kvs)) (eb : H b = some (.tup (ks.map kV))) (rd : RelV d r) (hl : kvs.length < sizeLine)
    (h1 : ∀ v, valV kvs ks = some v → ∀ (w' : Value) (s' : Shared), Inv X pins σ H s' → RelV v w' → Q w' s') (h2 : valV kvs ks = none → ∀ (w' : Value) (s' : Shared), Inv X pins σ (upd H a (.dT (putK kvs ks d))) s' → RelV d w' → Q w' s') :
    wpAny (model X.prog X.w) A (call (.builtin "dict.setdefault") [.ref a, .ref b, r]) Q E s := by
  obtain ⟨z, hd, xs, rel, dd⟩ := dt_of I.hok e
  have hz : xs.length ≤ sizeLine := by rw [← Paired.length rel]; exact z
  refine call_setdefault_heap (hsz := hz) (tupleKind_room_in1 hu) (key_of I.hok eb) hd dd (fun p hp => ?_) fun hn h' dd' hs => ?_
  · have q := rel.val ks
    rw [hp] at q
    cases q0 : valV kvs ks with
    | none => rw [q0] at q; exact (show False from q).elim
    | some v0 => rw [q0] at q; exact h1 v0 q0 _ _ (I.tok _) q
  · have q := rel.val ks
    rw [hn] at q
    cases q0 : valV kvs ks with
    | some v0 => rw [q0] at q; exact (show False from q).elim
    | none =>
      have hl2 : (putK kvs ks d).length ≤ sizeLine := by have := length_putK kvs ks d; omega
      obtain ⟨q, es, ep, hq, g2, g3, g4, _, g5⟩ := dd'
      refine h2 q0 _ _ (d_write (t' := s.toks + (tupleKind (mixKind X.prog X.w)).draws ks) I (by rw [e]; exact True.intro) hs ⟨q, hq⟩ ⟨hl2, hd, _, (rel.put ks eb rd).keeps fun c ys ec => ?_, q, es, ep, hq, g2, g3, g4, g5⟩) rd
      rw [upd_ne (ne_of ec e (fun z => nomatch z))]
      exact ec
def tDSetdT (td ty tx : TE) : TE := fun σ H Q => td σ H fun x H1 => ∃ a, x = .ref a ∧ IsD H1 a ∧ ty σ H1 fun y H2 => tx σ H2 fun z H3 => ∃ (kvs : List (List Key × V)) (ks : List Key) (b : Addr), H3 a = some (.dT kvs) ∧ y = .ref b ∧ H3 b = some (.tup (ks.map kV)) ∧ kvs.length < sizeLine ∧
  (∀ v, valV kvs ks = some v → Q v H3) ∧ (valV kvs ks = none → Q z (upd H3 a (.dT (putK kvs ks z))))
theorem pe_dsetdT {td ty tx : TE} (hu : X.A.units + 1 < cLine) (ho : PE X o td) (he : PE X e ty) (hf : PE X f tx) (m : M2 X o "setdefault" apos e f cpos) : PE X (.Call (.Attribute o "setdefault" apos) [e, f] [] cpos) (tDSetdT td ty tx) := by
  refine ⟨fun pins s σ H Q I h => ?_⟩
  refine wpAny_Call_method m.base m.few m.line PySem.F.plainAttrs_dict PySem.F.slot_dict_setdefault PySem.F.type_dict_setdefault (thn (ho.run pins s σ H _ I h) fun u s1 ⟨x, H1, I1, rx, a, ex, d, q1⟩ => ?_)
  subst ex
  obtain rfl : u = Value.ref a := rx
  obtain ⟨t1, t2, _⟩ := isD_at I1 d
  refine ⟨t1, t2, ?_⟩
  rw [m.trees]
  refine Calls.callWith_builtin rfl (Calls.evalArgs_plain (Calls.spliced_cons (thn (he.run pins s1 σ H1 _ I1 q1) fun iv s2 ⟨y, H2, I2, ry, q2⟩ =>
    Calls.spliced_cons (thn (hf.run pins s2 σ H2 _ I2 q2) fun fv s3 ⟨z, H3, I3, rz, kvs, ks, b, ea, ey, eb, hl, q3, q4⟩ => Calls.spliced_nil ?_))))
  subst ey
  cases ry
  exact d_setdT hu I3 ea eb rz hl (fun v hv w' s4 I4 rw' => ⟨v, _, I4, rw', q3 v hv⟩) fun hn w' s4 I4 rw' => ⟨z, _, I4, rw', q4 hn⟩
def mSetdT (fo fe ff : ME) : ME := fun s => (fo s).bind fun r s1 => match dtOf s1 r with
  | some _ => (mSh fe s1).bind fun q s2 => (mSh ff s2).bind fun d s3 => match r with
    | .v (.ref n) => match s3.hp[n]? with
      | some (.dt false kvs) => match keyT q with
        | some _ => if kvs.length < sizeLine then (match getT kvs q with
          | some x => .ok (.v x) s3
          | none => .ok (.v d) { s3 with hp := s3.hp.set n (.dt false (setT kvs q d)) }) else .bad
        | none => .bad
      | _ => .bad
    | _ => .bad
  | none => .bad
theorem je_setdT (hr : Room k X.A) (ho : JE X R W o fo) (he : JE X R W e fe) (hf : JE X R W f ff) (m : M2 X o "setdefault" apos e f cpos := by exact ⟨rfl, rfl, rfl, rfl⟩) : JE X R W (.Call (.Attribute o "setdefault" apos) [e, f] [] cpos) (mSetdT fo fe ff) := fun hK F =>
  PE.imp (pe_dsetdT (hu1 hr) (ho hK F) (jv_of he hK F) (jv_of hf hK F) m) fun σ H Q h => by
    refine (first (M := rlE) h).mono fun x H1 ⟨G, r, s1, G1, w, rr, o⟩ => ?_
    have rr : RR R σ H G1 H1 r x := rr
    split at o
    · rename_i kvs hd
      obtain ⟨a, dk, rfl, ha, _⟩ := dt_ok w.rel rr hd
      refine ⟨a, rfl, .inr ⟨dk, ha⟩, ?_⟩
      refine (next (M := rlV) w o).mono fun y H2 ⟨q, s2, G2, w2, e12, rq, o2⟩ => ?_
      refine (next (M := rlV) w2 o2).mono fun z H3 ⟨d, s3, G3, w3, e23, rd, o3⟩ => ?_
      have rq : VR R.K G3 H3 q y := VR.mono e23.mo _ _ (show VR R.K G2 H2 q y from rq)
      have rd : VR R.K G3 H3 d z := rd
      have rr3 := (rr.mono e12).mono e23
      split at o3
      · rename_i n
        split at o3
        · rename_i kvs2 hn
          obtain ⟨a2, ea, g, dt⟩ := dt_at w3.rel rr3 hn
          cases ea
          obtain ⟨dk2, rd2, dd, h1, _⟩ := dt.to
          have ha2 := h1 rfl
          split at o3
          · rename_i ks hk
            obtain ⟨⟨b, rfl, hb⟩, e⟩ := keyT_V rq hk
            subst e
            split at o3
            · rename_i hz
              refine ⟨dk2, ks, b, ha2, rfl, hb, by rw [← dd.length]; exact hz, fun v hv => ?_, fun hv => ?_⟩
              · split at o3
                · rename_i x0 hx
                  obtain ⟨v', hv', vr⟩ := (dd.get ks).2 x0 hx
                  rw [hv] at hv'; cases hv'
                  exact finV w3 o3 vr
                · rename_i hx
                  rw [(dd.get ks).1 hx] at hv; cases hv
              · split at o3
                · rename_i x0 hx
                  obtain ⟨v', hv', vr⟩ := (dd.get ks).2 x0 hx
                  rw [hv] at hv'; cases hv'
                · rename_i hx
                  have mu : Mo G3 H3 G3 (upd H3 a (.dT (putK dk2 ks z))) := Mo.upd (by rw [g]; simp) dt.nt
                  have d2 := (dd.put ks rd).mono mu
                  exact o3 _ _ _ (put_dt w3.rel g hn dt (dt_nf0 w3.rel ha2) ⟨_, upd_same, _, rfl, d2.1, d2.2⟩) (w3.evo.trans (Evo.updRole (by rw [g]; simp) (by rw [g]; simp) (fun x u z => by rw [ha2] at z; cases z) dt.nt)) (VR.mono mu _ _ rd)
            · exact o3.elim
          · exact o3.elim
        · exact o3.elim
      · exact o3.elim
    · exact o.elim
/-! the dict is walked: locked meanwhile -/
noncomputable def mLkT (pk fe : ME) : ME := fun s => match pk s with
  | .ok (.v (.ref n)) _ => match s.hp[n]? with
    | some (.dt false kvs) => match fe { s with hp := s.hp.set n (.dt true kvs) } with
      | .ok v s2 => match s2.hp[n]? with
        | some (.dt true _) => .ok v { s2 with hp := s2.hp.set n (.dt false kvs) }
        | _ => .bad
      | _ => .bad
    | _ => .bad
  | _ => .bad
theorem je_lkT (h : JE X R W e fe) : JE X R W e (mLkT pk fe) := fun hK F => PE.imp (pe_lock (h hK F)) fun σ H Q ⟨G, s, rel, o⟩ => by
  unfold mLkT at o
  split at o
  · rename_i n _ _
    split at o
    · rename_i kvs hn
      obtain ⟨d, gd, od⟩ := rel.hp.objs n _ hn
      have dt : DTR R.K G H kvs d false := od
      obtain ⟨dk, _, dd, h1, _⟩ := dt.to
      have hd := h1 rfl
      have gn : G d ≠ some .frz := by rw [gd]; simp
      have g0 : G d ≠ none := by rw [gd]; simp
      refine ⟨d, .dT dk, hd, trivial, fun od => ?_⟩
      have mu : Mo G H G (upd H d (.frz od (.dT dk))) := Mo.upd gn dt.nt
      have dd1 := dd.mono mu
      have rel1 := put_dt (l' := true) (ho := .frz od (.dT dk)) rel gd hn dt (dt_nf0 rel hd) ⟨od, _, upd_same, dk, rfl, dd1.1, dd1.2⟩
      refine ⟨G, _, rel1, ?_⟩
      split at o
      · rename_i v s2 hfe
        rw [hfe]
        intro G' H' v' rel2 ev rr2
        have hfz : H' d = some (.frz od (.dT dk)) := by
          obtain ⟨o', e1, e2⟩ := ev.tk d _ upd_same
          rw [e2 (.inl ⟨_, _, rfl⟩)] at e1
          exact e1
        refine ⟨hfz, ?_⟩
        split at o
        · rename_i kvs2 hn2
          have gd2 : G' d = some (.obj n) := ev.ob d n gd
          obtain ⟨d', gd', dt2⟩ := rel2.hp.objs n _ hn2
          have ed := rel2.hp.uniq _ _ _ gd2 gd'
          subst ed
          have nd : ∀ b, G b = some .frz → b ≠ d := fun b gb z => gn (by rw [← z]; exact gb)
          have mo2 : Mo G H G' (upd H' d (.dT dk)) := by
            refine ⟨fun b gb => ?_, fun b n gb => ev.ob b n gb, fun b xs q => ?_⟩
            · obtain ⟨g1, h1⟩ := ev.fz b gb
              exact ⟨g1, by rw [upd_ne (nd b gb), h1, upd_ne (nd b gb)]⟩
            · have hne : b ≠ d := fun z => by rw [z, hd] at q; cases q
              rw [upd_ne hne]
              exact ev.mo.tp b xs (by rw [upd_ne hne]; exact q)
          have dd2 := dd.mono mo2
          have nt2 : NT H' d := ntO hfz
          have rel3 := put_dt (l' := false) (ho := .dT dk) rel2 gd2 hn2 dt2 (dt_nf0 rel hd) ⟨_, upd_same, dk, rfl, dd2.1, dd2.2⟩
          have evo : Evo EvT G H G' (upd H' d (.dT dk)) := by
            refine ⟨fun b u hb gb => ?_, mo2.fz, ev.ob, ev.fl, fun b u hb => ?_⟩
            · have hne : b ≠ d := fun z => g0 (by rw [← z]; exact gb)
              obtain ⟨h1, g1⟩ := ev.un b u (by rw [upd_ne hne]; exact hb) gb
              exact ⟨by rw [upd_ne hne]; exact h1, g1⟩
            · by_cases z : b = d
              · subst z
                rw [hd] at hb; cases hb
                exact ⟨_, upd_same, fun _ => rfl⟩
              · obtain ⟨u', h1, k1⟩ := ev.tk b u (by rw [upd_ne z]; exact hb)
                exact ⟨u', by rw [upd_ne z]; exact h1, k1⟩
          have gn2 : G' d ≠ some .frz := by rw [gd2]; simp
          have mu2 : Mo G' H' G' (upd H' d (.dT dk)) := Mo.upd gn2 nt2
          have rr3 : RR R σ H G' (upd H' d (.dT dk)) v v' := by
            have rr2 : RR R σ (upd H d (.frz od (.dT dk))) G' H' v v' := rr2
            cases v with
            | v x => exact VR.mono mu2 x v' rr2
            | own c =>
              obtain ⟨a, ea, hn, ga, k⟩ := rr2
              have hne : a ≠ d := fun z => by rw [z, upd_same] at hn; cases hn
              exact ⟨a, ea, by rw [upd_ne hne] at hn; exact hn, ga, k.mono mu2 (upd_ne hne)⟩
            | loc i => exact rr2
            | fld n f => exact rr2
          exact o G' _ v' rel3 evo rr3
        · exact o.elim
      · exact o.elim
    · exact o.elim
  · exact o.elim
def mKeysT (fo : ME) : MS → Out MI := fun s => (fo s).bind fun r s1 => match r with
  | .v (.ref n) => match s1.hp[n]? with
    | some (.dt true kvs) => .ok ⟨kvs.map (·.1), fun _ => True⟩ s1
    | _ => .bad
  | _ => .bad
theorem ji_keysT {tg : Expr} {fo : ME} (ho : JE X R W e fo) : JI X R W tg e (mKeysT fo) := fun hK F => PI.imp (pi_keys (ho hK F)) fun σ H Rr h => by
  refine (first (M := rlE) h).mono fun v H1 ⟨G, r, s1, G1, w, rr, o⟩ => ?_
  have rr : RR R σ H G1 H1 r v := rr
  split at o
  · rename_i n _ _ _
    split at o
    · rename_i kvs hn
      obtain ⟨a, rfl, g, d⟩ := dt_at w.rel rr hn
      obtain ⟨dk, _, dd, _, h2⟩ := d.to
      obtain ⟨od, hd⟩ := h2 rfl
      have hl : kvs.length = dk.length := dd.length
      refine ⟨a, od, rfl, .inr ⟨dk, hd, o _ _ _ w.rel w.evo ?_⟩⟩
      intro F2 G2 H2 s2 σ2 rel ev ck
      have hf : H2 a = some (.frz od (.dT dk)) := by
        obtain ⟨o', e1, e2⟩ := ev.tk a _ hd
        rw [e2 (.inl ⟨_, _, rfl⟩)] at e1; exact e1
      refine ⟨fun i hi => ⟨hf, by simp at hi; omega⟩, ⟨hf, by simp [hl]⟩, fun i x v H3 hx y => ?_⟩
      obtain ⟨rfl, k, v0, q, hdk, rfl, hq⟩ := y
      simp only [List.getElem?_map, Option.map_eq_some_iff] at hx
      obtain ⟨p, hp, rfl⟩ := hx
      refine .inl ⟨rfl, ?_⟩
      have e1 : p.1 = mvT k := by
        have := congrArg (·[i]?) dd.1
        simp only [List.getElem?_map, hp, hdk, Option.map_some, Option.some.injEq] at this
        exact this
      rw [e1]
      exact VR_keyT hq
    · exact o.elim
  · exact o.elim
/-! sorted: of a list of tuples of ints, of a dict's keys -/
abbrev tupI (ns : List Int) : MV := .tup (ns.map .int)
def tupsOf : List MV → Option (List (List Int))
  | [] => some []
  | .tup xs :: r => match intsOf xs, tupsOf r with
    | some (i :: is), some t => some ((i :: is) :: t)
    | _, _ => none
  | _ => none
theorem tups_ne : ∀ {xs : List MV} {kss : List (List Int)}, tupsOf xs = some kss → ∀ ks ∈ kss, ks ≠ []
  | [], _, e, ks, h => by cases e; simp at h
  | x :: xs, kss, e, ks, h => by
    cases x with
    | tup ys =>
      unfold tupsOf at e
      split at e
      · rename_i i is t e1 e2
        cases e
        rcases List.mem_cons.mp h with q | q
        · rw [q]; simp
        · exact tups_ne e2 ks q
      · cases e
    | _ => cases e
theorem tups_V {K : PySem.W.Frag} {G : Gh} {H : Hp} : ∀ {xs : List MV} {vs : List V} {kss : List (List Int)}, VRs K G H xs vs → tupsOf xs = some kss → vs.map (kOf H) = kss ∧ ∀ x ∈ vs, TupH H x
  | [], _, _, h, e => by unfold VRs at h; subst h; cases e; exact ⟨rfl, fun x hx => by simp at hx⟩
  | x :: xs, _, kss, h, e => by
    obtain ⟨v, r, rfl, p, q⟩ := h.inv
    cases x with
    | tup ys =>
      unfold tupsOf at e
      split at e
      · rename_i i is t e1 e2
        cases e
        obtain ⟨a, b⟩ := tups_V q e2
        unfold VR at p
        obtain ⟨c, us, rfl, f, g⟩ := p
        have hu := ints_ok g e1
        subst hu
        obtain ⟨t1, t2⟩ := TupH.of (H := H) (t := c) f
        refine ⟨by rw [List.map_cons, a, t2], fun x hx => ?_⟩
        rcases List.mem_cons.mp hx with z | z
        · rw [z]; exact t1
        · exact b x z
      · cases e
    | _ => cases e
theorem ints_keys : ∀ {ks : List Key} {ns : List Int}, intsOf (ks.map keyMV) = some ns → ks = ns.map Sum.inl
  | [], _, e => by cases e; rfl
  | k :: ks, ns, e => by
    cases k with
    | inl i =>
      simp only [List.map_cons, keyMV, intsOf, Option.map_eq_some_iff] at e
      obtain ⟨t, e1, rfl⟩ := e
      rw [ints_keys e1, List.map_cons]
    | inr x => simp [keyMV, intsOf] at e
theorem tups_keys : ∀ {dk : List (List Key × V)} {kss : List (List Int)}, tupsOf (dk.map fun q => mvT q.1) = some kss → dk.map (·.1) = kss.map (·.map Sum.inl)
  | [], _, e => by cases e; rfl
  | q :: dk, kss, e => by
    rw [List.map_cons] at e
    unfold tupsOf at e
    simp only [mvT] at e
    split at e
    · rename_i i is t e1 e2
      cases e
      rw [List.map_cons, List.map_cons, tups_keys e2, ints_keys e1]
    · cases e
theorem VRs_tups {K : PySem.W.Frag} {G : Gh} {H : Hp} : ∀ {ys : List V}, (∀ y ∈ ys, TupH H y) → VRs K G H ((ys.map (kOf H)).map tupI) ys
  | [], _ => VRs.nil (K := K) (G := G) (H := H)
  | y :: ys, h => by
    obtain ⟨t, e, ht⟩ := h y (List.mem_cons_self ..)
    refine VRs.cons ?_ (VRs_tups fun z hz => h z (List.mem_cons_of_mem _ hz))
    unfold VR
    exact ⟨t, _, e, ht, VRs_ints _⟩
def srcT (s : MS) (r : RV) : Option (List MV) := match dtOf s r with | some kvs => some (kvs.map (·.1)) | none => lstOf s r
def pSortT (rs : List RV) (s : MS) : Out RV := match rs with
  | [r] => match (srcT s r).bind tupsOf with
    | some kss => .ok (.own (.lst ((srtL kss).map tupI))) s
    | none => .bad
  | _ => .bad
theorem pr_sortT : PrimC R (rSortTL R.K) pSortT := fun {F W σ G H G2 H2 s2 rs vs Q} w rr o => by
  unfold pSortT at o
  split at o
  · obtain ⟨v, t, rfl, r1, rfl⟩ := rr
    split at o
    · rename_i kss e
      simp only [Option.bind_eq_some_iff] at e
      obtain ⟨xs, e1, e2⟩ := e
      have fin : ∀ ys p, (∀ y ∈ ys, TupH H2 y) → ys.map (kOf H2) = srtL kss → H2 p = none → Q (.ref p) (upd H2 p (.lst ys)) := fun ys p h1 h2 hp => by
        have := VRs_tups (K := R.K) (G := G2) h1
        rw [h2] at this
        exact newLst w this o p hp
      unfold srcT at e1
      split at e1
      · rename_i kvs hd
        cases e1
        obtain ⟨a, dk, rfl, rd, dd⟩ := dt_ok w.rel r1 hd
        rw [dd.1] at e2
        exact ⟨a, kss, rfl, .inr ⟨dk, rd, tups_keys e2⟩, tups_ne e2, fin⟩
      · obtain ⟨a, ws, rfl, sq, h⟩ := lst_ok w.rel r1 e1
        obtain ⟨t1, t2⟩ := tups_V h e2
        exact ⟨a, kss, rfl, .inl ⟨ws, sq, t1, t2⟩, tups_ne e2, fin⟩
    · exact o.elim
  · exact o.elim
theorem je_sortedT {es : List Expr} {fs : MS → Out (List RV)} {pp : Pos} (ha : JA X R W (e :: es) fs) (he : starEach (e :: es) X.env = (false, eval e X.env) :: starEach es X.env := by rfl) (hpl : (backTo pos (starEach es X.env)).any (·.1) = false := by rfl) (hm : X.mg "sorted" = none) (hg : Gl X "sorted" := by rfl) (hc : X.calm = true := by rfl) :
    JE X R W (.Call (.Name "sorted" pp) (e :: es) [] pos) (mCallB pSortT fs) := je_callB (call_sortTL hc) (fun h => h ▸ pr_sortT) hm boot_sorted ha hg (he := he) (hpl := hpl)
/-! in a list of data -/
def opInD (neg : Bool) (r1 r2 : RV) (s : MS) : Out RV := match rpd s r1, rpd s r2 with
  | some d, some (.list ds) => if SeqAt.shaped d = true ∧ SeqAt.shaped (.list ds) = true then .ok (.v (.bl (neg ^^ ds.any fun z => PyData.eqv z d))) s else .bad
  | _, _ => .bad
theorem pr_inD : PrimR R (rInD R.K) (opInD false) := fun {F W σ G H G2 H2 s2 r1 r2 x y Q} w h1 h2 o => by
  unfold opInD at o
  split at o
  · rename_i d ds e1 e2
    split at o
    · rename_i hs
      exact ⟨d, ds, rpd_ok w.rel h1 e1, rpd_ok w.rel h2 e2, hs.1, hs.2, by simpa using finB w o⟩
    · exact o.elim
  · exact o.elim
theorem pr_notInD : PrimR R (rNotInD R.K) (opInD true) := fun {F W σ G H G2 H2 s2 r1 r2 x y Q} w h1 h2 o => by
  unfold opInD at o
  split at o
  · rename_i d ds e1 e2
    split at o
    · rename_i hs
      exact ⟨d, ds, rpd_ok w.rel h1 e1, rpd_ok w.rel h2 e2, hs.1, hs.2, by simpa using finB w o⟩
    · exact o.elim
  · exact o.elim
section
variable {a b : Expr} {fa fb : ME}
theorem hu65 (hr : Room k X.A) : X.A.units + 65 < cLine := by have := hr.un; omega
theorem je_inD (hr : Room k X.A) (ha : JE X R W a fa) (hb : JE X R W b fb) (hm : behindInMarks .In b = false := by rfl) : JE X R W (.Compare a [.In] [b] pos) (mBin (opInD false) fa fb) := se_cmp (op_inD (hu65 hr)) (fun h => h ▸ pr_inD) ha hb hm
theorem je_notInD (hr : Room k X.A) (ha : JE X R W a fa) (hb : JE X R W b fb) (hm : behindInMarks .NotIn b = false := by rfl) : JE X R W (.Compare a [.NotIn] [b] pos) (mBin (opInD true) fa fb) := se_cmp (op_notInD (hu65 hr)) (fun h => h ▸ pr_notInD) ha hb hm
theorem jt_inD (hr : Room k X.A) (ha : JE X R W a fa) (hb : JE X R W b fb) (hm : behindInMarks .In b = false := by rfl) : JT X R W (.Compare a [.In] [b] pos) (mTestB (mBin (opInD false) fa fb)) := jt_cmp (op_inD (hu65 hr)) (fun h => h ▸ pr_inD) ha hb hm
theorem jt_notInD (hr : Room k X.A) (ha : JE X R W a fa) (hb : JE X R W b fb) (hm : behindInMarks .NotIn b = false := by rfl) : JT X R W (.Compare a [.NotIn] [b] pos) (mTestB (mBin (opInD true) fa fb)) := jt_cmp (op_notInD (hu65 hr)) (fun h => h ▸ pr_notInD) ha hb hm
end
end
end Mi
set_option Elab.async false
set_option linter.all false
set_option maxRecDepth 100000
set_option maxHeartbeats 4000000
namespace Mi
open PySem PySem.Spec PyProof.Rows L2
section
variable {X : Cx} {R : RC} {W : WX} {pos : Pos} {a b : Expr} {fa fb : ME}
noncomputable instance {a b : Int} : Decidable (RgOk a b) := Classical.propDecidable _
/-! list(range(a, b)) -/
noncomputable def mListRg (fa fb : ME) : ME := fun s => (fa s).bind fun r1 s1 => (fb s1).bind fun r2 s2 => match r1, r2 with
  | .v (.int a), .v (.int b) => if RgOk a b then .ok (.own (.lst ((List.range (b - a).toNat).map fun i : Nat => .int (a + i)))) s2 else .bad
  | _, _ => .bad
theorem VRs_range {K : PySem.W.Frag} {G : Gh} {H : Hp} (a b : Int) : VRs K G H ((List.range (b - a).toNat).map fun i : Nat => MV.int (a + i)) (rgV a b) := by
  have := VRs_ints (K := K) (G := G) (H := H) ((List.range (b - a).toNat).map fun i : Nat => a + (i : Int))
  rw [List.map_map, List.map_map] at this
  exact this
theorem je_listRg {p p2 q : Pos} (hm : X.mg "list" = none) (hm2 : X.mg "range" = none) (ha : JE X R W a fa) (hb : JE X R W b fb) (hg : Gl X "list" := by rfl) (hg2 : Gl X "range" := by rfl) (hc : X.calm = true := by rfl)
    (na : starEach [a, b] X.env = (false, eval a X.env) :: starEach [b] X.env := by rfl) (nb : starEach [b] X.env = (false, eval b X.env) :: starEach [] X.env := by rfl) (hpl : (backTo q (starEach [b] X.env)).any (·.1) = false := by rfl) (nc : starEach [.Call (.Name "range" p2) [a, b] [] q] X.env = (false, eval (.Call (.Name "range" p2) [a, b] [] q) X.env) :: starEach [] X.env := by rfl) :
    JE X R W (.Call (.Name "list" p) [.Call (.Name "range" p2) [a, b] [] q] [] pos) (mListRg fa fb) := fun hK F =>
  PE.imp (pe_listRg hc hg hm (prg_2 hg2 hm2 (ha hK F) (hb hK F) na nb hpl) nc) fun σ H Q h => by
    refine (first (M := rlE) h).mono fun x H1 ⟨G, r1, s1, G1, w, rr, o⟩ => ?_
    refine (next (M := rlE) w o).mono fun y H2 ⟨r2, s2, G2, w2, e, rr2, o2⟩ => ?_
    have rr : RR R σ H G2 H2 r1 x := (show RR R σ H G1 H1 r1 x from rr).mono e
    have rr2 : RR R σ H G2 H2 r2 y := rr2
    split at o2
    · split at o2
      · rename_i hz
        cases RR.int rr; cases RR.int rr2
        exact ⟨_, _, rfl, rfl, hz, newLst w2 (VRs_range _ _) o2⟩
      · exact o2.elim
    · exact o2.elim
/-! a statement under a lock -/
noncomputable def mLkS (pk : ME) (f : MSt) : MSt := fun s => match pk s with
  | .ok (.v (.ref n)) _ => match s.hp[n]? with
    | some (.dt false kvs) => match f { s with hp := s.hp.set n (.dt true kvs) } with
      | .ok .next s2 => match s2.hp[n]? with
        | some (.dt true _) => .ok .next { s2 with hp := s2.hp.set n (.dt false kvs) }
        | _ => .bad
      | _ => .bad
    | _ => .bad
  | _ => .bad
theorem js_lkT {st : Stmt} {f : MSt} {pk : ME} (h : JS X R W st f) : JS X R W st (mLkS pk f) := fun hK F => PS.imp (ps_lock (h hK F)) fun D σ H ⟨G, s, rel, o⟩ => by
  unfold mLkS at o
  split at o
  · rename_i n _ _
    split at o
    · rename_i kvs hn
      obtain ⟨d, gd, od⟩ := rel.hp.objs n _ hn
      have dt : DTR R.K G H kvs d false := od
      obtain ⟨dk, _, dd, h1, _⟩ := dt.to
      have hd := h1 rfl
      have gn : G d ≠ some .frz := by rw [gd]; simp
      have g0 : G d ≠ none := by rw [gd]; simp
      refine ⟨d, .dT dk, hd, trivial, fun od => ?_⟩
      have mu : Mo G H G (upd H d (.frz od (.dT dk))) := Mo.upd gn dt.nt
      have dd1 := dd.mono mu
      have rel1 := put_dt (l' := true) (ho := .frz od (.dT dk)) rel gd hn dt (dt_nf0 rel hd) ⟨od, _, upd_same, dk, rfl, dd1.1, dd1.2⟩
      refine ⟨G, _, rel1, ?_⟩
      split at o
      · rename_i s2 hfe
        rw [hfe]
        intro G' σ' H' rel2 ev
        have hfz : H' d = some (.frz od (.dT dk)) := by
          obtain ⟨o', e1, e2⟩ := ev.tk d _ upd_same
          rw [e2 (.inl ⟨_, _, rfl⟩)] at e1
          exact e1
        refine ⟨hfz, ?_⟩
        split at o
        · rename_i kvs2 hn2
          have gd2 : G' d = some (.obj n) := ev.ob d n gd
          obtain ⟨d', gd', dt2⟩ := rel2.hp.objs n _ hn2
          have ed := rel2.hp.uniq _ _ _ gd2 gd'
          subst ed
          have nd : ∀ b, G b = some .frz → b ≠ d := fun b gb z => gn (by rw [← z]; exact gb)
          have mo2 : Mo G H G' (upd H' d (.dT dk)) := by
            refine ⟨fun b gb => ?_, fun b n gb => ev.ob b n gb, fun b xs q => ?_⟩
            · obtain ⟨g1, h1⟩ := ev.fz b gb
              exact ⟨g1, by rw [upd_ne (nd b gb), h1, upd_ne (nd b gb)]⟩
            · have hne : b ≠ d := fun z => by rw [z, hd] at q; cases q
              rw [upd_ne hne]
              exact ev.mo.tp b xs (by rw [upd_ne hne]; exact q)
          have dd2 := dd.mono mo2
          have rel3 := put_dt (l' := false) (ho := .dT dk) rel2 gd2 hn2 dt2 (dt_nf0 rel hd) ⟨_, upd_same, dk, rfl, dd2.1, dd2.2⟩
          have evo : Evo (· < F.base) G H G' (upd H' d (.dT dk)) := by
            refine ⟨fun b u hb gb => ?_, mo2.fz, ev.ob, ev.fl, fun b u hb => ?_⟩
            · have hne : b ≠ d := fun z => g0 (by rw [← z]; exact gb)
              obtain ⟨h1, g1⟩ := ev.un b u (by rw [upd_ne hne]; exact hb) gb
              exact ⟨by rw [upd_ne hne]; exact h1, g1⟩
            · by_cases z : b = d
              · subst z
                rw [hd] at hb; cases hb
                exact ⟨_, upd_same, fun _ => rfl⟩
              · obtain ⟨u', h1, k1⟩ := ev.tk b u (by rw [upd_ne z]; exact hb)
                exact ⟨u', by rw [upd_ne z]; exact h1, k1⟩
          exact o G' σ' _ rel3 evo
        · exact o.elim
      · exact o.elim
    · exact o.elim
  · exact o.elim
end
end Mi
set_option Elab.async false
set_option linter.all false
set_option maxRecDepth 100000
set_option maxHeartbeats 4000000
namespace Mi
open PySem PySem.Spec PyProof.Rows L2
section
variable {X : Cx} {R : RC} {W : WX} {pos : Pos} {a b e : Expr} {fa fb fe : ME} {k : Nat}
/-! a list times a number -/
noncomputable def opRep (r1 r2 : RV) (s : MS) : Out RV := match r1, r2 with
  | .own (.lst xs), .v (.int k) => if -(2 ^ 63) ≤ k ∧ k < 2 ^ 63 ∧ xs.length * k.toNat ≤ sizeLine then .ok (.own (.lst (List.replicate k.toNat xs).flatten)) s else .bad
  | _, _ => .bad
theorem VRs_rep {K : PySem.W.Frag} {G : Gh} {H : Hp} {xs : List MV} {vs : List V} (h : VRs K G H xs vs) : ∀ n : Nat, VRs K G H (List.replicate n xs).flatten (List.replicate n vs).flatten
  | 0 => VRs.nil (K := K) (G := G) (H := H)
  | n + 1 => by
    rw [List.replicate_succ, List.flatten_cons, List.replicate_succ, List.flatten_cons]
    exact VRs.append h (VRs_rep h n)
theorem pr_rep : PrimR R rRep opRep := fun {F W σ G H G2 H2 s2 r1 r2 x y Q} w h1 h2 o => by
  unfold opRep at o
  split at o
  · split at o
    · rename_i hk
      cases RR.int h2
      obtain ⟨l, rfl, _, _, vs, hl, vr⟩ := h1
      exact ⟨l, _, vs, rfl, rfl, hl, hk.1, hk.2.1, by rw [← VRs.length vr]; exact hk.2.2, newLst w (VRs_rep vr _) o⟩
    · exact o.elim
  · exact o.elim
theorem je_rep (ha : JE X R W a fa) (hb : JE X R W b fb) : JE X R W (.BinOp a .Mult b pos) (mBin opRep fa fb) := se_bin op_rep (fun _ => pr_rep) ha hb
end
/-! a dict with tuple keys against an empty one -/
section
variable {prog : Program} {w : World} {A : Around} {E : Value → Shared → Prop} {s : Shared}
theorem ne_D0 {a b : Addr} {oa ob : Obj} {es es' : Array DictEntry} {ep ep' : Nat} {Q : Value → Shared → Prop} (ha : (a == sysModules) = false) (hb : (b == sysModules) = false) (ta : s.TypeIs (.ref a) "dict") (tb : s.TypeIs (.ref b) "dict")
    (hoa : s.heap.get? a = some oa) (hda : oa.data = .dict es ep) (hob : s.heap.get? b = some ob) (hdb : ob.data = .dict es' ep') (h0 : es'.size = 0) (hu : A.units < cLine) (h : Q (.bool (decide (es.size ≠ 0))) s) :
    wpAny (model prog w) A (compareOp .NotEq (.ref a) (.ref b)) Q E s := by
  refine wpAny_richCompare_same_room (op := .NotEq) ta tb PySem.F.slot_dict_ne (wpAny_call_entry PySem.F.slot_dict_ne ta PySem.F.entry_dict_ne ?_ (PySem.F.args_dict_ne_2 _ _)) hu
  show wpAny _ _ (Builtin.Dict.dictSlotArgs "__ne__" ⟨[.ref a, .ref b], []⟩ >>= _) _ _ s
  refine wpAny_bind ?_
  unfold Builtin.Dict.dictSlotArgs
  refine wpAny_bind (wpAny_notOrdered_dict ta ?_)
  show wpAny _ _ (pure (Value.ref a, Value.ref b)) _ _ s
  refine wpAny_pure ?_
  refine wpAny_bind (wpAny_isInstance (T := "dict") tb PySem.F.sub_dict_dict ?_)
  simp only [Bool.not_true, Bool.false_eq_true, if_false]
  refine wpAny_bind (wpAny_pure (wpAny_bind (wpAny_pure ?_)))
  refine wpAny_bind ?_
  unfold Builtin.Dict.samePairs Builtin.Dict.showsAll
  rw [if_neg (show ¬ (a == sysModules) = true by rw [ha]; exact Bool.false_ne_true), if_neg (show ¬ (b == sysModules) = true by rw [hb]; exact Bool.false_ne_true)]
  refine wpAny_bind (wpAny_pure (wpAny_bind (wpAny_pure ?_)))
  refine wpAny_bind (wpAny_dictEntries hoa hda ?_)
  dsimp only
  refine wpAny_bind (wpAny_dictEntries hob hdb ?_)
  by_cases hsz : es.size = 0
  case neg =>
    rw [if_pos (by rw [h0]; simpa using hsz)]
    refine wpAny_bind (wpAny_rule (wpAny_pure ?_))
    refine wpAny_pure ⟨_, rfl, fun x => (nomatch x), ?_⟩
    simpa [hsz] using h
  case pos =>
    rw [if_neg (by rw [hsz, h0]; simp)]
    refine wpAny_bind (wpAny_dictEpoch hoa hda ?_)
    refine wpAny_bind ?_
    rw [Std.Legacy.Range.forIn_eq_forIn_range']
    simp only [Std.Legacy.Range.size, Nat.sub_zero, Nat.add_sub_cancel, Nat.div_one, hsz]
    refine wpAny_pure ?_
    refine wpAny_pure ?_
    refine wpAny_pure ⟨_, rfl, fun x => (nomatch x), ?_⟩
    simpa [hsz] using h
end
section
variable {X : Cx} {R : RC} {W : WX} {pos : Pos} {a b e o i : Expr} {fa fb fe fo fi : ME} {k : Nat} {ts : List Expr}
def rNeD0 : R2 := fun x y H Q => ∃ a b dk, x = .ref a ∧ y = .ref b ∧ Rd H a (.dT dk) ∧ Rd H b (.dK []) ∧ Q (.bl (decide (dk.length ≠ 0))) H
theorem op_neD0 (hu : X.A.units < cLine) : OpR X (compareOp .NotEq) rNeD0 := by
  intro pins s σ H x y v u Q I rx ry h
  obtain ⟨a, b, dk, rfl, rfl, ha, hb, q⟩ := h
  cases rx
  cases ry
  obtain ⟨z, sa, xs, kt, da⟩ := dt_rd I.hok ha
  obtain ⟨_, sb, vs, kv, db⟩ := dk_rd I.hok hb
  have ta := da.typeIs
  have tb := db.typeIs
  obtain ⟨oa, es, ep, hoa, _, hda, he, _, _⟩ := da
  obtain ⟨ob, es', ep', hob, _, hdb, _, hp, _⟩ := db
  have h0 : vs.length = 0 := by have := Paired.length kv; simpa using this.symm
  have hs' : es'.size = 0 := by rw [← Array.length_toList, hp.length, h0]
  have hsz : es.size = dk.length := by rw [size_of_entries he, ← Paired.length kt]
  refine ne_D0 sa sb ta tb hoa hda hob hdb hs' hu ?_
  rw [hsz]
  exact ⟨.bl _, H, I, rfl, q⟩
def opNeD0 (r1 r2 : RV) (s : MS) : Out RV := match dtOf s r1, r2 with
  | some kvs, .own (.dict []) => .ok (.v (.bl (decide (kvs.length ≠ 0)))) s
  | _, _ => .bad
theorem pr_neD0 : PrimR R rNeD0 opNeD0 := fun {F W σ G H G2 H2 s2 r1 r2 x y Q} w h1 h2 o => by
  unfold opNeD0 at o
  split at o
  · rename_i kvs hd
    obtain ⟨a, dk, rfl, rd, dd⟩ := dt_ok w.rel h1 hd
    obtain ⟨b, rfl, _, _, ho, hb, dk2, rfl, k1, _⟩ := h2
    have : dk2 = [] := by cases dk2 with
      | nil => rfl
      | cons p r => simp at k1
    subst this
    rw [dd.length] at o
    exact ⟨a, b, dk, rfl, rfl, rd, .inl hb, finB w o⟩
  · exact o.elim
theorem je_neD0 (hr : Room k X.A) (ha : JE X R W a fa) (hb : JE X R W b fb) (hm : behindInMarks .NotEq b = false := by rfl) : JE X R W (.Compare a [.NotEq] [b] pos) (mBin opNeD0 fa fb) := se_cmp (op_neD0 (by have := hu_eq hr; omega)) (fun _ => pr_neD0) ha hb hm
theorem jt_neD0 (hr : Room k X.A) (ha : JE X R W a fa) (hb : JE X R W b fb) (hm : behindInMarks .NotEq b = false := by rfl) : JT X R W (.Compare a [.NotEq] [b] pos) (mTestB (mBin opNeD0 fa fb)) := jt_cmp (op_neD0 (by have := hu_eq hr; omega)) (fun _ => pr_neD0) ha hb hm
/-! a[i], .. = .. -/
def fsIx (fo fi : ME) (u : List MV → MS → Option MS) : List MV → MS → Option MS := fun xs s => match xs with
  | x :: r => match fo s with
    | .ok ro s1 => match fi s1 with
      | .ok ri s2 => match setIxA ro ri x s2 with
        | .ok .next s3 => u r s3
        | _ => none
      | _ => none
    | _ => none
  | [] => none
theorem jfs_ix {tpos : Pos} {u : List MV → MS → Option MS} (hr : Room k X.A) (ho : JE X R (fun _ _ _ _ => False) o fo) (hi : JE X R (fun _ _ _ _ => False) i fi) (h2 : JFs X R ts u)
    (hs : (assignEach (.Subscript o i tpos :: ts) X.env).map (·.2) = assign (.Subscript o i tpos) X.env :: (assignEach ts X.env).map (·.2) := by rfl)
    (ha : ∀ v, assign (.Subscript o i tpos) X.env v = (do
      let ov ← holding [v] (eval o X.env)
      let iv ← holding [v, ov] (eval i X.env)
      standAt tpos
      holding [v, ov, iv] (setItem ov iv v)
      release [v, ov, iv] []) := by intro _; rfl) : JFs X R (.Subscript o i tpos :: ts) (fsIx fo fi u) := fun hK F =>
  PGs.imp (pgs_cons (pg_sub (ho hK F) (hi hK F) (set_any (hu1 hr)) ha) (h2 hK F) hs) fun v σ H Q ⟨G, s, xs, rel, vr, h⟩ => by
    cases xs with
    | nil => exact h.elim
    | cons y xs =>
      obtain ⟨w, r, rfl, p, q⟩ := vr.inv
      simp only [fsIx] at h
      refine ⟨w, r, rfl, ?_⟩
      split at h
      · rename_i s' e
        split at e
        · rename_i ro s1 hfo
          split at e
          · rename_i ri s2 hfi
            split at e
            · rename_i s3 hset
              refine ⟨G, s, rel, ?_⟩
              rw [hfo]
              intro G1 H1 ov rel1 ev1 rr
              refine ⟨G1, s1, rel1, ?_⟩
              rw [hfi]
              intro G2 H2 iv rel2 ev2 ri'
              have rr : RR R σ H G1 H1 ro ov := rr
              have rr3 : RR R σ H G2 H2 ro ov := rr.mono ev2
              have ri' : RR R σ H1 G2 H2 ri iv := ri'
              have w3 : Way R F σ G H G2 H2 s2 := ⟨rel2, ev1.trans ev2, rel.since⟩
              have vx3 : VR R.K G2 H2 y w := VR.mono (ev1.trans ev2).mo _ _ p
              have qx3 : VRs R.K G2 H2 xs r := VRs.mono (ev1.trans ev2).mo _ _ q
              have fin : ∀ H3, Rel R F G2 s3 σ H3 → Evo (· < F.base) G2 H2 G2 H3 → ∃ G s xs, Rel R F G s σ H3 ∧ VRs R.K G H3 xs r ∧ match u xs s with
                  | some s' => ∀ G' H', Rel R F G' s' σ H' → Evo (· < F.base) G H3 G' H' → Q σ H'
                  | none => False := fun H3 rel3 ev3 => by
                refine ⟨G2, s3, xs, rel3, VRs.mono ev3.mo _ _ qx3, ?_⟩
                rw [e]
                exact fun G' H' rel' ev' => h G' H' rel' (((ev1.trans ev2).weak fun _ _ => trivial).trans (ev3.trans ev'))
              unfold setIxA at hset
              split at hset
              · rename_i kvs hp
                obtain ⟨a, dk, rfl, ha, dd, ⟨q0, gq, nf⟩, put⟩ := put_dct w3 rr3 hp
                have gn : G2 a ≠ some .frz := fun z => nf (by rw [z] at gq; exact (Option.some.inj gq).symm)
                split at hset
                · split at hset
                  · rename_i kk hk
                    obtain ⟨rfl, e2⟩ := keyOf_V (K := R.K) (G := G2) (H := H2) ri' hk
                    subst e2
                    split at hset
                    · rename_i hz
                      cases hset
                      exact .inr ⟨a, _, rfl, DPut.k ha (by rw [← dd.length]; exact hz), fin _ (put _ _ (dd.put kk vx3)) (Evo.updRole gn (by rw [gq]; simp) (fun x u z => by rw [ha] at z; cases z))⟩
                    · cases hset
                  · cases hset
                · cases hset
              · rename_i ys hp
                split at hset
                · cases RR.int ri'
                  split at hset
                  · rename_i j hj
                    cases hset
                    obtain ⟨a, rfl, ⟨vs, ha, hvs⟩, ⟨q0, gq, nf⟩, put⟩ := put_ok w3.rel rr3 hp
                    have gn : G2 a ≠ some .frz := fun z => nf (by rw [z] at gq; exact (Option.some.inj gq).symm)
                    have mu : Mo G2 H2 G2 (upd H2 a (.lst (vs.set j w))) := Mo.upd gn
                    exact .inl ⟨a, vs, _, j, rfl, rfl, ha, by rw [← hvs.length]; exact hj, fin _ (put _ ⟨_, upd_same, VRs.set (VR.mono mu _ _ vx3) j (VRs.mono mu _ _ hvs)⟩) (Evo.updRole gn (by rw [gq]; simp) (fun x u z => by rw [ha] at z; cases z))⟩
                  · cases hset
                · cases hset
              · cases hset
            · cases e
          · cases e
        · cases e
      · exact h.elim
/-! == and != of tuples that hold boxed lists -/
def pd1 (s : MS) : MV → Option PyData
  | .ref n => rpd s (.v (.ref n))
  | x => pd x
def pds1 (s : MS) : List MV → Option (List PyData)
  | [] => some []
  | x :: xs => match pd1 s x, pds1 s xs with | some d, some ds => some (d :: ds) | _, _ => none
def rpdT (s : MS) (r : RV) : Option PyData := match r with
  | .v (.tup xs) => (pds1 s xs).map .tuple
  | r => rpd s r
theorem pds1_ok {F : FI} {σ : L2.St} {G : Gh} {H : Hp} {s : MS} (rel : Rel R F G s σ H) : ∀ (xs : List MV) (vs : List V) (ds : List PyData), VRs R.K G H xs vs → pds1 s xs = some ds → DpAll R.K H vs ds
  | [], _, _, h, e => by unfold VRs at h; subst h; cases e; exact .nil
  | x :: xs, _, _, h, e => by
    obtain ⟨v, r, rfl, p, q⟩ := h.inv
    simp only [pds1] at e
    split at e
    · rename_i d ds e1 e2
      cases e
      refine .cons ?_ (pds1_ok rel xs r ds q e2)
      unfold pd1 at e1
      split at e1
      · exact rpd_ok (Hs := H) (r := .v (.ref _)) (σ := σ) rel (show RR R σ H G H (.v (.ref _)) _ from p) e1
      · exact pd_ok _ _ _ p e1
    · cases e
theorem rpdT_ok {F : FI} {σ : L2.St} {G : Gh} {H Hs : Hp} {s : MS} {r : RV} {v : V} {d : PyData} (rel : Rel R F G s σ H) (rr : RR R σ Hs G H r v) (e : rpdT s r = some d) : Dp R.K H v d := by
  unfold rpdT at e
  split at e
  · obtain ⟨a, vs, rfl, k, r⟩ := VR.tup rr
    simp only [Option.map_eq_some_iff] at e
    obtain ⟨ds, e1, rfl⟩ := e
    exact .tup k (pds1_ok rel _ vs ds r e1)
  · exact rpd_ok rel rr e
def opEqvT (neg : Bool) (r1 r2 : RV) (s : MS) : Out RV := match rpdT s r1, rpdT s r2 with
  | some d, some e => if SeqAt.shaped d = true ∧ SeqAt.shaped e = true then .ok (.v (.bl (neg ^^ PyData.eqv d e))) s else .bad
  | _, _ => .bad
theorem pr_eqvT : PrimR R (rEqD R.K) (opEqvT false) := fun {F W σ G H G2 H2 s2 r1 r2 x y Q} w h1 h2 o => by
  unfold opEqvT at o
  split at o
  · rename_i d e e1 e2
    split at o
    · rename_i hs
      refine ⟨d, e, rpdT_ok w.rel h1 e1, rpdT_ok w.rel h2 e2, hs.1, hs.2, ?_⟩
      have := finB w o
      simpa using this
    · exact o.elim
  · exact o.elim
theorem pr_nevT : PrimR R (rNeD R.K) (opEqvT true) := fun {F W σ G H G2 H2 s2 r1 r2 x y Q} w h1 h2 o => by
  unfold opEqvT at o
  split at o
  · rename_i d e e1 e2
    split at o
    · rename_i hs
      refine ⟨d, e, rpdT_ok w.rel h1 e1, rpdT_ok w.rel h2 e2, hs.1, hs.2, ?_⟩
      have := finB w o
      simpa using this
    · exact o.elim
  · exact o.elim
theorem je_eqT (hr : Room k X.A) (ha : JE X R W a fa) (hb : JE X R W b fb) (hm : behindInMarks .Eq b = false := by rfl) : JE X R W (.Compare a [.Eq] [b] pos) (mBin (opEqvT false) fa fb) := se_cmp (op_eqD (hu_eq hr)) (fun h => h ▸ pr_eqvT) ha hb hm
theorem je_neT (hr : Room k X.A) (ha : JE X R W a fa) (hb : JE X R W b fb) (hm : behindInMarks .NotEq b = false := by rfl) : JE X R W (.Compare a [.NotEq] [b] pos) (mBin (opEqvT true) fa fb) := se_cmp (op_neD (hu_eq hr)) (fun h => h ▸ pr_nevT) ha hb hm
theorem jt_eqT (hr : Room k X.A) (ha : JE X R W a fa) (hb : JE X R W b fb) (hm : behindInMarks .Eq b = false := by rfl) : JT X R W (.Compare a [.Eq] [b] pos) (mTestB (mBin (opEqvT false) fa fb)) := jt_cmp (op_eqD (hu_eq hr)) (fun h => h ▸ pr_eqvT) ha hb hm
theorem jt_neT (hr : Room k X.A) (ha : JE X R W a fa) (hb : JE X R W b fb) (hm : behindInMarks .NotEq b = false := by rfl) : JT X R W (.Compare a [.NotEq] [b] pos) (mTestB (mBin (opEqvT true) fa fb)) := jt_cmp (op_neD (hu_eq hr)) (fun h => h ▸ pr_nevT) ha hb hm
end
end Mi
set_option Elab.async false
set_option linter.all false
set_option maxRecDepth 100000
set_option maxHeartbeats 4000000
namespace Mi
open PySem PySem.Spec PyProof.Rows L2
section
variable {X : Cx} {R : RC} {W : WX}
/-! a statement while a boxed dict is walked -/
noncomputable def mLkSB (pk : ME) (f : MSt) : MSt := fun s => match pk s with
  | .ok (.v (.ref n)) _ => match place s (.v (.ref n)) with
    | some (.dict kvs) => match f (putC s (.v (.ref n)) (.lock kvs)) with
      | .ok .next s2 => match place s2 (.v (.ref n)) with
        | some (.lock _) => .ok .next (putC s2 (.v (.ref n)) (.dict kvs))
        | _ => .bad
      | _ => .bad
    | _ => .bad
  | _ => .bad
theorem js_lkB {st : Stmt} {f : MSt} {pk : ME} (h : JS X R W st f) : JS X R W st (mLkSB pk f) := fun hK F => PS.imp (ps_lock (h hK F)) fun D σ H ⟨G, s, rel, o⟩ => by
  unfold mLkSB at o
  split at o
  · rename_i n _ _
    split at o
    · rename_i kvs hp
      obtain ⟨v0, rr0⟩ := place_rr (Hs := H) rel hp
      obtain ⟨d, rfl, cr, ⟨q, gq, nf⟩, put⟩ := put_ok (c' := .lock kvs) rel rr0 hp
      obtain ⟨ho, hd, dk, rfl, hk, hv⟩ := cr
      have gn : G d ≠ some .frz := fun z => nf (by rw [z] at gq; exact (Option.some.inj gq).symm)
      have g0 : G d ≠ none := by rw [gq]; simp
      refine ⟨d, .dK dk, hd, trivial, fun od => ?_⟩
      have mu : Mo G H G (upd H d (.frz od (.dK dk))) := Mo.upd gn
      have rel1 := put (.frz od (.dK dk)) ⟨od, .dK dk, upd_same, dk, rfl, hk, VRs.mono mu _ _ hv⟩
      refine ⟨G, _, rel1, ?_⟩
      split at o
      · rename_i s2 hfe
        rw [hfe]
        intro G' σ' H' rel2 ev
        have hfz : H' d = some (.frz od (.dK dk)) := by
          obtain ⟨o', e1, e2⟩ := ev.tk d _ upd_same
          rw [e2 (.inl ⟨_, _, rfl⟩)] at e1
          exact e1
        refine ⟨hfz, ?_⟩
        split at o
        · rename_i kvs2 hp2
          have rrd : RR R σ' H G' H' (.v (.ref n)) (.ref d) := VR.mono (K := R.K) ev.mo (.ref n) _ (VR.mono (K := R.K) (G := G) (H := H) mu (.ref n) _ rr0)
          have nf0 : ∀ a, V.ref d = .ref a → ∀ x u, F.H0 a ≠ some (.frz x u) := fun a ea x u z => by
            cases ea
            obtain ⟨o', e1, e2⟩ := rel.since.tk d _ z
            rw [e2 (.inl ⟨_, _, rfl⟩), hd] at e1
            cases e1
          obtain ⟨d2, ed, _, ⟨q2, gq2, nf2⟩, put2⟩ := put_okU (c' := .dict kvs) rel2 rrd hp2 nf0
          cases ed
          have nd : ∀ b, G b = some .frz → b ≠ d := fun b gb z => gn (by rw [← z]; exact gb)
          have mo2 : Mo G H G' (upd H' d (.dK dk)) := by
            refine ⟨fun b gb => ?_, fun b n gb => ev.ob b n gb, fun b xs q => ?_⟩
            · obtain ⟨g1, h1⟩ := ev.fz b gb
              exact ⟨g1, by rw [upd_ne (nd b gb), h1, upd_ne (nd b gb)]⟩
            · have hne : b ≠ d := fun z => by rw [z, hd] at q; cases q
              rw [upd_ne hne]
              exact ev.mo.tp b xs (by rw [upd_ne hne]; exact q)
          have rel3 := put2 (.dK dk) ⟨.dK dk, upd_same, dk, rfl, hk, VRs.mono mo2 _ _ hv⟩
          have evo : Evo (· < F.base) G H G' (upd H' d (.dK dk)) := by
            refine ⟨fun b u hb gb => ?_, mo2.fz, ev.ob, ev.fl, fun b u hb => ?_⟩
            · have hne : b ≠ d := fun z => g0 (by rw [← z]; exact gb)
              obtain ⟨h1, g1⟩ := ev.un b u (by rw [upd_ne hne]; exact hb) gb
              exact ⟨by rw [upd_ne hne]; exact h1, g1⟩
            · by_cases z : b = d
              · subst z
                rw [hd] at hb; cases hb
                exact ⟨_, upd_same, fun _ => rfl⟩
              · obtain ⟨u', h1, k1⟩ := ev.tk b u (by rw [upd_ne z]; exact hb)
                exact ⟨u', by rw [upd_ne z]; exact h1, k1⟩
          exact o G' σ' _ rel3 evo
        · exact o.elim
      · exact o.elim
    · exact o.elim
  · exact o.elim
end
end Mi
set_option Elab.async false
set_option linter.all false
set_option maxRecDepth 100000
set_option maxHeartbeats 4000000
namespace Mi
open PySem PySem.Spec PyProof.Rows L2
/-! own exceptions over another base than ValueError, without fields -/
/-- the base -/
structure ExBase (B newId initId : String) (bmB : List Value) : Prop where
  F : ExcBaseFacts B newId initId bmB
  typ : typeOf (.type B) = pure (.type "type")
  boot : bootBuiltins B = some (.type B)
  stub : Manifest.isStub B = false
  hand : PySem.W.handedIn (.builtin initId) = true
structure OexB (newId : String) (bmB : List Value) (K : PySem.W.Frag) (C : Addr) : Prop where
  cls : ∃ nm q N bs sn sub ab col dd k0 k1 k2 k3 k5, K.lookup C = some (excClassObj nm q C N bs bmB true sn sub ab col dd k0 k1 k2 k3 k5 newId)
  exC : PySem.W.subIn K (.ref C) (.type "BaseException") = some true
  tyC : PySem.W.typeIn K (.ref C) = some (.type "type")
  kC : PySem.W.keepIn K (.ref C) = true
theorem base_Lookup : ExBase "LookupError" "LookupError.__new__" "LookupError.__init__" [.type "LookupError", .type "Exception", .type "BaseException", .type "object"] := ⟨F.excBase_LookupError, by kernel_rfl, by decide +kernel, by decide +kernel, by decide +kernel⟩
theorem base_Index : ExBase "IndexError" "IndexError.__new__" "IndexError.__init__" [.type "IndexError", .type "LookupError", .type "Exception", .type "BaseException", .type "object"] := ⟨F.excBase_IndexError, by kernel_rfl, by decide +kernel, by decide +kernel, by decide +kernel⟩
theorem base_Runtime : ExBase "RuntimeError" "RuntimeError.__new__" "RuntimeError.__init__" [.type "RuntimeError", .type "Exception", .type "BaseException", .type "object"] := ⟨F.excBase_RuntimeError, by kernel_rfl, by decide +kernel, by decide +kernel, by decide +kernel⟩
section
variable {X : Cx} {pins : List (Addr × Obj)} {σ : L2.St} {H : Hp} {s : Shared} {a C : Addr} {E : Value → Shared → Prop} {A : Around} {B newId initId : String} {bmB : List Value}
theorem oinitB_ok {us : List Value} {Q : Value → Shared → Prop} (b : ExBase B newId initId bmB) (T : OexB newId bmB X.K C) (I : Inv X pins σ H s) (e : H a = some (exo a C none)) (hl : us.length ≤ sizeLine) (h : ∀ s', Inv X pins σ H s' → Q .none s') :
    wpAny (model X.prog X.w) A (call (.builtin initId) (.ref a :: us)) Q E s := by
  obtain ⟨nm, q, N, bs, sn, sub, ab, col, dd, k0, k1, k2, k3, k5, hC⟩ := T.cls
  obtain ⟨t1, ho⟩ := exo_at I.hok e
  obtain ⟨hp, g, d, t, os⟩ := s
  refine wpAny_call (PySem.HandSPX.init_base b.F (fun Y => rfl) (I.kIn _ _ hC) ho hl fun h' t2 k hx => ?_)
  have J := I.write (t' := t) (x := a) (e := a) (o := exo a C none) (by rw [e]; exact True.intro) (.inl rfl) k ⟨_, hx⟩ (exo_ok hx)
  have eu : upd H a (exo a C none) = H := by
    funext b
    by_cases hb : b = a
    · rw [hb, upd_same, e]
    · rw [upd_ne hb]
  rw [eu] at J
  exact h _ J
end
def tBeI (newId : String) (bmB : List Value) (K : PySem.W.Frag) (ta : TA) : TE := fun σ H Q => ta σ H fun vs H1 => ∃ (a C : Addr) (ws : List V), vs = .ref a :: ws ∧ ws.length ≤ 1000 ∧ OexB newId bmB K C ∧ H1 a = some (exo a C none) ∧ Q .non H1
section
variable {X : Cx} {o e : Expr} {es : List Expr} {to te : TE} {ta : TA} {f : Str} {p p' p1 p2 pos : Pos} {B newId initId : String} {bmB : List Value}
theorem pe_binit {x : Str} {pl : Sem Bool} (b : ExBase B newId initId bmB) (hg : Gl X x) (hm : X.mg x = none) (hx : bootBuiltins x = some (.type B)) (vV : PySem.W.findCls X.K (.type B) (.type "type") "__init__" = some (.val (.builtin initId))) (ha : PA X (e :: es) ta)
    (hc : eval (.Call (.Attribute (.Name x p1) "__init__" p2) (e :: es) [] pos) X.env = (do
      let ov ← eval (.Name x p1) X.env
      standAt p2.atName
      let (f, first) ← holding [ov] (getMethod ov "__init__" pl)
      callWith pos f first (backTo pos (starEach (e :: es) X.env)) (backToKw pos (keywordEach [] X.env))) := by rfl)
    (hn : x ≠ "__name__" := by decide) (hd : (x == ("__debug__" : Str)) = false := by decide)
    (he : starEach (e :: es) X.env = (false, eval e X.env) :: starEach es X.env := by rfl) (hpl : (backTo pos (starEach es X.env)).any (·.1) = false := by rfl) :
    PE X (.Call (.Attribute (.Name x p1) "__init__" p2) (e :: es) [] pos) (tBeI newId bmB X.K ta) := by
  refine ⟨fun pins s σ H Q I h => ?_⟩
  refine PySem.W.methodCall_KW (ld_blt I hg hm hx ?_ hn hd) hc
  obtain ⟨m, fr⟩ := I.fr
  refine PySem.W.method_type fr I.ok.mod.kin b.typ b.stub vV b.hand ?_
  show wpAny _ _ (callWith pos (Value.builtin initId) [] (backTo pos (starEach (e :: es) X.env)) []) _ _ _
  refine PyProof.Rows.callWith_method1 (thn (ha.run pos pins _ σ H _ (I.tok _) h) fun us s1 ⟨vs, H1, I1, r1, a, C, ws, ev, hl, T, ea, q⟩ => ?_) he hpl
  subst ev
  cases r1 with
  | @cons _ u0 _ ur ra rw' =>
    obtain rfl : u0 = Value.ref a := ra
    have hlen : ur.length ≤ sizeLine := by
      rw [← Paired.length rw', sizeLine_eq]
      omega
    exact oinitB_ok b T I1 ea hlen fun s' J => ⟨.non, H1, J, rfl, q⟩
theorem exc_wishB {K : PySem.W.Frag} {C : Addr} {vs : List V} {H : Hp} {Q : VK} {E : XK} {x : Str} {N : List Str} (T : OexB newId bmB K C) (h : spI C vs H Q E) :
    tDrop (tBeI newId bmB K (tCons (tVar 0) (tCons (tC (.str x)) tNil))) { nx := fun _ H' => Q .non H', rt := Q } (L2.start ("self" :: N) vs) H := by
  obtain ⟨a, rfl, e, q⟩ := h
  exact ⟨.ref a, rfl, a, C, [.str x], rfl, by simp, T, e, q⟩
theorem pmk_oexB0 {x : Str} {C fI : Addr} {k : Nat} {fd : FuncData} {ps : List Str} {p pos : Pos} (bs : ExBase B newId initId bmB) (T : OexB newId bmB X.K C) (iC : PySem.W.findIn X.K (.ref C) "__init__" = some (some (.ref fI))) (tI : PySem.W.typeIn X.K (.ref fI) = some (.type "function"))
    (F1 : Mi.FnOk X.prog X.w X.K X.mg X.base (L2.CX X.prog X.w) k fI fd ps (spI C)) (hr : Mi.Room (k + 1) X.A) (hb : Binds X.K fd ps []) (hg : Gl X x) (hm : X.mg x = some (.ref C))
    (hdb : (x == ("__debug__" : Str)) = false := by decide) :
    PMk X (.Call (.Name x p) [] [] pos) (fun σ H Q => Q (.ref C) none H) := by
  intro pins s σ H Q I q
  obtain ⟨nm, qq, N, bs0, sn, sub, ab, col, dd, k0, k1, k2, k3, k5, hC⟩ := T.cls
  refine wpAny_Call_Name_kw (ld_glob I hg hm ?_ hdb)
  refine PySem.W.callWith_K0 I.kIn T.kC ?_
  show wpAny _ _ (call (.ref C) []) _ _ _
  obtain ⟨hp, g, dr, tk, os⟩ := s
  have hsz : hp.objs.size ≤ hp.objs.size + 1 := Nat.le_succ _
  have hn : H (hp.objs.size + 1) = none := I.hok.fresh hsz
  have kk : ∀ b o, hp.get? b = some o → ((hp.push (PySem.W.kdv_tup [])).push (PySem.HandSPX.excO C hp.objs.size)).get? b = some o := fun b o e => Heap.get?_push_of_some _ (Heap.get?_push_of_some _ e)
  have hget : ((hp.push (PySem.W.kdv_tup [])).push (PySem.HandSPX.excO C hp.objs.size)).get? (hp.objs.size + 1) = some (PySem.HandSPX.excO C hp.objs.size) := by heap_get
  have I2 : Inv X pins σ (upd H (hp.objs.size + 1) (exo (hp.objs.size + 1) C none)) ⟨(hp.push (PySem.W.kdv_tup [])).push (PySem.HandSPX.excO C hp.objs.size), g, dr, tk, os⟩ :=
    I.laid (t' := tk) (a := hp.objs.size + 1) (o := exo (hp.objs.size + 1) C none) (h' := (hp.push (PySem.W.kdv_tup [])).push (PySem.HandSPX.excO C hp.objs.size)) kk hsz (exo_ok hget)
  have r2 : Vals [V.ref (hp.objs.size + 1)] [Value.ref (hp.objs.size + 1)] := .cons rfl .nil
  have hq : spI C [.ref (hp.objs.size + 1)] (upd H (hp.objs.size + 1) (exo (hp.objs.size + 1) C none)) (fun v H2 => v = .non ∧ H2 = upd H (hp.objs.size + 1) (exo (hp.objs.size + 1) C none)) (fun _ _ _ => False) := ⟨_, rfl, upd_same, rfl, rfl⟩
  have hl : ([Value.ref (hp.objs.size + 1)] ++ ([] : List Value)).length = ps.length := by
    have e := r2.length
    rw [F1.len _ _ _ _ hq] at e
    rw [List.append_nil]
    exact e.symm
  have hb2 := hb _ [Value.ref (hp.objs.size + 1)] I2.kIn hl
  rw [List.append_nil] at hb2
  refine wpAny_call (PySem.HandSPX.call_own bs.F (fun Y => rfl) (I.kIn _ _ hC) (PySem.W.looks_findIn I.kIn iC) (fun self => PySem.W.bind_fn I.kIn self tI) (by show 0 ≤ sizeLine; omega)
    (codeAny_mono (F1.run _ X.stack _ _ ⟨[Value.ref (hp.objs.size + 1)], []⟩ [Value.ref (hp.objs.size + 1)] _ _ (fun _ _ _ => False) (hr.make C [] []) (I2.env0.make C [] []) hb2 r2 hq) fun r s' hq' => ?_))
  cases r with
  | error er => exact passL pins σ _ _ er s' I2 hq'
  | ok fl =>
    cases fl with
    | ret u =>
      obtain ⟨v, H2, os2, bare2, un2, hok2, rv, ev, eH⟩ := hq'
      subst ev eH
      obtain ⟨h2, g2, d2, t2, os'⟩ := s'
      obtain ⟨t0, G, J, kG, ge, hoe, na⟩ := mk_end1 (d2 := d2) (t2 := t2) I hsz kk un2 hok2 os2 bare2 upd_same
      have eH : del (upd H (hp.objs.size + 1) (exo (hp.objs.size + 1) C none)) (hp.objs.size + 1) = H := by
        funext b
        by_cases hba : b = hp.objs.size + 1
        · rw [hba, del_same, hn]
        · rw [del_ne hba, upd_ne hba]
      rw [eH] at J na
      exact ⟨rv, ⟨_, _, _, ⟨G, g2, d2, t2, os'⟩, _, .ref C, none, rfl, J, kG, ge, hoe, ⟨rfl, rfl⟩, rfl, rfl, na, rfl, bare2, raises_own T.exC T.tyC, q⟩⟩
    | next => exact False.elim hq'
    | brk => exact False.elim hq'
    | cont => exact False.elim hq'
end
section
variable {X : Cx} {R : RC} {W : WX} {B newId initId : String} {bmB : List Value}
theorem js_raiseB0 {x : Str} {fI : Addr} {k : Nat} {fd : FuncData} {ps : List Str} {p pos pos2 : Pos} (c : Nat) (hnf : R.exF c = []) (bs : ExBase B newId initId bmB) (T : OexB newId bmB X.K (R.exA c)) (iC : PySem.W.findIn X.K (.ref (R.exA c)) "__init__" = some (some (.ref fI))) (tI : PySem.W.typeIn X.K (.ref fI) = some (.type "function"))
    (F1 : Mi.FnOk X.prog X.w X.K X.mg X.base (L2.CX X.prog X.w) k fI fd ps (spI (R.exA c))) (tk : Takes X W) (hr : Mi.Room (k + 1) X.A) (hb : Binds X.K fd ps []) (hm : X.mg x = some (.ref (R.exA c))) (hg : Gl X x := by rfl) (hdb : (x == ("__debug__" : Str)) = false := by decide) (hc : X.calm = true := by rfl) :
    JS X R W (.Raise (some (.Call (.Name x p) [] [] pos)) none pos2) (mRaise c) := fun hK F =>
  PS.imp (ps_raise hc tk (pmk_oexB0 bs T iC tI F1 hr hb hg hm hdb)) fun D σ H ⟨G, s, rel, o⟩ => o G σ H (.ref (R.exA c)) none rel .refl ⟨rfl, by rw [hnf]; rfl, fun _ => rfl, fun h => absurd rfl h⟩
end
end Mi
set_option Elab.async false
set_option linter.all false
set_option maxRecDepth 100000
set_option maxHeartbeats 4000000
namespace Mi
open PySem PySem.Spec PyProof.Rows L2
/-! pairs of a number and a text in their order -/
abbrev Pr := Int × List Nat
def ltP (p q : Pr) : Bool := if p.1 = q.1 then decide (p.2 < q.2) else decide (p.1 < q.1)
theorem ltP_asym (x y : Pr) (h : ltP x y = true) : ltP y x = false := by
  unfold ltP at h ⊢
  by_cases e : x.1 = y.1
  · rw [if_pos e, decide_eq_true_eq] at h
    rw [if_pos e.symm, decide_eq_false_iff_not]
    exact List.lt_asymm h
  · rw [if_neg e, decide_eq_true_eq] at h
    rw [if_neg (Ne.symm e), decide_eq_false_iff_not]
    omega
theorem ltP_tr (x y z : Pr) (h1 : ltP y x = false) (h2 : ltP z y = false) : ltP z x = false := by
  unfold ltP at h1 h2 ⊢
  by_cases e : z.1 = x.1
  · rw [if_pos e, decide_eq_false_iff_not]
    by_cases e1 : y.1 = x.1
    · rw [if_pos e1, decide_eq_false_iff_not] at h1
      rw [if_pos (e.trans e1.symm), decide_eq_false_iff_not] at h2
      exact List.le_trans (show x.2 ≤ y.2 from h1) (show y.2 ≤ z.2 from h2)
    · rw [if_neg e1, decide_eq_false_iff_not] at h1
      rw [if_neg (by omega), decide_eq_false_iff_not] at h2
      omega
  · rw [if_neg e]
    refine decide_eq_false ?_
    by_cases e1 : y.1 = x.1
    · rw [if_neg (by omega), decide_eq_false_iff_not] at h2
      omega
    · rw [if_neg e1, decide_eq_false_iff_not] at h1
      by_cases e2 : z.1 = y.1
      · omega
      · rw [if_neg e2, decide_eq_false_iff_not] at h2
        omega
theorem ltP_total (x y : Pr) (h1 : ltP x y = false) (h2 : ltP y x = false) : x = y := by
  unfold ltP at h1 h2
  by_cases e : x.1 = y.1
  · rw [if_pos e, decide_eq_false_iff_not] at h1
    rw [if_pos e.symm, decide_eq_false_iff_not] at h2
    exact Prod.ext e (List.le_antisymm (show x.2 ≤ y.2 from h2) (show y.2 ≤ x.2 from h1))
  · rw [if_neg e, decide_eq_false_iff_not] at h1
    rw [if_neg (Ne.symm e), decide_eq_false_iff_not] at h2
    omega
theorem ltP_swo (k : Value → Pr) : SrtO.Swo fun v u => ltP (k v) (k u) := ⟨fun x y => ltP_asym _ _, fun x y z => ltP_tr _ _ _⟩
def insP (a : Pr) : List Pr → List Pr
  | [] => [a]
  | b :: r => if ltP b a = true then b :: insP a r else a :: b :: r
def srtP : List Pr → List Pr
  | [] => []
  | a :: r => insP a (srtP r)
abbrev LeP (x y : Pr) : Prop := ltP y x = false
theorem insP_perm (a : Pr) : ∀ l, (insP a l).Perm (a :: l)
  | [] => .refl _
  | b :: r => by
    unfold insP
    split
    · exact ((insP_perm a r).cons b).trans (.swap a b r)
    · exact .refl _
theorem srtP_perm : ∀ l, (srtP l).Perm l
  | [] => .refl _
  | a :: r => (insP_perm a (srtP r)).trans ((srtP_perm r).cons a)
theorem insP_sorted (a : Pr) : ∀ l, l.Pairwise LeP → (insP a l).Pairwise LeP
  | [], _ => by unfold insP; simp
  | b :: r, h => by
    unfold insP
    have hb := List.pairwise_cons.mp h
    split
    · rename_i hab
      refine List.pairwise_cons.mpr ⟨fun x hx => ?_, insP_sorted a r hb.2⟩
      rcases List.mem_cons.mp ((insP_perm a r).mem_iff.mp hx) with e | e
      · rw [e]; exact ltP_asym _ _ hab
      · exact hb.1 x e
    · rename_i hab
      have hab : ltP b a = false := by simpa using hab
      refine List.pairwise_cons.mpr ⟨fun x hx => ?_, h⟩
      rcases List.mem_cons.mp hx with e | e
      · rw [e]; exact hab
      · exact ltP_tr _ _ _ hab (hb.1 x e)
theorem srtP_sorted : ∀ l, (srtP l).Pairwise LeP
  | [] => List.Pairwise.nil
  | a :: r => insP_sorted a _ (srtP_sorted r)
theorem sortedP_unique : ∀ {l m : List Pr}, l.Perm m → l.Pairwise LeP → m.Pairwise LeP → l = m
  | [], m, p, _, _ => p.nil_eq
  | a :: r, [], p, _, _ => by have := p.length_eq; simp at this
  | a :: r, b :: t, p, h1, h2 => by
    have e1 := List.pairwise_cons.mp h1
    have e2 := List.pairwise_cons.mp h2
    have rf : ∀ x, ltP x x = false := fun x => by
      cases q : ltP x x with
      | false => rfl
      | true => rw [← ltP_asym _ _ q]; exact q.symm
    have ab : a = b := by
      have ha : a ∈ b :: t := p.mem_iff.mp (List.mem_cons_self ..)
      have hb : b ∈ a :: r := p.mem_iff.mpr (List.mem_cons_self ..)
      refine ltP_total _ _ ?_ ?_
      · rcases List.mem_cons.mp ha with z | z
        · rw [z]; exact rf _
        · exact e2.1 a z
      · rcases List.mem_cons.mp hb with z | z
        · rw [z]; exact rf _
        · exact e1.1 b z
    subst ab
    rw [sortedP_unique (List.Perm.cons_inv p) e1.2 e2.2]
theorem srtP_eq {l m : List Pr} (p : l.Perm m) (h : l.Pairwise LeP) : l = srtP m := sortedP_unique (p.trans (srtP_perm m).symm) h (srtP_sorted m)
theorem srtP_same {l m : List Pr} (p : l.Perm m) : srtP l = srtP m := srtP_eq ((srtP_perm l).trans p) (srtP_sorted l)
/-- a pair of the heap -/
def PairAt (h : Heap) (v : Value) (k : Pr) : Prop := ∃ (a : Addr) (o : Obj) (n : Nat) (t u : Tok) (x : Str), v = .ref a ∧ h.get? a = some o ∧ o.cls = .type "tuple" ∧ o.data = .seq #[.int k.1 t, .str x u] n ∧ x.cps.toList = k.2
theorem PairAt.keeps {h h' : Heap} {v : Value} {k : Pr} (p : PairAt h v k) (kk : ∀ b o, h.get? b = some o → h'.get? b = some o) : PairAt h' v k := by
  obtain ⟨a, o, n, t, u, x, e, ho, hc, hd, hx⟩ := p
  exact ⟨a, o, n, t, u, x, e, kk _ _ ho, hc, hd, hx⟩
section
variable {prog : Program} {w : World} {A : Around} {E : Value → Shared → Prop} {s : Shared} {Q : Bool → Shared → Prop}
theorem pair_cmp {vs : List Value} {k : Value → Pr} (hp : ∀ v ∈ vs, PairAt s.heap v (k v)) : SrtO.Cmp prog w A s (tuples' true) (fun p => p.1 ∈ vs) (SrtO.lt2 fun v u => ltP (k v) (k u)) := by
  intro p q hm hm'
  obtain ⟨a, o, n, t, u, x, e1, ho, hc, hd, hx⟩ := hp _ hm
  obtain ⟨a', o', n', t', u', x', e2, ho', hc', hd', hx'⟩ := hp _ hm'
  show wpAny (model prog w) A (keyLt' (tuples' true) p.1 q.1) (fun r s' => s' = s ∧ r = ltP (k p.1) (k q.1)) (fun _ _ => False) s
  generalize k p.1 = ns at *
  generalize k q.1 = ms at *
  rw [e1, e2]
  refine PySem.W.kat_lt ho hd ho' hd' ?_
  show PySem.W.KatLex prog w A true _ _ [(Value.int ns.1 t, Value.int ms.1 t'), (Value.str x u, Value.str x' u')] 0 s
  unfold ltP
  refine PySem.W.kat_cons (wpAny_eqBool_int ?_)
  by_cases e : ns.1 = ms.1
  · rw [show (ns.1 == ms.1) = true by rw [e]; exact beq_self_eq_true _]
    refine PySem.W.kat_yes (PySem.W.kat_cons (wpAny_eqBool_str ?_))
    rw [if_pos e]
    by_cases e3 : x = x'
    · rw [decide_eq_true e3]
      refine PySem.W.kat_yes (PySem.W.kat_nil ⟨rfl, ?_⟩)
      rw [← hx, ← hx', e3]
      simp
    · rw [decide_eq_false e3]
      refine PySem.W.kat_no (PyProof.Rows.oneLt_any_str ⟨rfl, ?_⟩)
      rw [hx, hx']
  · rw [show (ns.1 == ms.1) = false from beq_eq_false_iff_ne.mpr e]
    refine PySem.W.kat_no (PyProof.Rows.oneLt_any_int ⟨rfl, ?_⟩)
    rw [if_neg e]
theorem pairs_first {h : Heap} {k : Value → Pr} : ∀ vs : List Value, (∀ v ∈ vs, PairAt h v (k v)) → ∃ fs, PySem.W.KatTups h vs fs ∧ fs.length = vs.length ∧ ∀ f, f ∈ fs → ∃ n t, f = Value.int n t
  | [], _ => ⟨[], PySem.W.KatTups.nil, rfl, fun f hf => by simp at hf⟩
  | v :: vs, x => by
    obtain ⟨fs, kk, hl, hi⟩ := pairs_first vs fun u hu => x u (List.mem_cons_of_mem _ hu)
    obtain ⟨a, o, n, t, u, z, e0, ho, hc, hdt, i⟩ := x v (List.mem_cons_self ..)
    subst e0
    refine ⟨Value.int (k (.ref a)).1 t :: fs, PySem.W.KatTups.cons ho hc hdt rfl kk, by simp [hl], ?_⟩
    intro f hf
    rcases List.mem_cons.mp hf with rfl | hf
    · exact ⟨_, t, rfl⟩
    · exact hi f hf
theorem pairs_sortable {a : Addr} {vs : List Value} {k : Value → Pr} (h0 : 0 < vs.length) (hp : ∀ v ∈ vs, PairAt s.heap v (k v)) (ha : ∀ o, s.heap.get? a = some o → o.cls ≠ .type "tuple") : SrtO.SortableO prog w A s a vs fun v u => ltP (k v) (k u) := by
  intro h' keep
  have hp' : ∀ v ∈ vs, PairAt h' v (k v) := fun v hm => by
    obtain ⟨b, o, n, t, u, x, e, ho, hc, hd, hx⟩ := hp v hm
    exact ⟨b, o, n, t, u, x, e, keep b o (fun z => by subst z; exact ha o ho hc) ho, hc, hd, hx⟩
  obtain ⟨fs, h1, h2, h3⟩ := pairs_first _ hp'
  refine ⟨tuples' true, fun Q E hq => ?_, pair_cmp hp'⟩
  refine PySem.W.kat_kind (T := .type "int") h1 (by omega) (fun f hm => ?_) (by rfl) ?_
  · obtain ⟨x, t, rfl⟩ := h3 f hm
    exact PySem.W.Looks.now
  · have e : (Value.type "int" != Value.type "tuple") = true := by first | decide +kernel | rfl | decide
    rw [e]
    exact hq
end
/-! sorted of them -/
def kP (H : Hp) : V → Pr
  | .ref t => match H t with | some (.tup [.int i, .str x]) => (i, x.cps.toList) | _ => (0, [])
  | _ => (0, [])
def PairH (H : Hp) (v : V) : Prop := ∃ t i x, v = .ref t ∧ H t = some (.tup [.int i, .str x])
def kPv (H : Hp) : Value → Pr
  | .ref t => kP H (.ref t)
  | _ => (0, [])
def rSortP (K : PySem.W.Frag) : List V → Hp → VK → Prop := fun vs H Q => ∃ (a : Addr) (xs : List V), vs = [.ref a] ∧ SqL K H a xs ∧ (∀ x ∈ xs, PairH H x) ∧
  ∀ ys p, (∀ y ∈ ys, PairH H y) → ys.map (kP H) = srtP (xs.map (kP H)) → H p = none → Q (.ref p) (upd H p (.lst ys))
section
variable {X : Cx} {pins : List (Addr × Obj)} {σ : L2.St} {H : Hp} {s : Shared}
theorem pair_raw (I : Inv X pins σ H s) {t : Addr} (h : PairH H (.ref t)) : PairAt s.heap (.ref t) (kPv H (.ref t)) := by
  obtain ⟨t', i, x, e, h⟩ := h
  cases e
  obtain ⟨its, rv, ⟨o, ho, hc, n, hd⟩, _⟩ := I.tuple (show SqT X.K H t [.int i, .str x] from .inl (.inl h))
  have ek : kPv H (.ref t) = (i, x.cps.toList) := by
    show kP H (.ref t) = _
    unfold kP
    simp only [h]
  rw [ek]
  cases rv with
  | cons r1 rv =>
    cases rv with
    | cons r2 rv =>
      cases rv
      obtain ⟨tk, rfl⟩ := r1
      obtain ⟨uk, rfl⟩ := r2
      exact ⟨t, o, n, tk, uk, x, rfl, ho, hc, hd, rfl⟩
theorem bk_refsP : ∀ {us : List Value}, (∀ u ∈ us, ∃ a, u = Value.ref a) → Vals (us.map backV) us ∧ ∀ H : Hp, (us.map backV).map (kP H) = us.map (kPv H)
  | [], _ => ⟨.nil, fun _ => rfl⟩
  | u :: us, h => by
    obtain ⟨a, e⟩ := h u List.mem_cons_self
    subst e
    obtain ⟨h1, h2⟩ := bk_refsP (us := us) fun y hy => h y (List.mem_cons_of_mem _ hy)
    exact ⟨.cons (show RelV (.ref a) (.ref a) from rfl) h1, fun H => by rw [List.map_cons, List.map_cons, List.map_cons, h2]; rfl⟩
theorem out_P {vs out : List Value} (hv : ∀ v ∈ vs, ∃ a, v = Value.ref a ∧ PairH H (.ref a))
    (h1 : SrtO.Srtd (fun v u => ltP (kPv H v) (kPv H u)) out) (h2 : SrtO.Stb (fun v u => ltP (kPv H v) (kPv H u)) out vs) :
    Vals (out.map backV) out ∧ (∀ y ∈ out.map backV, PairH H y) ∧ (out.map backV).map (kP H) = srtP (vs.map (kPv H)) := by
  have ho : ∀ v ∈ out, ∃ a, v = Value.ref a ∧ PairH H (.ref a) := fun v m => hv v (h2.perm.mem_iff.mp m)
  obtain ⟨r1, r2⟩ := bk_refsP (us := out) fun u m => let ⟨a, e, _⟩ := ho u m; ⟨a, e⟩
  refine ⟨r1, fun y hy => ?_, ?_⟩
  · obtain ⟨u, m, rfl⟩ := List.mem_map.mp hy
    obtain ⟨a, rfl, t⟩ := ho u m
    exact t
  · rw [r2]
    exact srtP_eq (h2.perm.map _) (List.pairwise_map.mpr h1)
theorem call_sortP (hc : X.calm = true) : CallR X (.builtin "sorted") (rSortP X.K) := by
  intro pins s σ H xs us Q I r h
  obtain ⟨a, xs', rfl, hs, ht, q⟩ := h
  obtain ⟨u, rfl, rx⟩ := r.one
  cases rx
  obtain ⟨its, rv, hl, hz⟩ := I.list hs
  obtain ⟨e1, e2⟩ := refs_back rv fun x m => let ⟨t, i, y, e, _⟩ := ht x m; ⟨t, e⟩
  have hv : ∀ v ∈ its, ∃ a, v = Value.ref a ∧ PairH H (.ref a) := fun v hv => by
    obtain ⟨t, rfl⟩ := e2 v hv
    exact ⟨t, rfl, ht _ (by rw [e1]; exact List.mem_map.mpr ⟨_, hv, rfl⟩)⟩
  have hkk : its.map (kPv H) = xs'.map (kP H) := by
    rw [e1]
    exact ((bk_refsP (us := its) e2).2 H).symm
  have hp : ∀ v ∈ its, PairAt s.heap v (kPv H v) := fun v m => by
    obtain ⟨t, rfl, th⟩ := hv v m
    exact pair_raw I th
  refine SrtO.sorted_ord (ltP_swo (kPv H)) hl.isList (by rw [← rv.length]; exact hz) (fun h2 h₁ a' ha kk => ?_) fun out h1 h2 => ?_
  · refine pairs_sortable (s := { s with heap := h₁ }) (by omega) (fun v hm => (hp v hm).keeps fun b o e => (kk b o e).2) fun o e => ?_
    have e' : some o = some (seqObj "list" its.toArray 0) := e.symm.trans ha
    cases e'
    intro c
    exact absurd (Value.type.inj c) (by decide)
  · obtain ⟨r1, r2, r3⟩ := out_P hv h1 h2
    rw [hkk] at r3
    obtain ⟨ep, he'⟩ := PyProof.Rows.sortedAll_at s.heap its out.toArray
    have hlen : (out.map backV).length ≤ sizeLine := by
      rw [List.length_map, h2.perm.length_eq, ← rv.length]; exact hz
    exact ⟨.ref _, upd H (s.heap.objs.size + 1) (.lst (out.map backV)), I.laid (t' := s.toks) (fun _ _ => PyProof.Rows.sortedAll_old) (Nat.le_succ _) ⟨hlen, out, ep, r1, he'⟩, rfl, q _ _ r2 r3 (I.hok.fresh (Nat.le_succ _))⟩
end
def pairsM : List MV → Option (List Pr)
  | [] => some []
  | .tup [.int i, .str z] :: r => (pairsM r).map ((i, z) :: ·)
  | _ => none
def prM (p : Pr) : MV := .tup [.int p.1, .str p.2]
theorem pairsM_V {K : PySem.W.Frag} {G : Gh} {H : Hp} : ∀ {xs : List MV} {vs : List V} {ps : List Pr}, VRs K G H xs vs → pairsM xs = some ps → vs.map (kP H) = ps ∧ ∀ v ∈ vs, PairH H v
  | [], _, _, h, e => by unfold VRs at h; subst h; cases e; exact ⟨rfl, fun v hv => by cases hv⟩
  | x :: xs, _, ps, h, e => by
    obtain ⟨v, r, rfl, p, q⟩ := h.inv
    match x, e, p with
    | .tup [.int i, .str z], e, p =>
      simp only [pairsM, Option.map_eq_some_iff] at e
      obtain ⟨qs, e1, rfl⟩ := e
      obtain ⟨a, b⟩ := pairsM_V q e1
      unfold VR at p
      obtain ⟨c, us, rfl, f, g⟩ := p
      obtain ⟨v1, t1, rfl, p1, g⟩ := g.inv
      obtain ⟨v2, t2, rfl, p2, g⟩ := g.inv
      unfold VRs at g; subst g
      cases VR.int p1
      have := VR.str p2
      obtain rfl := this
      have f : H c = some (.tup [.int i, .str ⟨z.toArray⟩]) := f
      have k : kP H (.ref c) = (i, z) := by unfold kP; simp only [f]
      refine ⟨by rw [List.map_cons, a, k], fun x hx => ?_⟩
      rcases List.mem_cons.mp hx with w | w
      · rw [w]; exact ⟨c, _, _, rfl, f⟩
      · exact b x w
theorem VRs_pairs {K : PySem.W.Frag} {G : Gh} {H : Hp} : ∀ {ys : List V}, (∀ y ∈ ys, PairH H y) → VRs K G H ((ys.map (kP H)).map prM) ys
  | [], _ => VRs.nil (K := K) (G := G) (H := H)
  | y :: ys, h => by
    obtain ⟨t, i, x, e, ht⟩ := h y (List.mem_cons_self ..)
    refine VRs.cons ?_ (VRs_pairs fun z hz => h z (List.mem_cons_of_mem _ hz))
    subst e
    have k : kP H (.ref t) = (i, x.cps.toList) := by unfold kP; simp only [ht]
    rw [k]
    unfold prM
    unfold VR
    exact ⟨t, _, rfl, ht, VRs.cons (VR.mkInt (K := K) (G := G) (H := H)) (VRs.cons (VR.mkStr' (K := K) (G := G) (H := H) rfl) (VRs.nil (K := K) (G := G) (H := H)))⟩
def pSortP (rs : List RV) (s : MS) : Out RV := match rs with
  | [r] => match (lstOf s r).bind pairsM with
    | some ps => .ok (.own (.lst ((srtP ps).map prM))) s
    | none => .bad
  | _ => .bad
section
variable {X : Cx} {R : RC} {W : WX} {pos pp : Pos} {e : Expr} {es : List Expr} {fs : MS → Out (List RV)}
theorem pr_sortP : PrimC R (rSortP R.K) pSortP := fun {F W σ G H G2 H2 s2 rs vs Q} w rr o => by
  unfold pSortP at o
  split at o
  · obtain ⟨v, t, rfl, r1, rfl⟩ := rr
    split at o
    · rename_i ps e
      simp only [Option.bind_eq_some_iff] at e
      obtain ⟨xs, e1, e2⟩ := e
      obtain ⟨a, ws, rfl, sq, h⟩ := lst_ok w.rel r1 e1
      obtain ⟨t1, t2⟩ := pairsM_V h e2
      refine ⟨a, ws, rfl, sq, t2, fun ys p h1 h2 hp => ?_⟩
      have := VRs_pairs (K := R.K) (G := G2) h1
      rw [h2, t1] at this
      exact newLst w this o p hp
    · exact o.elim
  · exact o.elim
theorem je_sortedP (ha : JA X R W (e :: es) fs) (he : starEach (e :: es) X.env = (false, eval e X.env) :: starEach es X.env := by rfl) (hpl : (backTo pos (starEach es X.env)).any (·.1) = false := by rfl) (hm : X.mg "sorted" = none) (hg : Gl X "sorted" := by rfl) (hc : X.calm = true := by rfl) :
    JE X R W (.Call (.Name "sorted" pp) (e :: es) [] pos) (mCallB pSortP fs) := je_callB (call_sortP hc) (fun h => h ▸ pr_sortP) hm boot_sorted ha hg (he := he) (hpl := hpl)
/-! a list + a list that may be a shared one -/
def rCatS (K : PySem.W.Frag) : R2 := fun x y H Q => ∃ l b xs zs, x = .ref l ∧ y = .ref b ∧ SqL K H l xs ∧ SqL K H b zs ∧ xs.length + zs.length ≤ sizeLine ∧ ∀ p, H p = none → Q (.ref p) (upd H p (.lst (xs ++ zs)))
theorem op_catS : OpR X (binaryOp .Add) (rCatS X.K) := by
  intro pins s σ H x y v u Q I rx ry h
  obtain ⟨l, b, xs, zs, rfl, rfl, hH, hB, hz, q⟩ := h
  cases rx
  cases ry
  obtain ⟨its, r, hl, z⟩ := I.list hH
  obtain ⟨its2, r2, hl2, z2⟩ := I.list hB
  have l1 := r.length
  have l2 := r2.length
  obtain ⟨⟨cls, dd, data, sl⟩, n, ho, hc, hdd, hd⟩ := hl
  obtain ⟨⟨cls2, dd2, data2, sl2⟩, n2, ho2, hc2, hdd2, hd2⟩ := hl2
  simp only at hc hd hc2 hd2
  subst hc hd hc2 hd2
  refine concat_meets ⟨_, ho, rfl⟩ ⟨_, ho2, rfl⟩ noFill_list_add seq_list_add PySem.F.slot_list_add PySem.F.entry_list_add (PySem.F.args_list_add_2 _ _) (list_addW l b its.toArray its2.toArray n n2 dd dd2 sl sl2 (by rw [List.size_toArray, List.size_toArray]; omega)) ⟨ho, ho2, ?_⟩
  have ea : its.toArray ++ its2.toArray = (its ++ its2).toArray := by simp
  rw [ea]
  exact ⟨.ref _, _, I.lnew (t' := s.toks) (r.append r2) (by rw [List.length_append]; omega), rfl, q _ I.fresh⟩
def opAddS (r1 r2 : RV) (s : MS) : Out RV := match lstOf s r1, lstOf s r2 with
  | some a, some b => if a.length + b.length ≤ sizeLine then .ok (.own (.lst (a ++ b))) s else .bad
  | _, _ => .bad
theorem pr_addS : PrimR R (rCatS R.K) opAddS := fun {F W σ G H G2 H2 s2 r1 r2 x y Q} w h1 h2 o => by
  unfold opAddS at o
  split at o
  · rename_i a b e1 e2
    split at o
    · rename_i hz
      obtain ⟨p, vs, rfl, k1, v1⟩ := lst_ok w.rel h1 e1
      obtain ⟨q, ws, rfl, k2, v2⟩ := lst_ok w.rel h2 e2
      exact ⟨p, q, vs, ws, rfl, rfl, k1, k2, by rw [← v1.length, ← v2.length]; exact hz, newLst w (v1.append v2) o⟩
    · exact o.elim
  · exact o.elim
theorem je_addS {a b : Expr} {fa fb : ME} (ha : JE X R W a fa) (hb : JE X R W b fb) : JE X R W (.BinOp a .Add b pos) (mBin opAddS fa fb) := se_bin op_catS (fun h => h ▸ pr_addS) ha hb
end
end Mi
set_option Elab.async false
set_option linter.all false
set_option maxRecDepth 100000
set_option maxHeartbeats 4000000
namespace Mi
open PySem PySem.Spec PyProof.Rows L2
/-! texts in their order -/
abbrev Tx := List Nat
def ltT (p q : Tx) : Bool := decide (p < q)
theorem ltT_asym (x y : Tx) (h : ltT x y = true) : ltT y x = false := by
  unfold ltT at *
  rw [decide_eq_true_eq] at h
  exact decide_eq_false (List.lt_asymm h)
theorem ltT_tr (x y z : Tx) (h1 : ltT y x = false) (h2 : ltT z y = false) : ltT z x = false := by
  unfold ltT at *
  rw [decide_eq_false_iff_not] at *
  exact List.le_trans (show x ≤ y from h1) (show y ≤ z from h2)
theorem ltT_total (x y : Tx) (h1 : ltT x y = false) (h2 : ltT y x = false) : x = y := by
  unfold ltT at *
  rw [decide_eq_false_iff_not] at *
  exact List.le_antisymm (show x ≤ y from h2) (show y ≤ x from h1)
theorem ltT_refl (x : Tx) : ltT x x = false := by
  cases q : ltT x x with
  | false => rfl
  | true => rw [← ltT_asym _ _ q]; exact q.symm
def insT (a : Tx) : List Tx → List Tx
  | [] => [a]
  | b :: r => if ltT b a = true then b :: insT a r else a :: b :: r
def srtT : List Tx → List Tx
  | [] => []
  | a :: r => insT a (srtT r)
abbrev LeT (x y : Tx) : Prop := ltT y x = false
theorem insT_perm (a : Tx) : ∀ l, (insT a l).Perm (a :: l)
  | [] => .refl _
  | b :: r => by
    unfold insT
    split
    · exact ((insT_perm a r).cons b).trans (.swap a b r)
    · exact .refl _
theorem srtT_perm : ∀ l, (srtT l).Perm l
  | [] => .refl _
  | a :: r => (insT_perm a (srtT r)).trans ((srtT_perm r).cons a)
theorem insT_sorted (a : Tx) : ∀ l, l.Pairwise LeT → (insT a l).Pairwise LeT
  | [], _ => by unfold insT; simp
  | b :: r, h => by
    unfold insT
    have hb := List.pairwise_cons.mp h
    split
    · rename_i hab
      refine List.pairwise_cons.mpr ⟨fun x hx => ?_, insT_sorted a r hb.2⟩
      rcases List.mem_cons.mp ((insT_perm a r).mem_iff.mp hx) with e | e
      · rw [e]; exact ltT_asym _ _ hab
      · exact hb.1 x e
    · rename_i hab
      have hab : ltT b a = false := by simpa using hab
      refine List.pairwise_cons.mpr ⟨fun x hx => ?_, h⟩
      rcases List.mem_cons.mp hx with e | e
      · rw [e]; exact hab
      · exact ltT_tr _ _ _ hab (hb.1 x e)
theorem srtT_sorted : ∀ l, (srtT l).Pairwise LeT
  | [] => List.Pairwise.nil
  | a :: r => insT_sorted a _ (srtT_sorted r)
theorem sortedT_unique : ∀ {l m : List Tx}, l.Perm m → l.Pairwise LeT → m.Pairwise LeT → l = m
  | [], m, p, _, _ => p.nil_eq
  | a :: r, [], p, _, _ => by have := p.length_eq; simp at this
  | a :: r, b :: t, p, h1, h2 => by
    have e1 := List.pairwise_cons.mp h1
    have e2 := List.pairwise_cons.mp h2
    have ab : a = b := by
      have ha : a ∈ b :: t := p.mem_iff.mp (List.mem_cons_self ..)
      have hb : b ∈ a :: r := p.mem_iff.mpr (List.mem_cons_self ..)
      refine ltT_total _ _ ?_ ?_
      · rcases List.mem_cons.mp ha with z | z
        · rw [z]; exact ltT_refl _
        · exact e2.1 a z
      · rcases List.mem_cons.mp hb with z | z
        · rw [z]; exact ltT_refl _
        · exact e1.1 b z
    subst ab
    rw [sortedT_unique (List.Perm.cons_inv p) e1.2 e2.2]
theorem srtT_eq {l m : List Tx} (p : l.Perm m) (h : l.Pairwise LeT) : l = srtT m := sortedT_unique (p.trans (srtT_perm m).symm) h (srtT_sorted m)
theorem srtT_same {l m : List Tx} (p : l.Perm m) : srtT l = srtT m := srtT_eq ((srtT_perm l).trans p) (srtT_sorted l)
/-! sorted of texts -/
def sv (v : Value) : Tx := (strOf v).cps.toList
def ltSv (v u : Value) : Bool := ltT (sv v) (sv u)
theorem swo_str : SrtO.Swo ltSv := ⟨fun x y => ltT_asym _ _, fun x y z => ltT_tr _ _ _⟩
theorem strs_vals : ∀ {zs : List Str} {us : List Value}, Vals (zs.map V.str) us → StrsAre us zs
  | [], _, h => by cases h; exact .nil
  | z :: zs, _, h => by
    cases h with
    | cons r t =>
      obtain ⟨u, rfl⟩ := r
      exact .cons z u (strs_vals t)
theorem vals_strs : ∀ {us : List Value}, (∀ v ∈ us, ∃ x t, v = Value.str x t) → Vals ((us.map strOf).map V.str) us
  | [], _ => .nil
  | v :: us, h => by
    obtain ⟨x, t, rfl⟩ := h v (List.mem_cons_self ..)
    exact .cons ⟨t, rfl⟩ (vals_strs fun u hu => h u (List.mem_cons_of_mem _ hu))
section
variable {prog : Program} {w : World} {A : Around} {E : Value → Shared → Prop} {s : Shared}
theorem str_cmp {vs : List Value} {ns : List Str} (hI : StrsAre vs ns) : SrtO.Cmp prog w A s oneType' (fun p => p.1 ∈ vs) (SrtO.lt2 ltSv) := by
  intro p q hm hm'
  obtain ⟨a, t, e⟩ := hI.all _ hm
  obtain ⟨b, u, e'⟩ := hI.all _ hm'
  show wpAny (model prog w) A (keyLt' oneType' p.1 q.1) (fun r s' => s' = s ∧ r = ltSv p.1 q.1) (fun _ _ => False) s
  rw [e, e', keyLt'_oneType]
  exact oneLt_str ⟨rfl, rfl⟩
theorem strs_sortable {a : Addr} {vs : List Value} {ns : List Str} (hI : StrsAre vs ns) (h2 : 2 ≤ vs.length) : SrtO.SortableO prog w A s a vs ltSv := by
  intro h' _
  refine ⟨oneType', fun Q E hq => ?_, str_cmp hI⟩
  match vs, ns, hI, h2 with
  | v1 :: v2 :: rest, _, hI, _ =>
    rw [keyKind_strs hI]
    exact wpAny_pure hq
  | [], _, _, h => exact absurd h (by decide)
  | [v], _, _, h => exact absurd h (by simp)
end
def rSortS (K : PySem.W.Frag) : List V → Hp → VK → Prop := fun vs H Q => ∃ (a : Addr) (zs : List Tx), vs = [V.ref a] ∧ SqL K H a ((zs.map fun z => (⟨z.toArray⟩ : Str)).map V.str) ∧ ∀ p : Addr, H p = none → Q (.ref p) (upd H p (.lst (((srtT zs).map fun z => (⟨z.toArray⟩ : Str)).map V.str)))
section
variable {X : Cx} {R : RC} {W : WX} {pos pp : Pos} {e : Expr} {es : List Expr} {fs : MS → Out (List RV)}
theorem call_sortS (hc : X.calm = true) : CallR X (.builtin "sorted") (rSortS X.K) := by
  intro pins s σ H vs us Q I r h
  obtain ⟨a, zs, rfl, hs, q⟩ := h
  obtain ⟨its, rv, hl, hz⟩ := I.list hs
  rw [Vals.ref1 r]
  have hi := strs_vals rv
  refine SrtO.sorted_ord swo_str hl.isList (by rw [← rv.length]; exact hz) (fun h2 h₁ a' _ _ => strs_sortable hi h2) fun out h1 h2 => ?_
  have ho : ∀ v ∈ out, ∃ x t, v = Value.str x t := fun v hv => hi.all v (h2.perm.mem_iff.mp hv)
  have rvo := vals_strs ho
  have e : (out.map strOf) = (srtT zs).map fun z => (⟨z.toArray⟩ : Str) := by
    have e1 : (out.map strOf).map (fun x => x.cps.toList) = srtT zs := by
      rw [List.map_map]
      refine srtT_eq ?_ (List.pairwise_map.mpr h1)
      have := (h2.perm.map strOf).map (fun x : Str => x.cps.toList)
      rw [hi.strs, List.map_map, List.map_map] at this
      simpa [Function.comp_def] using this
    rw [← e1, List.map_map]
    simp [Function.comp_def]
  rw [e] at rvo
  obtain ⟨ep, he'⟩ := PyProof.Rows.sortedAll_at s.heap its out.toArray
  have hlen : (((srtT zs).map fun z => (⟨z.toArray⟩ : Str)).map V.str).length ≤ sizeLine := by
    rw [List.length_map, List.length_map, (srtT_perm zs).length_eq]
    simpa using hz
  exact ⟨.ref _, upd H (s.heap.objs.size + 1) (.lst _), I.laid (t' := s.toks) (fun _ _ => PyProof.Rows.sortedAll_old) (Nat.le_succ _) ⟨hlen, out, ep, rvo, he'⟩, rfl, q _ (I.hok.fresh (Nat.le_succ _))⟩
end
/-! in mini -/
def txsM : List MV → Option (List Tx)
  | [] => some []
  | .str z :: r => (txsM r).map (z :: ·)
  | _ :: _ => none
theorem txsM_V {K : PySem.W.Frag} {G : Gh} {H : Hp} : ∀ {xs : List MV} {vs : List V} {zs : List Tx}, VRs K G H xs vs → txsM xs = some zs → vs = (zs.map fun z => (⟨z.toArray⟩ : Str)).map V.str
  | [], _, zs, h, e => by unfold VRs at h; subst h; cases e; rfl
  | x :: xs, _, zs, h, e => by
    obtain ⟨v, r, rfl, h1, h2⟩ := h.inv
    cases x with
    | str z =>
      simp only [txsM, Option.map_eq_some_iff] at e
      obtain ⟨t, e, rfl⟩ := e
      rw [VR.str h1, txsM_V h2 e]; rfl
    | _ => cases e
theorem VRs_txs {K : PySem.W.Frag} {G : Gh} {H : Hp} : ∀ zs : List Tx, VRs K G H (zs.map MV.str) ((zs.map fun z => (⟨z.toArray⟩ : Str)).map V.str)
  | [] => VRs.nil (K := K) (G := G) (H := H)
  | z :: zs => VRs.cons (VR.mkStr' (K := K) (G := G) (H := H) rfl) (VRs_txs zs)
def pSortS (rs : List RV) (s : MS) : Out RV := match rs with
  | [r] => match (lstOf s r).bind txsM with
    | some zs => .ok (.own (.lst ((srtT zs).map .str))) s
    | none => .bad
  | _ => .bad
section
variable {X : Cx} {R : RC} {W : WX} {pos pp : Pos} {e : Expr} {es : List Expr} {fs : MS → Out (List RV)}
theorem pr_sortS : PrimC R (rSortS R.K) pSortS := fun {F W σ G H G2 H2 s2 rs vs Q} w rr o => by
  unfold pSortS at o
  split at o
  · obtain ⟨v, t, rfl, r1, rfl⟩ := rr
    split at o
    · rename_i zs e
      simp only [Option.bind_eq_some_iff] at e
      obtain ⟨xs, e1, e2⟩ := e
      obtain ⟨a, ws, rfl, sq, h⟩ := lst_ok w.rel r1 e1
      rw [txsM_V h e2] at sq
      exact ⟨a, zs, rfl, sq, fun p hp => newLst w (VRs_txs _) o p hp⟩
    · exact o.elim
  · exact o.elim
theorem je_sortedS (ha : JA X R W (e :: es) fs) (he : starEach (e :: es) X.env = (false, eval e X.env) :: starEach es X.env := by rfl) (hpl : (backTo pos (starEach es X.env)).any (·.1) = false := by rfl) (hm : X.mg "sorted" = none) (hg : Gl X "sorted" := by rfl) (hc : X.calm = true := by rfl) :
    JE X R W (.Call (.Name "sorted" pp) (e :: es) [] pos) (mCallB pSortS fs) := je_callB (call_sortS hc) (fun h => h ▸ pr_sortS) hm boot_sorted ha hg (he := he) (hpl := hpl)
theorem jt_gt2 {a b : Expr} {fa fb : ME} (ha : JE X R W a fa) (hb : JE X R W b fb) (hm : behindInMarks .Gt b = false := by rfl) : JT X R W (.Compare a [.Gt] [b] pos) (mTestB (mBin opGt2 fa fb)) := jt_cmp op_gt2 (fun _ => pr_gt2) ha hb hm
end
end Mi
set_option Elab.async false
set_option linter.all false
set_option maxRecDepth 100000
set_option maxHeartbeats 4000000
namespace Mi
open PySem PySem.Spec PyProof.Rows L2
section
variable {X : Cx} {R : RC} {W : WX} {pos apos q : Pos} {o e a : Expr} {es : List Expr} {fo fa : ME} {m : Str} {f : Addr} {fd : FuncData} {ps : List Str} {n k : Nat} {run : Fn} {pl : Sem Bool}
/-! o.m(x, ..), the last parameter being a default -/
def mMethDA (c : Nat) (run : Fn) (n : Nat) (fo : ME) (fa : MS → Out (List MV)) (dm : List MV) : ME := fun s => (fo s).bind fun r s1 => match r with
  | .v (.ref q) => match s1.hp[q]? with
    | some (.inst c' _) => if c' = c then (fa s1).bind fun xs s2 => if (xs ++ dm).length + 1 = n then mRun run (.ref q :: (xs ++ dm)) s2 else .bad else .bad
    | _ => .bad
  | _ => .bad
theorem je_methDA {fa : MS → Out (List MV)} (c : Nat) {dm : List MV} {dvs : List V} (hc : Cls X.K (R.cls c)) (hm : Meth X.K (R.cls c) m f) (Fo : FnOk X.prog X.w X.K X.mg X.base (L2.CX X.prog X.w) k f fd ps (spF R n run)) (tk : Takes X W) (hr : Room k X.A) (hb : ∃ ds, Vals dvs ds ∧ Binds X.K fd ps ds) (hv : ∀ G H, VRs R.K G H dm dvs)
    (ho : JE X R W o fo) (ha : JAs X R W (e :: es) fa) (hnm : m ∉ R.flds c := by decide) (hst : starEach (e :: es) X.env = (false, eval e X.env) :: starEach es X.env := by rfl) (hpl : (backTo pos (starEach es X.env)).any (·.1) = false := by rfl)
    (ht : eval (.Call (.Attribute o m apos) (e :: es) [] pos) X.env = (do
      let ov ← eval o X.env
      standAt apos.atName
      let (f, first) ← holding [ov] (getMethod ov m pl)
      callWith pos f first (backTo pos (starEach (e :: es) X.env)) (backToKw pos (keywordEach [] X.env))) := by rfl) : JE X R W (.Call (.Attribute o m apos) (e :: es) [] pos) (mMethDA c run n fo fa dm) := fun hK F => by
  obtain ⟨ds, hd, hb⟩ := hb
  refine ⟨fun pins s σ H Q I h => ?_⟩
  refine PySem.W.methodCall_KW (pl := pl) (thn ((ho hK F).run pins s σ H _ I (first (M := rlE) h)) fun u s1 ⟨x, H1, I1, rx, G, r, m1, G1, w, rr, o⟩ => ?_) ht
  have rr : RR R σ H G1 H1 r x := rr
  split at o
  · rename_i q rr0
    split at o
    · rename_i c' fs hn
      split at o
      · rename_i ec
        subst ec
        obtain ⟨a, dx, hfs, rfl, ga, ha1, _, _, hno, _⟩ := obj_at w.rel rr hn
        obtain rfl : u = Value.ref a := rx
        refine getmeth_ok I1 ha1 hc hm (hno m hnm) ?_
        refine PySem.W.callWith_K (first := [.ref a]) (h₀ := X.base) I.ok.mod.kin hm.kp (thn ((ha hK F).run pos pins s1 σ H1 _ I1 (next (M := rlS) w o)) fun us s2 ⟨vs, H2, I2, r2, xs, m2, G2, w2, e12, rr2, o2⟩ => ⟨I2.kIn, ?_⟩) hst hpl
        have rr2 : VRs R.K G2 H2 xs vs := rr2
        split at o2
        · rename_i hl
          have vr : VR R.K G2 H2 (.ref q) (.ref a) := VR.mono e12.mo _ _ (show VR R.K G1 H1 (.ref q) (.ref a) from rr)
          have sp := run_sp (xs := .ref q :: (xs ++ dm)) (n := n) w2 (VRs.cons vr (rr2.append (hv _ _))) (by simpa using hl) o2
          exact run_dflt (us := .ref a :: us) (vs := .ref a :: vs) (E := WE W) Fo hr hb hd (passAt tk σ) I2 (.cons rfl r2) sp
        · exact o2.elim
      · exact o.elim
    · exact o.elim
  · exact o.elim
end
section
variable {X : Cx} {R : RC} {W : WX} {pos : Pos} {a : Expr} {fa : ME}
/-! list(range(n)) -/
noncomputable def mListRg1 (fa : ME) : ME := fun s => (fa s).bind fun r1 s1 => match r1 with
  | .v (.int a) => if RgOk 0 a then .ok (.own (.lst ((List.range a.toNat).map fun i : Nat => .int i))) s1 else .bad
  | _ => .bad
theorem je_listRg1 {p p2 q : Pos} (hm : X.mg "list" = none) (hm2 : X.mg "range" = none) (ha : JE X R W a fa) (hg : Gl X "list" := by rfl) (hg2 : Gl X "range" := by rfl) (hc : X.calm = true := by rfl)
    (na : starEach [a] X.env = (false, eval a X.env) :: starEach [] X.env := by rfl) (nc : starEach [.Call (.Name "range" p2) [a] [] q] X.env = (false, eval (.Call (.Name "range" p2) [a] [] q) X.env) :: starEach [] X.env := by rfl) :
    JE X R W (.Call (.Name "list" p) [.Call (.Name "range" p2) [a] [] q] [] pos) (mListRg1 fa) := fun hK F =>
  PE.imp (pe_listRg hc hg hm (prg_1 hg2 hm2 (ha hK F) na) nc) fun σ H Q h => by
    refine (first (M := rlE) h).mono fun x H1 ⟨G, r1, s1, G1, w, rr, o⟩ => ?_
    have rr : RR R σ H G1 H1 r1 x := rr
    split at o
    · split at o
      · rename_i rr0 n _ hz
        cases RR.int rr
        have e : ((List.range n.toNat).map fun i : Nat => MV.int i) = (List.range (n - 0).toNat).map fun i : Nat => MV.int (0 + i) := by
          rw [Int.sub_zero]
          exact List.map_congr_left fun i _ => by rw [Int.zero_add]
        rw [e] at o
        exact ⟨_, rfl, hz, newLst w (VRs_range _ _) o⟩
      · exact o.elim
    · exact o.elim
end
end Mi
set_option Elab.async false
set_option linter.all false
set_option maxRecDepth 100000
set_option maxHeartbeats 4000000
namespace Mi
open PySem PySem.Spec PyProof.Rows L2
/-! dict(NAME): a copy of a global dict from texts to numbers -/
def LitD (P : Params) : List DictEntry → List (Str × Int) → Prop
  | [], [] => True
  | e :: es, q :: qs => (∃ t t', e.key = .str q.1 t ∧ e.hash = PyData.keyHash P q.1 ∧ e.val = .int q.2 t') ∧ LitD P es qs
  | _, _ => False
def GDict (K : PySem.W.Frag) (P : Params) (mg : Str → Option Value) (x : Str) (qs : List (Str × Int)) : Prop :=
  ∃ a es n, mg x = some (.ref a) ∧ K.lookup a = some ⟨.type "dict", none, .dict es n, #[]⟩ ∧ (a == sysModules) = false ∧ LitD P es.toList qs ∧ (qs.map (·.1)).Nodup ∧ qs.length ≤ 1000
theorem litD_pairs {prog : Program} {w : World} : ∀ {es : List DictEntry} {qs : List (Str × Int)}, LitD w.params es qs →
    (∀ e ∈ es, ∃ k, (mixKind prog w).is k e.key = true ∧ e.hash = (mixKind prog w).hash k) ∧ ∃ vs : List (Key × Value), KV (qs.map fun q => (Sum.inr q.1, V.int q.2)) vs ∧ Pairs (mixKind prog w) es vs ∧ vs.map (·.1) = qs.map fun q => (Sum.inr q.1 : Key)
  | [], [], _ => ⟨fun _ h => absurd h (by simp), [], .nil, .nil, rfl⟩
  | [], _ :: _, h => h.elim
  | _ :: _, [], h => h.elim
  | e :: es, q :: qs, ⟨⟨t, t', h1, h2, h3⟩, hr⟩ => by
    obtain ⟨k1, vs, k2, k3, k4⟩ := litD_pairs (prog := prog) hr
    refine ⟨fun e' he => ?_, (Sum.inr q.1, .int q.2 t') :: vs, .cons ⟨rfl, ⟨t', rfl⟩⟩ k2, .cons (by rw [h1]; exact mixKind_str prog w q.1 t) h3 k3, by simp [k4]⟩
    rcases List.mem_cons.mp he with rfl | he
    · exact ⟨.inr q.1, by rw [h1]; exact mixKind_str prog w q.1 t, h2⟩
    · exact k1 e' he
theorem nodup_inr {qs : List (Str × Int)} (h : (qs.map (·.1)).Nodup) : (qs.map fun q => (Sum.inr q.1 : Key)).Nodup := by
  have : (qs.map fun q => (Sum.inr q.1 : Key)) = (qs.map (·.1)).map Sum.inr := by rw [List.map_map]; rfl
  rw [this]
  exact List.Pairwise.map _ (fun a b z q => z (Sum.inr.inj q)) h
section
variable {X : Cx} {R : RC} {W : WX} {pos : Pos}
theorem call_dictG {a : Addr} {es : Array DictEntry} {n : Nat} {qs : List (Str × Int)} (hl : X.K.lookup a = some ⟨.type "dict", none, .dict es n, #[]⟩) (lo : (a == sysModules) = false) (li : LitD X.w.params es.toList qs) (nd : (qs.map (·.1)).Nodup) (hz : qs.length ≤ 1000) :
    CallR X (.type "dict") (fun xs H Q => xs = [.ref a] ∧ ∀ p, H p = none → Q (.ref p) (upd H p (.dK (qs.map fun q => (Sum.inr q.1, V.int q.2))))) := by
  intro pins s σ H xs us Q I r q
  obtain ⟨ex, q⟩ := q
  subst ex
  obtain ⟨u, eu, rx⟩ := vals1 r
  subst eu
  cases rx
  obtain ⟨k1, vs, rel, k3, k4⟩ := litD_pairs (prog := X.prog) li
  have z : (qs.map fun q => (Sum.inr q.1, V.int q.2) : List (Key × V)).length ≤ sizeLine := by rw [List.length_map, sizeLine_eq]; omega
  have dd : s.heap.DictOf (mixKind X.prog X.w) a vs := ⟨_, es, n, I.kIn _ _ hl, ⟨rfl, rfl, rfl⟩, rfl, fun e he => k1 e (Array.mem_toList_iff.mpr he), k3, by rw [k4]; exact nodup_inr nd⟩
  refine kt_call_dict lo dd (by rw [← rel.length]; exact z) fun h' d' hs => ?_
  have hm : (s.heap.objs.size == sysModules) = false := beq_eq_false_iff_ne.mpr (Nat.ne_of_gt I.big)
  exact ⟨.ref s.heap.objs.size, upd H s.heap.objs.size (.dK _), I.laid (t' := s.toks) (fun b u e => (hs.2 b (Nat.ne_of_lt (Heap.lt_size e))).trans (Heap.get?_push_of_some _ e)) (Nat.le_refl _)
    (show ObjOk X.prog X.w _ _ _ (.dK _) from ⟨z, hm, vs, rel, d'⟩), rfl, q _ (I.hok.fresh (Nat.le_refl _))⟩
def gdM (qs : List (Str × Int)) : List (MV × MV) := qs.map fun q => (MV.str q.1.cps.toList, MV.int q.2)
def mDictG (qs : List (Str × Int)) : ME := fun s => .ok (.own (.dict (gdM qs))) s
theorem dd_lit {K : PySem.W.Frag} {G : Gh} {H : Hp} : ∀ qs : List (Str × Int), DD K G H (gdM qs) (qs.map fun q => (Sum.inr q.1, V.int q.2))
  | [] => ⟨rfl, VRs.nil (K := K) (G := G) (H := H)⟩
  | q :: qs => DD.cons (j := Sum.inr q.1) rfl (VR.mkInt (K := K) (G := G) (H := H)) (dd_lit qs)
theorem je_dictG {x : Str} {qs : List (Str × Int)} {pp px : Pos} (hd : GDict X.K X.w.params X.mg x qs) (hm : X.mg "dict" = none) (hg : Gl X "dict" := by rfl) (hgx : Gl X x := by rfl) (hdb : (x == ("__debug__" : Str)) = false := by decide)
    (he : starEach [Expr.Name x px] X.env = (false, eval (.Name x px) X.env) :: starEach [] X.env := by rfl) (hpl : (backTo pos (starEach [] X.env)).any (·.1) = false := by rfl) :
    JE X R W (.Call (.Name "dict" pp) [.Name x px] [] pos) (mDictG qs) := fun hK F => by
  obtain ⟨a, es, n, h1, h2, h3, h4, h5, h6⟩ := hd
  refine PE.imp (pe_callTy (call_dictG h2 h3 h4 h5 h6) hg hm boot_dict' (pa_cons (pe_glob hgx h1 (v := .ref a) rfl hdb) pa_nil) (he := he) (hpl := hpl)) fun σ H Q ⟨G, s, rel, h⟩ => ?_
  exact ⟨rfl, newDict (G := G) ⟨rel, .refl, rel.since⟩ (dd_lit qs) h⟩
/-! a global tuple of texts -/
def LitT : List Value → List (List Nat) → Prop
  | [], [] => True
  | v :: vs, z :: zs => (∃ x t, v = .str x t ∧ x.cps.toList = z) ∧ LitT vs zs
  | _, _ => False
theorem litT_vals : ∀ {vs : List Value} {zs : List (List Nat)}, LitT vs zs → Vals (zs.map fun z => V.str ⟨z.toArray⟩) vs
  | [], [], _ => .nil
  | [], _ :: _, h => h.elim
  | _ :: _, [], h => h.elim
  | v :: vs, z :: zs, ⟨⟨x, t, h1, h2⟩, hr⟩ => by
    refine .cons ?_ (litT_vals hr)
    have : (⟨z.toArray⟩ : Str) = x := by rw [← h2]
    show L2.RelV (V.str ⟨z.toArray⟩) v
    rw [this, h1]
    exact ⟨t, rfl⟩
theorem gtup_mk {K : PySem.W.Frag} {mg : Str → Option Value} {x : Str} {a : Addr} {od : Option Addr} {its : Array Value} {n : Nat} {sl : Array (Option Value)} {zs : List (List Nat)} (h1 : mg x = some (.ref a)) (h2 : K.lookup a = some ⟨.type "tuple", od, .seq its n, sl⟩) (h3 : LitT its.toList zs) (h4 : zs.length ≤ 1000) : GTupS K mg x zs := by
  have v := litT_vals h3
  refine ⟨a, h1, _, its, n, h2, rfl, rfl, ?_, v⟩
  have e := v.length
  rw [List.length_map] at e
  rw [← Array.length_toList, ← e, sizeLine_eq]
  omega
end
end Mi
set_option Elab.async false
set_option linter.all false
set_option maxRecDepth 100000
set_option maxHeartbeats 4000000
namespace Mi
open PySem PySem.Spec PyProof.Rows L2
/-! repr of any data -/
def rReprA (K : PySem.W.Frag) : List V → Hp → VK → Prop := fun xs H Q => ∃ v d, xs = [v] ∧ Dp K H v d ∧ shOk d ∧ Q (.str d.shown) H
section
variable {X : Cx} {R : RC} {W : WX} {pos pp : Pos} {k : Nat} {e : Expr} {es : List Expr} {fs : MS → Out (List RV)}
theorem call_repr_a (hr : Room k X.A) : CallR X (.builtin "repr") (rReprA X.K) := by
  intro pins s σ H xs us Q I r h
  obtain ⟨v, d, rfl, hd, hs, q⟩ := h
  obtain ⟨u, rfl, ru⟩ := vals1 r
  cases hd with
  | non =>
    obtain rfl : u = Value.none := ru
    refine PySem.P.repr_of_none ⟨.str _, H, I.tok _, ⟨_, rfl⟩, ?_⟩
    simpa [PyData.shown] using q
  | bl b =>
    obtain rfl : u = Value.bool b := ru
    refine PySem.P.repr_of_bool ⟨.str _, H, I.tok _, ⟨_, rfl⟩, ?_⟩
    simpa [PyData.shown] using q
  | int i =>
    obtain ⟨t, rfl⟩ := ru
    refine PySem.P.repr_of_int (by simpa [PyData.showable] using hs.1) ⟨.str _, H, I.tok _, ⟨_, rfl⟩, ?_⟩
    simpa [PyData.shown] using q
  | str x =>
    obtain ⟨t, rfl⟩ := ru
    refine PySem.P.repr_of_str ⟨.str _, H, I.tok _, ⟨_, rfl⟩, ?_⟩ (by simpa [PyData.shown] using hs.2.2.2)
    simpa [PyData.shown] using q
  | lst h1 h2 =>
    exact call_repr_d hr pins s σ H _ _ Q I (.cons ru .nil) (.inr ⟨_, _, rfl, .lst h1 h2, hs, q⟩)
  | tup h1 h2 =>
    exact call_repr_d hr pins s σ H _ _ Q I (.cons ru .nil) (.inr ⟨_, _, rfl, .tup h1 h2, hs, q⟩)
open Classical in
noncomputable def pReprA (rs : List RV) (s : MS) : Out RV := match rs with
  | [r] => match rpd s r with
    | some d => if shOk d then .ok (.v (.str d.shown.cps.toList)) s else .bad
    | none => .bad
  | _ => .bad
theorem pr_reprA : PrimC R (rReprA R.K) pReprA := fun {F W σ G H G2 H2 s2 rs vs Q} w rr o => by
  unfold pReprA at o
  split at o
  · rename_i r
    obtain ⟨v, t, rfl, r1, rfl⟩ := rr
    split at o
    · rename_i d e
      split at o
      · rename_i hs
        exact ⟨v, d, rfl, rpd_ok w.rel r1 e, hs, finS w o (by simp)⟩
      · exact o.elim
    · exact o.elim
  · exact o.elim
theorem je_reprA (hr : Room k X.A) (ha : JA X R W (e :: es) fs) (he : starEach (e :: es) X.env = (false, eval e X.env) :: starEach es X.env := by rfl) (hpl : (backTo pos (starEach es X.env)).any (·.1) = false := by rfl) (hm : X.mg "repr" = none) (hg : Gl X "repr" := by rfl) :
    JE X R W (.Call (.Name "repr" pp) (e :: es) [] pos) (mCallB pReprA fs) := fun hK => by
  have := je_callB (R := R) (W := W) (call_repr_a hr) (fun hK => by rw [← hK]; exact pr_reprA) hm boot_repr ha hg (pp := pp) (he := he) (hpl := hpl)
  exact this hK
end
end Mi
set_option Elab.async false
set_option linter.all false
set_option maxRecDepth 100000
set_option maxHeartbeats 4000000
namespace Mi
open PySem PySem.Spec PyProof.Rows L2
/-! repr of a dict of tuples of scalars -/
def scalD : PyData → Bool
  | .none | .bool _ | .int _ | .str _ => true
  | _ => false
def flatD : PyData → Bool
  | .tuple ds => ds.all scalD
  | d => scalD d
def keyD : Key → PyData
  | .inl i => .int i
  | .inr x => .str x
theorem scal_as {h : Heap} {u : Value} {d : PyData} {as : List Addr} (r : Reads h u d as) (hd : scalD d = true) : as = [] := by
  cases r <;> first | rfl | (cases hd)
theorem scals_as {h : Heap} : ∀ {us : List Value} {ds : List PyData} {as : List Addr}, ReadsAll h us ds as → ds.all scalD = true → as = []
  | _, _, _, .nil, _ => rfl
  | _, _, _, .cons r t, hd => by
    rw [List.all_cons, Bool.and_eq_true] at hd
    rw [scal_as r hd.1, scals_as t hd.2]; rfl
theorem flat_as {h : Heap} {u : Value} {d : PyData} {as : List Addr} (r : Reads h u d as) (hd : flatD d = true) : as = [] := by
  cases r with
  | tuple h1 h2 h3 t => exact scals_as t hd
  | none => rfl
  | bool => rfl
  | int => rfl
  | str => rfl
  | list => cases hd
  | dict => cases hd
theorem flats_as {h : Heap} : ∀ {us : List Value} {ds : List PyData} {as : List Addr}, ReadsAll h us ds as → ds.all flatD = true → as = []
  | _, _, _, .nil, _ => rfl
  | _, _, _, .cons r t, hd => by
    rw [List.all_cons, Bool.and_eq_true] at hd
    rw [flat_as r hd.1, flats_as t hd.2]; rfl
def shOkK (d : PyData) : Prop := d.showable = true ∧ d.depth ≤ 64 ∧ d.shown.length ≤ sizeLine
def rReprK (K : PySem.W.Frag) : List V → Hp → VK → Prop := fun xs H Q => ∃ (a : Addr) (kvs : List (Key × V)) (ds : List PyData), xs = [.ref a] ∧ Rd H a (.dK kvs) ∧ DpAll K H (kvs.map (·.2)) ds ∧ ds.all flatD = true ∧ shOkK (.dict ((kvs.map fun q => keyD q.1).zip ds)) ∧
  Q (.str (PyData.dict ((kvs.map fun q => keyD q.1).zip ds)).shown) H
section
variable {P : Program} {w : World} {h : Heap}
theorem keys_read : ∀ {kvs : List (Key × V)} {vs : List (Key × Value)} {es : List DictEntry}, KV kvs vs → PySem.Pairs (mixKind P w) es vs → ReadsAll h (es.map (·.key)) (kvs.map fun q => keyD q.1) []
  | [], [], [], _, _ => .nil
  | (k1, v1) :: kvs, (k2, u2) :: vs, en :: es, .cons ⟨e, _⟩ t, .cons hk _ p => by
    have e : k1 = k2 := e
    have r : Reads h en.key (keyD k1) [] := by
      rcases keyIs_shape (show keyIs k2 en.key = true from hk) with ⟨i, t, e1, e2⟩ | ⟨x, t, e1, e2⟩
      · rw [e2, e, e1]; exact Reads.int i t
      · rw [e2, e, e1]; exact Reads.str x t
    exact .cons (as := []) (bs := []) r (keys_read t p)
theorem vals_read : ∀ {kvs : List (Key × V)} {vs : List (Key × Value)} {es : List DictEntry}, KV kvs vs → PySem.Pairs (mixKind P w) es vs → Vals (kvs.map (·.2)) (es.map (·.val))
  | [], [], [], _, _ => .nil
  | (k1, v1) :: kvs, (k2, u2) :: vs, en :: es, .cons ⟨_, r⟩ t, .cons _ hv p => by
    refine .cons ?_ (vals_read t p)
    show RelV v1 en.val
    rw [hv]; exact r
end
section
variable {X : Cx} {R : RC} {W : WX} {pos pp : Pos} {k : Nat} {e : Expr} {es : List Expr} {fs : MS → Out (List RV)}
theorem dpAll_len {K : PySem.W.Frag} {H : Hp} : ∀ {vs : List V} {ds : List PyData}, DpAll K H vs ds → vs.length = ds.length
  | _, _, .nil => rfl
  | _, _, .cons _ t => by simp [dpAll_len t]
theorem call_repr_k (hr : Room k X.A) : CallR X (.builtin "repr") (rReprK X.K) := by
  intro pins s σ H xs us Q I r h
  obtain ⟨a, kvs, ds, rfl, rd, hd, hf, ⟨h1, h2, h3⟩, q⟩ := h
  obtain ⟨u, rfl, ru⟩ := vals1 r
  obtain rfl : u = Value.ref a := ru
  obtain ⟨_, hs, vs, kv, o, es, ep, ho, hx, hdat, _, pr, _⟩ := rd.ok I.hok
  obtain ⟨bs, rv⟩ := Dp.readsAll I ds _ _ hd (vals_read kv pr)
  have hl : (kvs.map fun q => keyD q.1).length = ds.length := by rw [List.length_map, ← dpAll_len hd, List.length_map]
  have rr : Reads s.heap (.ref a) (.dict ((kvs.map fun q => keyD q.1).zip ds)) (a :: [] ++ bs) := by
    refine Reads.dict ho hx.1 hdat ?_ ?_
    · rw [List.map_fst_zip (by omega)]; exact keys_read kv pr
    · rw [List.map_snd_zip (by omega)]; exact rv
  have hb := flats_as rv hf
  subst hb
  have ns : sysModules ∉ (a :: [] ++ ([] : List Addr)) := fun z => by
    simp at z
    rw [z] at hs
    simp at hs
  exact repr_of_reads' rr h1 (fun _ => ns) hr.gd (by have := hr.un; omega) (fun b o z => z) (fun h' u tk kp => ⟨.str _, H, I.kept (h' := h') (t' := tk) fun b o z => kp b o z, ⟨u, rfl⟩, q⟩) h3
def keyDM : MV → PyData
  | .int i => .int i
  | .str z => .str ⟨z.toArray⟩
  | _ => .none
theorem keyD_mv (k : Key) : keyDM (keyMV k) = keyD k := by
  cases k with
  | inl i => rfl
  | inr x => simp [keyMV, keyDM, keyD]
def kvD (kvs : List (MV × MV)) (ds : List PyData) : PyData := .dict ((kvs.map fun p => keyDM p.1).zip ds)
open Classical in
noncomputable def pReprK (rs : List RV) (s : MS) : Out RV := match rs with
  | [r] => match dictOf s r with
    | some kvs => match pds (kvs.map (·.2)) with
      | some ds => if ds.all flatD = true ∧ shOkK (kvD kvs ds) then .ok (.v (.str (kvD kvs ds).shown.cps.toList)) s else .bad
      | none => .bad
    | none => .bad
  | _ => .bad
theorem pr_reprK : PrimC R (rReprK R.K) pReprK := fun {F W σ G H G2 H2 s2 rs vs Q} w rr o => by
  unfold pReprK at o
  split at o
  · rename_i r
    obtain ⟨v, t, rfl, r1, rfl⟩ := rr
    split at o
    · rename_i kvs hk
      obtain ⟨a, dk, rfl, ha, d1, d2⟩ := dict_ok w.rel r1 hk
      split at o
      · rename_i ds hds
        split at o
        · rename_i hs
          have e : kvD kvs ds = .dict ((dk.map fun q => keyD q.1).zip ds) := by
            unfold kvD
            congr 2
            have := congrArg (List.map keyDM) d1
            rw [List.map_map, List.map_map] at this
            refine this.trans (List.map_congr_left fun q _ => keyD_mv q.1)
          rw [e] at hs o
          exact ⟨a, dk, ds, rfl, ha, pds_ok _ _ _ d2 hds, hs.1, hs.2, finS w o (by simp)⟩
        · exact o.elim
      · exact o.elim
    · exact o.elim
  · exact o.elim
theorem je_reprK (hr : Room k X.A) (ha : JA X R W (e :: es) fs) (he : starEach (e :: es) X.env = (false, eval e X.env) :: starEach es X.env := by rfl) (hpl : (backTo pos (starEach es X.env)).any (·.1) = false := by rfl) (hm : X.mg "repr" = none) (hg : Gl X "repr" := by rfl) :
    JE X R W (.Call (.Name "repr" pp) (e :: es) [] pos) (mCallB pReprK fs) := fun hK => by
  have := je_callB (R := R) (W := W) (call_repr_k hr) (fun hK => by rw [← hK]; exact pr_reprK) hm boot_repr ha hg (pp := pp) (he := he) (hpl := hpl)
  exact this hK
/-! list.pop(i) -/
def lPopAt (r : RV) (rs : List MV) (s : MS) : Out RV := match rs, place s r with
  | [.int i], some (.lst xs) => if -(2 ^ 63) ≤ i ∧ i < 2 ^ 63 then (match seqIndex? i xs.length with
    | some k => (match xs[k]? with
      | some x => .ok (.v x) (putC s r (.lst (xs.eraseIdx k)))
      | none => .bad)
    | none => .bad) else .bad
  | _, _ => .bad
theorem VRs.eraseIdx {K : PySem.W.Frag} {G : Gh} {H : Hp} : ∀ {xs : List MV} {vs : List V} (i : Nat), VRs K G H xs vs → VRs K G H (xs.eraseIdx i) (vs.eraseIdx i)
  | [], _, _, h => by unfold VRs at h; subst h; simp [VRs.nil (K := K) (G := G) (H := H)]
  | x :: xs, _, 0, h => by
    obtain ⟨v, r, rfl, p, q⟩ := h.inv
    simpa using q
  | x :: xs, _, i + 1, h => by
    obtain ⟨v, r, rfl, p, q⟩ := h.inv
    simpa using VRs.cons p (VRs.eraseIdx i q)
theorem pr_popAt : PrimL R rPopAt lPopAt := fun {F W σ G H G2 H2 s2 r0 rs v vs Q} w rr rs o => by
  unfold lPopAt at o
  split at o
  · rename_i i xs hp
    obtain ⟨u, t, rfl, p1, p2⟩ := rs.inv
    unfold VRs at p2; subst p2
    cases VR.int p1
    split at o
    · rename_i hi
      split at o
      · rename_i k hk
        split at o
        · rename_i x hx
          obtain ⟨a, vs, rfl, ha, hv, kk⟩ := put_lst w rr hp o
          obtain ⟨u, hu, p⟩ := hv.get hx
          exact ⟨a, vs, i, k, u, rfl, rfl, ha, hi.1, hi.2, by rw [← hv.length]; exact hk, hu, kk _ _ (VRs.eraseIdx k hv) p⟩
        · exact o.elim
      · exact o.elim
    · exact o.elim
  · exact o.elim
theorem je_popAt {o e : Expr} {apos cpos : Pos} {fo : ME} {fa : MS → Out (List MV)} (ho : JE X R W o fo) (ha : JAs X R W [e] fa) (hbase : attributeBase o "pop" X.env (eval o X.env) = eval o X.env := by rfl)
    (hfew : ((backTo cpos (starEach [e] X.env)).all (fun x => !x.1) && (backToKw cpos (keywordEach [] X.env)).all (fun x => x.1.isSome) && decide ([e].length + ([] : List Keyword).length + (if ([] : List Keyword).isEmpty then 0 else 1) < 30)) = true := by rfl)
    (hline : (apos.endLine == cpos.line) = true := by rfl) (hs : starEach [e] X.env = (false, eval e X.env) :: starEach [] X.env := by rfl) : JE X R W (.Call (.Attribute o "pop" apos) [e] [] cpos) (mLM lPopAt fo fa) :=
  je_lm PySem.F.slot_list_pop PySem.F.type_list_pop mt_popAt (fun _ => pr_popAt) ho ha hbase hfew hline hs
end
theorem strs_each : ∀ {vs : List Value} {ns : List Str}, vs.length = ns.length → (∀ (j : Nat) (v : Value), vs[j]? = some v → ∃ y t, ns[j]? = some y ∧ v = .str y t) → StrsAre vs ns
  | [], [], _, _ => .nil
  | v :: vs, n :: ns, hl, h => by
    obtain ⟨y, t, e1, e2⟩ := h 0 v rfl
    obtain rfl : n = y := by simpa using e1
    subst e2
    exact .cons n t (strs_each (by simpa using hl) fun j v e => h (j + 1) v (by simpa using e))
theorem call_sortedDS {X : Cx} (hcalm : X.calm = true) : CallR X (.builtin "sorted") (fun xs H Q => ∃ (a : Addr) (kvs : List (Key × V)) (ks : List Tx), xs = [.ref a] ∧ Rd H a (.dK kvs) ∧ kvs.map (·.1) = ks.map (fun z => (Sum.inr ⟨z.toArray⟩ : Key)) ∧
    ∀ p : Addr, H p = none → Q (.ref p) (upd H p (.lst (((srtT ks).map fun z => (⟨z.toArray⟩ : Str)).map V.str)))) := by
  intro pins s σ H xs us Q I r q
  obtain ⟨a, kvs, ks, ex, hd, hks, q⟩ := q
  subst ex
  obtain ⟨u, eu, rx⟩ := vals1 r
  subst eu
  cases rx
  obtain ⟨z, lo, vs, rel, dd⟩ := dk_rd I.hok hd
  obtain ⟨ep, hat⟩ := dd.dictAt
  have hkeys : vs.map (·.1) = ks.map (fun z => (Sum.inr ⟨z.toArray⟩ : Key)) := rel.keys.symm.trans hks
  have hl : vs.length = ks.length := by
    have e := congrArg List.length hkeys
    rw [List.length_map, List.length_map] at e
    exact e
  have h16 : vs.length ≤ sizeLine := by rw [← rel.length]; exact z
  refine Calls.call_function_entry PyProof.Rows.kind_sorted PyProof.Rows.plain_sorted PyProof.Rows.entry_sorted (PyProof.Rows.args_sorted1 _) ?_
  unfold Builtin.«sorted»
  refine wpAny_bind (m := checkCount "sorted" 1 1 _) (wpAny_pure ?_)
  refine wpAny_bind (PySem.W.kdu_collect (A := X.A.in1) (PySem.W.kdl_dict (knd := mixKind X.prog X.w) (kvs := vs) (ep := ep) lo) (I.ok.hd hcalm) hat h16 fun h' tk acc hk hacc => ?_)
  have hal : acc.toList.length = ks.length := by rw [Array.length_toList, hacc.1, hl]
  have hS : StrsAre acc.toList (ks.map fun z => (⟨z.toArray⟩ : Str)) := strs_each (by rw [hal, List.length_map]) fun j v e => by
    obtain ⟨k, x, e1, e2⟩ := hacc.2 j v (by rw [← Array.getElem?_toList]; exact e)
    have e3 : (vs.map (·.1))[j]? = some k := by rw [List.getElem?_map, e1]; rfl
    rw [hkeys, List.getElem?_map] at e3
    rw [List.getElem?_map]
    cases e4 : ks[j]? with
    | none => rw [e4] at e3; cases e3
    | some y =>
      rw [e4] at e3
      have e5 : (Sum.inr ⟨y.toArray⟩ : Key) = k := Option.some.inj e3
      subst e5
      rcases keyIs_shape (show keyIs (Sum.inr ⟨y.toArray⟩) v = true from e2) with ⟨i, t, ek, ev⟩ | ⟨z, t, ek, ev⟩
      · cases ek
      · cases ek
        exact ⟨_, t, rfl, ev⟩
  have I1 : Inv X pins σ H { s with heap := h', toks := tk } := I.kept hk
  have hzl : acc.toList.length ≤ sizeLine := by rw [hal, ← hl]; exact h16
  refine wpAny_bind (wpAny_newList ?_ hzl)
  have hoL : (h'.push (seqObj "list" acc.toList.toArray 0)).get? h'.objs.size = some (seqObj "list" acc.toList.toArray 0) := Heap.get?_push_size _ rfl
  show wpAny _ _ _ _ _ { s with heap := h'.push (seqObj "list" acc.toList.toArray 0), toks := tk }
  refine wpAny_bind (wpAny_holding (wpAny_call_entry PyProof.Rows.slot_list_sort ⟨_, hoL, rfl⟩ PyProof.Rows.entry_list_sort
    (SrtO.list_sort_ord (s := { s with heap := h'.push (seqObj "list" acc.toList.toArray 0), toks := tk }) swo_str hoL hzl (fun h2 => strs_sortable hS h2) fun out g1 g2 => ⟨_, rfl, ?_⟩) (PyProof.Rows.args_list_sort _)))
  have ho : ∀ v ∈ out, ∃ x t, v = Value.str x t := fun v hv => hS.all v (g2.perm.mem_iff.mp hv)
  have rvo := vals_strs ho
  have eo : (out.map strOf) = (srtT ks).map fun z => (⟨z.toArray⟩ : Str) := by
    have e1 : (out.map strOf).map (fun x => x.cps.toList) = srtT ks := by
      rw [List.map_map]
      refine srtT_eq ?_ (List.pairwise_map.mpr g1)
      have := (g2.perm.map strOf).map (fun x : Str => x.cps.toList)
      rw [hS.strs, List.map_map, List.map_map] at this
      simpa [Function.comp_def] using this
    rw [← e1, List.map_map]
    simp [Function.comp_def]
  rw [eo] at rvo
  obtain ⟨e', he'⟩ := PyProof.Rows.sortedHeap_at (vs := acc.toList) (out := out.toArray) hoL
  have hlen : (((srtT ks).map fun z => (⟨z.toArray⟩ : Str)).map V.str).length ≤ sizeLine := by
    rw [List.length_map, List.length_map, (srtT_perm ks).length_eq, ← hl]
    exact h16
  refine wpAny_pure ⟨_, rfl, .ref h'.objs.size, upd H h'.objs.size (.lst (((srtT ks).map fun z => (⟨z.toArray⟩ : Str)).map V.str)), I1.laid (t' := tk) (fun b u e => ?_) (Nat.le_refl _)
    (show ObjOk X.prog X.w _ _ _ (.lst (((srtT ks).map fun z => (⟨z.toArray⟩ : Str)).map V.str)) from ⟨hlen, out, e', rvo, he'⟩), rfl, q _ (I1.hok.fresh (Nat.le_refl _))⟩
  have hb : b < h'.objs.size := Heap.lt_size e
  rw [PyProof.Rows.sortedHeap_old (Nat.ne_of_lt hb) (by rw [size_push']; exact Nat.lt_succ_of_lt hb)]
  exact Heap.get?_push_of_some _ e
def pSortSD (rs : List RV) (s : MS) : Out RV := match rs with
  | [r] => match (dictOf s r).bind fun kvs => txsM (kvs.map (·.1)) with
    | some zs => .ok (.own (.lst ((srtT zs).map .str))) s
    | none => .bad
  | _ => .bad
theorem txs_keys : ∀ {dk : List (Key × V)} {zs : List Tx}, txsM (dk.map fun q => keyMV q.1) = some zs → dk.map (·.1) = zs.map fun z => (Sum.inr ⟨z.toArray⟩ : Key)
  | [], zs, e => by cases e; rfl
  | (k, v) :: dk, zs, e => by
    cases k with
    | inl i => cases e
    | inr x =>
      simp only [List.map_cons, keyMV, txsM, Option.map_eq_some_iff] at e
      obtain ⟨t, e1, rfl⟩ := e
      simp only [List.map_cons, txs_keys e1]
section
variable {X : Cx} {R : RC} {W : WX} {pos pp : Pos} {e : Expr} {es : List Expr} {fs : MS → Out (List RV)}
theorem pr_sortSD : PrimC R (fun xs H Q => ∃ (a : Addr) (kvs : List (Key × V)) (ks : List Tx), xs = [.ref a] ∧ Rd H a (.dK kvs) ∧ kvs.map (·.1) = ks.map (fun z => (Sum.inr ⟨z.toArray⟩ : Key)) ∧
    ∀ p : Addr, H p = none → Q (.ref p) (upd H p (.lst (((srtT ks).map fun z => (⟨z.toArray⟩ : Str)).map V.str)))) pSortSD := fun {F W σ G H G2 H2 s2 rs vs Q} w rr o => by
  unfold pSortSD at o
  split at o
  · obtain ⟨v, t, rfl, r1, rfl⟩ := rr
    split at o
    · rename_i zs e
      simp only [Option.bind_eq_some_iff] at e
      obtain ⟨kvs, e1, e2⟩ := e
      obtain ⟨a, dk, rfl, ha, dd⟩ := dict_ok w.rel r1 e1
      rw [dd.1] at e2
      exact ⟨a, dk, zs, rfl, ha, txs_keys e2, newLst w (VRs_txs _) o⟩
    · exact o.elim
  · exact o.elim
theorem je_sortedSD (ha : JA X R W (e :: es) fs) (he : starEach (e :: es) X.env = (false, eval e X.env) :: starEach es X.env := by rfl) (hpl : (backTo pos (starEach es X.env)).any (·.1) = false := by rfl) (hm : X.mg "sorted" = none) (hg : Gl X "sorted" := by rfl) (hc : X.calm = true := by rfl) :
    JE X R W (.Call (.Name "sorted" pp) (e :: es) [] pos) (mCallB pSortSD fs) := je_callB (call_sortedDS hc) (fun _ => pr_sortSD) hm boot_sorted ha hg (he := he) (hpl := hpl)
end
end Mi
set_option Elab.async false
set_option linter.all false
set_option maxRecDepth 100000
set_option maxHeartbeats 4000000
namespace Mi
open PySem PySem.Spec PyProof.Rows L2
/-! the law's own call -/
theorem room_top {k : Nat} (h : L2.Room k callerA) : Room k callerA := ⟨h, rfl⟩
section
variable {P : Program} {w : World} {K : PySem.W.Frag} {mg mb : Str → Option Value} {CX : CXT} {k : Nat} {fa a : Addr} {fd : FuncData} {x : Str} {sp : Sp} {t : Shared} {us : List Value} {ns : List Int}
/-- the base of a heap in which at most the list at a is told -/
theorem top_mod {T : Hp} (KX : K.In t.heap) (gns : t.heap.Ns mainGlobals mg) (bns : t.heap.Ns builtinsNs mb) (boot : ∀ x : Str, x ≠ "__name__" → mb x = bootBuiltins x) (lim : t.heap.NoLimit)
    (at_a : t.heap.get? a = some { cls := .type "list", data := .seq us.toArray }) (one : ∀ b, T b ≠ none → b = a) (free : T a ≠ none → K.lookup a = none) : K.In (hidT t.heap T) ∧ (hidT t.heap T).Ns mainGlobals mg ∧ Mod K mg (hidT t.heap T) := by
  have stays : ∀ {b : Addr} {o : Obj}, t.heap.get? b = some o → (∀ es ep, o.data = .dict es ep → True) → T b = none → (hidT t.heap T).get? b = some o := fun e _ n => hidT_get e n
  have dicts : ∀ {b : Addr} {o : Obj} {es : Array DictEntry} {ep : Nat}, t.heap.get? b = some o → o.data = .dict es ep → T b = none := by
    intro b o es ep e d
    by_cases q : T b = none
    · exact q
    · have := one b q
      subst this
      rw [at_a] at e
      cases e
      cases d
  have nsp : ∀ {b : Addr} {m : Str → Option Value}, t.heap.Ns b m → (hidT t.heap T).Ns b m := by
    rintro b m ⟨o, es, ep, e, d, r⟩
    exact ⟨o, es, ep, hidT_get e (dicts e d), d, r⟩
  have kin : K.In (hidT t.heap T) := by
    intro b o e
    refine hidT_get (KX b o e) ?_
    by_cases q : T b = none
    · exact q
    · have := one b q
      subst this
      rw [free q] at e
      cases e
  obtain ⟨mc, l1, l2⟩ := lim
  exact ⟨kin, nsp gns, kin, nsp gns, ⟨mb, nsp bns, boot⟩, mc, nsp l1, l2⟩
theorem top_run {T : Hp} (KX : K.In t.heap) (gns : t.heap.Ns mainGlobals mg) (bns : t.heap.Ns builtinsNs mb) (boot : ∀ x : Str, x ≠ "__name__" → mb x = bootBuiltins x) (lim : t.heap.NoLimit) (hg : t.gens = #[])
    (at_a : t.heap.get? a = some { cls := .type "list", data := .seq us.toArray }) (room : L2.Room k callerA) (F : ∀ base : Heap, K.In base → base.Ns mainGlobals mg → FnOk P w K mg base CX k fa fd [x] sp)
    (binds : ∀ (s : Shared) (u : Value), BindsTo s fd ⟨[u], []⟩ [(x, u)]) (says : Only T → SqL K T a (ns.map V.int) → sp [.ref a] T (fun v _ => v = .bl true) fun _ _ _ => False) (noX : ∀ e s', CX [] T t (fun _ _ _ => False) e s' → False)
    (only : Only T) (sq : SqL K T a (ns.map V.int)) (hok : HOk P w T t.heap) (one : ∀ b, T b ≠ none → b = a) (free : T a ≠ none → K.lookup a = none) :
    codeAny (model P w) callerA (.call (.ref fa) ⟨[.ref a], []⟩) (fun r s' => r = .ok (.ret (.bool true)) ∧ OldK t.heap s'.heap ∧ s'.os = t.os ∧ AllBare s'.gens) t := by
  obtain ⟨kin, gns', mod⟩ := top_mod KX gns bns boot lim at_a one free
  have start : Env0 P w K mg (hidT t.heap T) callerA [] t T := { frames := rfl, mod := mod, bs := fun b o e => of_hidT e, bsz := Nat.le_of_eq (hidT_size _ _), funs := trivial, frf := (fun b hb => by cases hb), hok := hok, bare := .of_eq hg }
  refine codeAny_mono ((F _ kin gns').run callerA [] t T ⟨[.ref a], []⟩ [.ref a] [.ref a] (fun v _ => v = .bl true) (fun _ _ _ => False) (room_top room) start (binds t _) (.cons rfl .nil) (says only sq)) ?_
  rintro (e | fl) s' h
  · exact (noX e s' h).elim
  · match fl, h with
    | .ret u, ⟨v, T', os, bare, un, hok', rv, q⟩ =>
      have q : v = .bl true := q
      subst q
      cases (show u = Value.bool true from rv)
      refine ⟨rfl, OldK.of_keep ?_, os, bare⟩
      intro b o e
      rcases only b with z | ⟨ob, xs, z⟩
      · exact un.keep b o e z (fun m => by cases m) (by simp)
      · have told := (hok b _ z).1
        rw [e] at told
        cases told
        exact (hok' b _ (un.frzs b _ _ z)).1
    | .next, h => exact h.elim
    | .brk, h => exact h.elim
    | .cont, h => exact h.elim
theorem top_call (KX : K.In t.heap) (gns : t.heap.Ns mainGlobals mg) (bns : t.heap.Ns builtinsNs mb) (boot : ∀ x : Str, x ≠ "__name__" → mb x = bootBuiltins x) (lim : t.heap.NoLimit) (hg : t.gens = #[])
    (at_a : t.heap.get? a = some { cls := .type "list", data := .seq us.toArray }) (nums : IntsAre us ns) (hl : ns.length ≤ sizeLine) (room : L2.Room k callerA) (F : ∀ base : Heap, K.In base → base.Ns mainGlobals mg → FnOk P w K mg base CX k fa fd [x] sp)
    (binds : ∀ (s : Shared) (u : Value), BindsTo s fd ⟨[u], []⟩ [(x, u)]) (says : ∀ T : Hp, Only T → SqL K T a (ns.map V.int) → sp [.ref a] T (fun v _ => v = .bl true) fun _ _ _ => False) (noX : ∀ T e s', CX [] T t (fun _ _ _ => False) e s' → False) :
    codeAny (model P w) callerA (.call (.ref fa) ⟨[.ref a], []⟩) (fun r s' => r = .ok (.ret (.bool true)) ∧ OldK t.heap s'.heap ∧ s'.os = t.os ∧ AllBare s'.gens) t := by
  have rv := vals_ints nums
  by_cases q : K.lookup a = none
  · -- the list is told, frozen
    let ob : HO := .frz { cls := .type "list", data := .seq us.toArray } (.lst (ns.map V.int))
    let T : Hp := fun b => if b = a then some ob else none
    have same : T a = some ob := if_pos rfl
    have other : ∀ b, b ≠ a → T b = none := fun b h => if_neg h
    refine top_run (T := T) KX gns bns boot lim hg at_a room F binds (says T) (noX T) ?_ (.inl (.inr ⟨_, same⟩)) ?_ ?_ fun _ => q
    · intro b
      by_cases hb : b = a
      · subst hb; exact .inr ⟨_, _, same⟩
      · exact .inl (other b hb)
    · intro b u z
      by_cases hb : b = a
      · subst hb
        rw [same] at z
        cases z
        exact ⟨at_a, by simpa using hl, us, _, rv, at_a⟩
      · rw [other b hb] at z; cases z
    · intro b z
      by_cases hb : b = a
      · exact hb
      · exact (z (other b hb)).elim
  · -- the list is one of the text's own
    obtain ⟨o, ho⟩ := Option.ne_none_iff_exists'.mp q
    have e := KX a o ho
    rw [at_a] at e
    cases e
    refine top_run (T := fun _ => none) KX gns bns boot lim hg at_a room F binds (says _) (noX _) (fun _ => .inl rfl) (.inr ⟨_, us.toArray, _, ho, rfl, rfl, rfl, ?_, by simpa using rv⟩) (fun b u z => ?_) (fun b z => (z rfl).elim) fun z => (z rfl).elim
    · rw [List.size_toArray, nums.length]; exact hl
    · cases z
end
/-- the head's goal, from the def of the law -/
theorem walk_top {l : PySem.W.OpenLaw} {n k : Nat} {q : Program} {loose : List Str} {XP : (Str → Option Value) → Heap → Prop} {YP : World → Heap → Prop} {d : DefRec} {K : Params → PySem.W.Frag} {CX : World → CXT} {sp : World → Sp} {x : Str}
    (hn : l.most = some n) (hn2 : n ≤ sizeLine) (hdf : d.params.defaults = []) (room : L2.Room k callerA) (hY : ∀ (w : World) (h : Heap), YP w h → (K w.params).In h)
    (F : ∀ (w : World) (mg : Str → Option Value) (fa : Addr) (h : Heap), (K w.params).In h → h.Ns mainGlobals mg → mg d.name = some (.ref fa) → ∃ fd : FuncData, (∀ (s : Shared) (u : Value), BindsTo s fd ⟨[u], []⟩ [(x, u)]) ∧ ∀ base : Heap, (K w.params).In base → base.Ns mainGlobals mg → FnOk l.prog w (K w.params) mg base (CX w) k fa fd [x] (sp w))
    (says : ∀ (w : World) (T : Hp) (a : Addr) (ns : List Int), ns.length ≤ n → Only T → SqL (K w.params) T a (ns.map V.int) → sp w [.ref a] T (fun v _ => v = .bl true) fun _ _ _ => False)
    (noX : ∀ (w : World) (T : Hp) (s : Shared) (e : Value) (s' : Shared), CX w [] T s (fun _ _ _ => False) e s' → False) : PySem.W.WalkO q loose XP YP l.row.toRowW d [] (fun f vs => PySem.call f vs) :=
  Att.attach_call hn hdf fun w s0 t mg mb fa o pm cd doc a us ns G Y ho hd hcd at_law at_a nums many hg => by
    obtain ⟨fd, binds, run⟩ := F w mg fa t.heap (hY w _ Y) G.T.g at_law
    exact top_call (hY w _ Y) G.T.g G.T.b G.T.builtins G.T.nolimit hg at_a nums (Nat.le_trans many hn2) room run binds (fun T only sq => says w T a ns many only sq) fun T e s' => noX w T t e s'
end Mi
set_option Elab.async false
set_option linter.all false
set_option maxRecDepth 100000
set_option maxHeartbeats 4000000
namespace Mi
open PySem PySem.Spec PyProof.Rows L2
/-! a law's ends -/
theorem no_CX {P : Program} {w : World} {outer : List Env} {H : Hp} {s : Shared} {u : Value} {s' : Shared} (h : L2.CX P w outer H s (fun _ _ _ => False) u s') : False := by
  obtain ⟨_, _, _, _, _, _, _, _, _, _, _, _, z⟩ := h
  exact z
theorem VRs.ints {K : PySem.W.Frag} {G : Gh} {H : Hp} : ∀ ns : List Int, VRs K G H (ns.map MV.int) (ns.map V.int)
  | [] => VRs.nil (K := K) (G := G) (H := H)
  | n :: ns => VRs.cons (VR.mkInt (K := K) (G := G) (H := H)) (VRs.ints ns)
/-- the run gives True -/
def Says (run : Fn) (ns : List Int) : Prop := ∃ hp, run [.lst (ns.map .int)] [] = .ok (.v (.bl true)) hp
theorem start_lawT {R : RC} {run : Fn} {H : Hp} {a : Addr} {ns : List Int} (hT : ∀ q ∈ R.tabs, H q.1 = some (.tbl #[])) (hS : SqL R.K H a (ns.map V.int)) (h : Says run ns) : spF R 1 run [.ref a] H (fun v _ => v = .bl true) fun _ _ _ => False := by
  classical
  obtain ⟨hp, h⟩ := h
  have nt : ∀ q ∈ R.tabs, ¬ (q.1 = a ∧ Rd H a (.lst (ns.map V.int))) := fun q hq ⟨e, r⟩ => by
    have z := hT q hq
    rw [e] at z
    rcases r with r | ⟨o, r⟩ <;> (rw [z] at r; cases r)
  refine ⟨fun b => if b = a ∧ Rd H a (.lst (ns.map V.int)) then some .frz else if ∃ q ∈ R.tabs, q.1 = b then some .tab else none, [], [.lst (ns.map .int)], ⟨fun n o e => ?_, fun b c n e => ?_, fun b n e => ?_, fun b n f e => ?_, fun b r e => ?_, ⟨fun q hq => ⟨?_, #[], hT q hq, trivial, fun pos cv z => ?_⟩, fun b e => ?_⟩⟩, ?_, rfl, ?_⟩
  · simp at e
  · split at e <;> (try split at e) <;> cases e
  · split at e <;> (try split at e) <;> cases e
  · split at e <;> (try split at e) <;> cases e
  · split at e
    · rename_i hb
      obtain ⟨rfl, r⟩ := hb
      rcases r with r | ⟨o, r⟩
      · exact ⟨_, r⟩
      · exact ⟨_, r⟩
    · split at e
      · rename_i hb
        obtain ⟨q, hq, rfl⟩ := hb
        exact ⟨_, hT q hq⟩
      · cases e
  · exact (if_neg (nt q hq)).trans (if_pos ⟨q, hq, rfl⟩)
  · have z : codeAmong pos [] = some cv := z
    simp [codeAmong] at z
  · split at e
    · cases e
    · split at e
      · rename_i hb; exact hb
      · cases e
  · refine VRs.cons (K := R.K) ?_ (VRs.nil (K := R.K))
    unfold VR
    refine ⟨a, _, rfl, ?_, VRs.ints ns⟩
    rcases hS with r | k
    · exact .inl ⟨if_pos ⟨rfl, r⟩, r⟩
    · exact .inr k
  · rw [h]
    exact fun G' H' v _ _ _ q => VR.bl (K := R.K) (G := G') (H := H') q
theorem start_law {R : RC} {run : Fn} {H : Hp} {a : Addr} {ns : List Int} {n : Nat} (_ : ns.length ≤ n) (_ : Only H) (hS : SqL R.K H a (ns.map V.int)) (h : Says run ns) (ht : R.tabs = [] := by rfl) : spF R 1 run [.ref a] H (fun v _ => v = .bl true) fun _ _ _ => False :=
  start_lawT (fun q hq => by rw [ht] at hq; cases hq) hS h
end Mi
set_option Elab.async false
set_option linter.all false
set_option maxRecDepth 100000
set_option maxHeartbeats 4000000
namespace Mi
open PySem PySem.Spec PyProof.Rows L2
/-! the law's own call, where code objects have tables -/
abbrev tabO : Obj := { cls := .none, data := .fields #[] }
structure StartT (K : PySem.W.Frag) (mg mb : Str → Option Value) (t : Shared) (a : Addr) (us : List Value) (cs : List (Addr × Addr)) : Prop where
  kin : K.In t.heap
  gns : t.heap.Ns mainGlobals mg
  bns : t.heap.Ns builtinsNs mb
  boot : ∀ x : Str, x ≠ "__name__" → mb x = bootBuiltins x
  lim : t.heap.NoLimit
  gens : t.gens = #[]
  main : ∃ (m : Addr) (o : Obj), mg "__builtins__" = some (.ref m) ∧ m ≠ builtinsNs ∧ t.heap.get? m = some o ∧ o.cls = .type "module" ∧ o.dict = some builtinsNs ∧ o.data = .plain
  lst : t.heap.get? a = some { cls := .type "list", data := .seq us.toArray }
  tab : ∀ p ∈ cs, t.heap.get? p.2 = some tabO
  out : ∀ p ∈ cs, K.lookup p.2 = none
  code : ∀ p ∈ cs, PySem.W.CodeHd t.heap p.1 p.2
section
variable {P : Program} {w : World} {K : PySem.W.Frag} {mg mb : Str → Option Value} {CX : CXT} {k : Nat} {fa a : Addr} {fd : FuncData} {x : Str} {sp : Sp} {t : Shared} {us : List Value} {ns : List Int} {cs : List (Addr × Addr)}
open Classical in
/-- what is tracked at the start -/
noncomputable def toldT (K : PySem.W.Frag) (a : Addr) (us : List Value) (ns : List Int) (cs : List (Addr × Addr)) : Hp := fun b =>
  if b = a then (if K.lookup a = none then some (.frz { cls := .type "list", data := .seq us.toArray } (.lst (ns.map V.int))) else none)
  else if ∃ p ∈ cs, p.2 = b then some (.tbl #[]) else none
theorem StartT.apart (S : StartT K mg mb t a us cs) : ∀ p ∈ cs, p.2 ≠ a := fun p hp z => by
  have e := S.tab p hp
  rw [z, S.lst] at e
  cases e
theorem told_a : toldT K a us ns cs a = if K.lookup a = none then some (.frz { cls := .type "list", data := .seq us.toArray } (.lst (ns.map V.int))) else none := if_pos rfl
theorem told_t (S : StartT K mg mb t a us cs) {p : Addr × Addr} (hp : p ∈ cs) : toldT K a us ns cs p.2 = some (.tbl #[]) := (if_neg (S.apart p hp)).trans (if_pos ⟨p, hp, rfl⟩)
theorem told_of {b : Addr} {o : HO} (h : toldT K a us ns cs b = some o) : (b = a ∧ K.lookup a = none ∧ o = .frz { cls := .type "list", data := .seq us.toArray } (.lst (ns.map V.int))) ∨ ((∃ p ∈ cs, p.2 = b) ∧ o = .tbl #[]) := by
  unfold toldT at h
  split at h
  · rename_i e
    split at h
    · rename_i q; cases h; exact .inl ⟨e, q, rfl⟩
    · cases h
  · split at h
    · rename_i q; cases h; exact .inr ⟨q, rfl⟩
    · cases h
theorem told_free (S : StartT K mg mb t a us cs) {b : Addr} {o : Obj} (e : t.heap.get? b = some o) (h1 : ∀ v n, o.data ≠ .seq v n) (h2 : o.data ≠ .fields #[]) : toldT K a us ns cs b = none := by
  cases q : toldT K a us ns cs b with
  | none => rfl
  | some u =>
    rcases told_of q with ⟨rfl, _⟩ | ⟨⟨p, hp, rfl⟩, _⟩
    · rw [S.lst] at e; cases e; exact (h1 _ _ rfl).elim
    · rw [S.tab p hp] at e; cases e; exact (h2 rfl).elim
theorem told_base (S : StartT K mg mb t a us cs) : K.In (hidT t.heap (toldT K a us ns cs)) ∧ (hidT t.heap (toldT K a us ns cs)).Ns mainGlobals mg ∧ Mod K mg (hidT t.heap (toldT K a us ns cs)) ∧ ∀ p ∈ cs, LamX.TabB (hidT t.heap (toldT K a us ns cs)) mg p.1 p.2 := by
  have names : ∀ {b : Addr} {m : Str → Option Value}, t.heap.Ns b m → (hidT t.heap (toldT K a us ns cs)).Ns b m := by
    rintro b m ⟨o, es, ep, e, d, r⟩
    exact ⟨o, es, ep, hidT_get e (told_free S e (fun v n z => by rw [d] at z; cases z) (fun z => by rw [d] at z; cases z)), d, r⟩
  have kin : K.In (hidT t.heap (toldT K a us ns cs)) := fun b o e => hidT_get (S.kin b o e) (by
    cases q : toldT K a us ns cs b with
    | none => rfl
    | some u =>
      rcases told_of q with ⟨rfl, h, _⟩ | ⟨⟨p, hp, rfl⟩, _⟩
      · rw [h] at e; cases e
      · rw [S.out p hp] at e; cases e)
  obtain ⟨mc, l1, l2⟩ := S.lim
  refine ⟨kin, names S.gns, ⟨kin, names S.gns, ⟨mb, names S.bns, S.boot⟩, mc, names l1, l2⟩, fun p hp => ?_⟩
  have hT := S.tab p hp
  have nG : mainGlobals ≠ p.2 := by
    intro z
    obtain ⟨o, es, ep, e, d, _⟩ := S.gns
    rw [z, hT] at e; cases e; cases d
  refine { code := ?_, bm := ?_, gP := nG }
  · obtain ⟨o, us, f, tf, fl, tg, inF, tx, tt, h1, h2, h3, h4⟩ := S.code p hp
    refine ⟨o, us, f, tf, fl, tg, inF, tx, tt, hidT_get h1 (told_free S h1 ?_ ?_), h2, h3, h4⟩
    · intro v n z; rw [h3] at z; cases z
    · intro z
      rw [h3] at z
      cases z
      simp at h4
  · obtain ⟨m, o, h1, h2, h3, h4, h5, h6⟩ := S.main
    refine ⟨m, o, h1, h2, ?_, ?_, hidT_get h3 (told_free S h3 ?_ ?_), h4, h5, h6⟩
    · intro z
      obtain ⟨o', es, ep, e, d, _⟩ := S.gns
      rw [← z, h3] at e; cases e
      rw [h6] at d; cases d
    · intro z
      rw [z, hT] at h3
      cases h3; cases h6
    · intro v n z; rw [h6] at z; cases z
    · intro z; rw [h6] at z; cases z
theorem top_callT (S : StartT K mg mb t a us cs) (nums : IntsAre us ns) (hl : ns.length ≤ sizeLine) (room : L2.Room k callerA)
    (F : ∀ base : Heap, K.In base → base.Ns mainGlobals mg → (∀ p ∈ cs, LamX.TabB base mg p.1 p.2) → FnOk P w K mg base CX k fa fd [x] sp) (binds : ∀ (s : Shared) (u : Value), BindsTo s fd ⟨[u], []⟩ [(x, u)])
    (says : ∀ T : Hp, (∀ p ∈ cs, T p.2 = some (.tbl #[])) → SqL K T a (ns.map V.int) → sp [.ref a] T (fun v _ => v = .bl true) fun _ _ _ => False) (noX : ∀ T e s', CX [] T t (fun _ _ _ => False) e s' → False) :
    codeAny (model P w) callerA (.call (.ref fa) ⟨[.ref a], []⟩) (fun r s' => r = .ok (.ret (.bool true)) ∧ OldK t.heap s'.heap ∧ s'.os = t.os ∧ AllBare s'.gens) t := by
  have rv := vals_ints nums
  obtain ⟨kin, gns', mod, tb⟩ := told_base (ns := ns) S
  have hok : HOk P w (toldT K a us ns cs) t.heap := fun b u z => by
    rcases told_of z with ⟨rfl, _, rfl⟩ | ⟨⟨p, hp, rfl⟩, rfl⟩
    · exact ⟨S.lst, by simpa using hl, us, _, rv, S.lst⟩
    · exact S.tab p hp
  have sq : SqL K (toldT K a us ns cs) a (ns.map V.int) := by
    by_cases q : K.lookup a = none
    · exact .inl (.inr ⟨_, by rw [told_a, if_pos q]⟩)
    · obtain ⟨o, ho⟩ := Option.ne_none_iff_exists'.mp q
      have e := S.kin a o ho
      rw [S.lst] at e
      cases e
      exact .inr ⟨_, us.toArray, _, ho, rfl, rfl, rfl, by rw [List.size_toArray, nums.length]; exact hl, by simpa using rv⟩
  have start : Env0 P w K mg (hidT t.heap (toldT K a us ns cs)) callerA [] t (toldT K a us ns cs) := { frames := rfl, mod := mod, bs := fun b o e => of_hidT e, bsz := Nat.le_of_eq (hidT_size _ _), funs := trivial, frf := (fun b hb => by cases hb), hok := hok, bare := .of_eq S.gens }
  refine codeAny_mono ((F _ kin gns' tb).run callerA [] t (toldT K a us ns cs) ⟨[.ref a], []⟩ [.ref a] [.ref a] (fun v _ => v = .bl true) (fun _ _ _ => False) (room_top room) start (binds t _) (.cons rfl .nil) (says _ (fun p hp => told_t S hp) sq)) ?_
  rintro (e | fl) s' h
  · exact (noX _ e s' h).elim
  · match fl, h with
    | .ret u, ⟨v, T', os, bare, un, hok', rv, q⟩ =>
      have q : v = .bl true := q
      subst q
      cases (show u = Value.bool true from rv)
      have grown : ∀ p ∈ cs, ∃ more : Array Value, s'.heap.get? p.2 = some { cls := .none, data := .fields more } := by
        intro p hp
        obtain ⟨more, z⟩ := un.tbls p.2 #[] (told_t S hp)
        exact ⟨_, hok' p.2 _ z⟩
      have kept : ∀ b o, (¬ ∃ p ∈ cs, p.2 = b) → t.heap.get? b = some o → s'.heap.get? b = some o := by
        intro b o nb e
        cases z : toldT K a us ns cs b with
        | none => exact un.keep b o e z (fun m => by cases m) (by simp)
        | some u =>
          rcases told_of z with ⟨rfl, _, rfl⟩ | ⟨h, _⟩
          · have told := (hok _ _ z).1
            rw [e] at told
            cases told
            exact (hok' _ _ (un.frzs _ _ _ z)).1
          · exact (nb h).elim
      refine ⟨rfl, ⟨?_, ?_⟩, os, bare⟩
      · intro b o e
        by_cases nb : ∃ p ∈ cs, p.2 = b
        · obtain ⟨p, hp, rfl⟩ := nb
          obtain ⟨more, hm⟩ := grown p hp
          rw [S.tab p hp] at e
          cases e
          exact .inr (.inl ⟨((S.code p hp).tab (S.tab p hp)).isCodeTable, rfl, #[], more, rfl, by rw [Array.empty_append]; exact hm⟩)
        · exact .inl (kept b o nb e)
      · intro b o e
        by_cases nb : ∃ p ∈ cs, p.2 = b
        · obtain ⟨p, hp, rfl⟩ := nb
          obtain ⟨more, hm⟩ := grown p hp
          exact ⟨_, hm⟩
        · exact ⟨o, kept b o nb e⟩
    | .next, h => exact h.elim
    | .brk, h => exact h.elim
    | .cont, h => exact h.elim
end
/-- the head's goal, from the def of the law; cs: code objects and their tables -/
theorem walk_topT {l : PySem.W.OpenLaw} {n k : Nat} {q : Program} {loose : List Str} {XP : (Str → Option Value) → Heap → Prop} {YP : World → Heap → Prop} {d : DefRec} {K : Params → PySem.W.Frag} {CX : World → CXT} {x : Str}
    (hn : l.most = some n) (hn2 : n ≤ sizeLine) (hdf : d.params.defaults = []) (room : L2.Room k callerA) (hY : ∀ (w : World) (h : Heap), YP w h → (K w.params).In h)
    (F : ∀ (w : World) (mg mb : Str → Option Value) (fa : Addr) (h : Heap) (lo : List Str) (mean : ExcName → Option Value), Top q lo mean mg mb h → YP w h → (K w.params).In h → h.Ns mainGlobals mg → mg d.name = some (.ref fa) →
      ∃ (fd : FuncData) (cs : List (Addr × Addr)) (sp : Sp), (∀ p ∈ cs, h.get? p.2 = some tabO) ∧ (∀ p ∈ cs, (K w.params).lookup p.2 = none) ∧ (∀ p ∈ cs, PySem.W.CodeHd h p.1 p.2) ∧ (∀ (s : Shared) (u : Value), BindsTo s fd ⟨[u], []⟩ [(x, u)]) ∧
        (∀ (T : Hp) (a : Addr) (ns : List Int), ns.length ≤ n → (∀ p ∈ cs, T p.2 = some (.tbl #[])) → SqL (K w.params) T a (ns.map V.int) → sp [.ref a] T (fun v _ => v = .bl true) fun _ _ _ => False) ∧
        ∀ base : Heap, (K w.params).In base → base.Ns mainGlobals mg → (∀ p ∈ cs, LamX.TabB base mg p.1 p.2) → FnOk l.prog w (K w.params) mg base (CX w) k fa fd [x] sp)
    (noX : ∀ (w : World) (T : Hp) (s : Shared) (e : Value) (s' : Shared), CX w [] T s (fun _ _ _ => False) e s' → False) : PySem.W.WalkO q loose XP YP l.row.toRowW d [] (fun f vs => PySem.call f vs) :=
  Att.attach_call hn hdf fun w s0 t mg mb fa o pm cd doc a us ns G Y ho hd hcd at_law at_a nums many hg => by
    obtain ⟨fd, cs, sp, h1, h2, h3, binds, says, run⟩ := F w mg mb fa t.heap _ _ G.T Y (hY w _ Y) G.T.g at_law
    exact top_callT ⟨hY w _ Y, G.T.g, G.T.b, G.T.builtins, G.T.nolimit, hg, G.T.bmain, at_a, h1, h2, h3⟩ nums (Nat.le_trans many hn2) room run binds (fun T ht sq => says T a ns many ht sq) fun T e s' => noX w T t e s'
end Mi
set_option Elab.async false
set_option linter.all false
set_option maxRecDepth 100000
set_option maxHeartbeats 4000000
namespace Mi
open PySem PySem.Spec PyProof.Rows L2
/-! pairs of a number and a text compared -/
section
open PySem.SeqAt
open PySem.AutoSeq1 (wpAny_loadPart')
open PySem.MeetsSeq PySem.MeetsSeq2 PySem.MeetsSeq3
theorem less_pair (l b : Addr) (n n2 : Nat) (dd dd2 : Option Addr) (sl sl2 : Array (Option Value)) (i j : Int) (t1 u1 t2 u2 : Tok) (x y : Str) :
    Meets (Builtin.«tuple.__lt__» ⟨[.ref l, .ref b], []⟩)
      (fun _ R s => s.heap.get? l = some { cls := .type "tuple", dict := dd, data := .seq #[.int i t1, .str x u1] n, slots := sl } ∧ s.heap.get? b = some { cls := .type "tuple", dict := dd2, data := .seq #[.int j t2, .str y u2] n2, slots := sl2 } ∧
        R (.ok (.ret (.bool (ltP (i, x.cps.toList) (j, y.cps.toList))))) s) :=
  .of_wp fun prog w A R s h => by
    obtain ⟨hp, g, d, tk, os⟩ := s
    obtain ⟨hl, hb, h⟩ := h
    have sub := AutoSeq1.sub_tuple_tuple
    wp_walk using wpAny_loadPart' hl, wpAny_loadPart' hb, wpAny_forIn_list _ (fun rest b s' => b.1 = none ∧ s' = ⟨hp, g, d, tk, os⟩ ∧
      ((rest = [(Value.int i t1, Value.int j t2), (Value.str x u1, Value.str y u2)]) ∨ (i = j ∧ rest = [(Value.str x u1, Value.str y u2)]) ∨ (i = j ∧ x = y ∧ rest = []))) _
    case turn =>
      rintro ⟨p, q⟩ rest b s' ⟨hb', rfl, hr⟩
      rcases hr with hr | ⟨e1, hr⟩ | ⟨e1, e2, hr⟩
      · injection hr with hpq hrest
        injection hpq with hp1 hq1
        subst hp1 hq1
        refine wpAny_bind (EqAt.int_int i t1 j t2 prog w _ _ ?_)
        by_cases e : i = j
        · rw [show (i == j) = true by rw [e]; exact beq_self_eq_true _]
          wp_walk
          exact ⟨rfl, rfl, .inr (.inl ⟨e, hrest⟩)⟩
        · rw [show (i == j) = false from beq_eq_false_iff_ne.mpr e]
          have hri : ∀ (E : Value → Shared → Prop) (Q : Value → Shared → Prop), Q (.bool (decide (i < j))) ⟨hp, g, d, tk, os⟩ → wpAny (model prog w) A.in1 (richCompare .Lt (.int i t1) (.int j t2)) Q E ⟨hp, g, d, tk, os⟩ := fun E Q q => PyProof.Rows.lt_int q
          have hv : ltP (i, x.cps.toList) (j, y.cps.toList) = decide (i < j) := by unfold ltP; rw [if_neg e]
          rw [hv] at h
          wp_walk using hri
          exact ⟨_, rfl, by simpa using h⟩
      · injection hr with hpq hrest
        injection hpq with hp1 hq1
        subst hp1 hq1
        refine wpAny_bind (EqAt.str_str x u1 y u2 prog w _ _ ?_)
        by_cases e : x = y
        · rw [show (x == y) = true by rw [e]; exact beq_self_eq_true _]
          wp_walk
          exact ⟨rfl, rfl, .inr (.inr ⟨e1, e, hrest⟩)⟩
        · rw [show (x == y) = false from beq_eq_false_iff_ne.mpr e]
          have hri : ∀ (E : Value → Shared → Prop) (Q : Value → Shared → Prop), Q (.bool (decide (x.cps.toList < y.cps.toList))) ⟨hp, g, d, tk, os⟩ → wpAny (model prog w) A.in1 (richCompare .Lt (.str x u1) (.str y u2)) Q E ⟨hp, g, d, tk, os⟩ := fun E Q q => PyProof.Rows.lt_str q
          have hv : ltP (i, x.cps.toList) (j, y.cps.toList) = decide (x.cps.toList < y.cps.toList) := by unfold ltP; rw [if_pos e1]
          rw [hv] at h
          wp_walk using hri
          exact ⟨_, rfl, by simpa using h⟩
      · cases hr
    case fin =>
      rintro ⟨b1, b2⟩ s' ⟨hb', rfl, hr⟩
      simp only at hb'
      subst hb'
      rcases hr with hr | ⟨e1, hr⟩ | ⟨e1, e2, hr⟩
      · cases hr
      · cases hr
      · have hv : ltP (i, x.cps.toList) (j, y.cps.toList) = false := by
          unfold ltP
          rw [if_pos e1, e2]
          exact decide_eq_false (List.lt_irrefl _)
        rw [hv] at h
        wp_walk
        exact ⟨_, rfl, by simpa [Builtin.Tuple.tupleCompareSizes] using h⟩
    case h => exact ⟨rfl, rfl, .inl rfl⟩
end
section
variable {prog : Program} {w : World} {A : Around} {E : Value → Shared → Prop} {s : Shared} {Q : Value → Shared → Prop}
theorem lt_pairs {v u : Value} {k m : Pr} (hp : PairAt s.heap v k) (hq : PairAt s.heap u m) (hu : A.units < cLine) (h : Q (.bool (ltP k m)) s) : wpAny (model prog w) A (richCompare .Lt v u) Q E s := by
  obtain ⟨a, ⟨c1, d1, dt1, sl1⟩, n, t, w1, x, rfl, ho, hc, hd, hx⟩ := hp
  obtain ⟨a', ⟨c2, d2, dt2, sl2⟩, n', t', w2, x', rfl, ho', hc', hd', hx'⟩ := hq
  simp only at hc hd hc' hd'
  subst hc hd hc' hd'
  obtain ⟨k1, k2⟩ := k
  obtain ⟨m1, m2⟩ := m
  simp only at hx hx'
  subst hx hx'
  exact richCompare_meets_room (op := .Lt) ⟨_, ho, rfl⟩ ⟨_, ho', rfl⟩ PySem.F.slot_tuple_lt PySem.F.entry_tuple_lt (PySem.F.args_tuple_lt_2 _ _) (less_pair a a' n n' d1 d2 sl1 sl2 k1 m1 t w1 t' w2 x x')
    ⟨ho, ho', show Value.bool _ ≠ Value.notImplemented ∧ Q (.bool _) s from ⟨(fun x => nomatch x), h⟩⟩ hu
end
end Mi
set_option Elab.async false
set_option linter.all false
set_option maxRecDepth 100000
set_option maxHeartbeats 4000000
namespace Mi
open PySem PySem.Spec PyProof.Rows L2
/-! a lambda is made: its code object is new, or stands in its maker's table -/
structure Grown (H : Hp) (P : Addr) (ps : Array Value) (c : Addr) (nm : Str) (H1 : Hp) : Prop where
  new : H c = none
  ex : ∃ more : Array Value, H1 = upd (upd H P (.tbl (ps ++ more))) c (LamX.CodeO c nm) ∧ TriplesOk (ps ++ more).toList ∧ ∀ (p : Pos) (cv : Value), codeAmong p (ps ++ more).toList = some cv → codeAmong p ps.toList = some cv ∨ cv = .ref c
section
variable {X : Cx} {pins : List (Addr × Obj)} {σ : L2.St} {H : Hp} {s : Shared}
theorem lam_mk {c P : Addr} {params : Arguments} {body : Expr} {scope : Scope} {pos : Pos} {ps : Array Value} {E Q : Value → Shared → Prop} (I : Inv X pins σ H s) (TB : LamX.TabB X.base X.mg c P) (hcode : X.env.code = .ref c)
    (hP : H P = some (.tbl ps)) (ht : TriplesOk ps.toList) (ha : ∀ (p : Pos) (cv : Value), codeAmong p ps.toList = some cv → ∃ d, cv = .ref d ∧ H d = some (LamX.CodeO d (X.env.qual ++ "<lambda>")))
    (hdef : defaultsOf params X.env = ([], [])) (hfree : ∀ y ∈ scope.names, y.2 = .free → ∃ d, X.env.cells.lookup y.1 = some d)
    (k : ∀ (f d : Addr) (pm ctv : Value) (H1 : Hp) (s' : Shared), Inv X pins σ H1 s' → (H1 = H ∨ Grown H P ps d (X.env.qual ++ "<lambda>") H1) →
      s'.heap.get? f = some (PySem.W.kla_obj "<lambda>" (X.env.qual ++ "<lambda>") params body scope (cloFrom X.env.cells scope.names []) pm d ctv) → H1 f = none → f ∉ frs X.stack → H1 d = some (LamX.CodeO d (X.env.qual ++ "<lambda>")) → Q (.ref f) s') :
    wpAny (model X.prog X.w) X.A (eval (.Lambda params body scope pos) X.env) Q E s := by
  have main := TB.bm.keeps I.bk
  have told : s.heap.get? P = some { cls := .none, data := .fields ps } := I.hok P _ hP
  have above : ∀ f, s.heap.objs.size ≤ f → f ∉ frs X.stack := by
    intro f hf z
    rcases List.mem_cons.mp (I.stkSub _ z) with e | e
    · rw [e] at hf
      exact absurd (Nat.lt_of_lt_of_le I.lt hf) (Nat.lt_irrefl _)
    · exact I.nofs hf e
  refine PySem.W.kla_eval hdef ?_
  rcases hc : codeAmong pos ps.toList with _ | cv
  · refine PySem.W.kla_makeFunction (mg := X.mg) (closure_ok hfree) I.ok.glob (I.mod.glob.keeps I.bk) hcode (TB.code.keeps I.bk) told ht hc TB.gP main fun d ctv h' tk hx hge hlt rec tab => ?_
    obtain ⟨d2, oc, vs, t, e2, hoc, hd, hv⟩ := rec
    cases e2
    have fresh : H d = none := I.hok.fresh hge
    have size : s.heap.objs.size ≤ h'.objs.size := Nat.le_trans hge (Nat.le_of_lt hlt)
    obtain ⟨o, ho⟩ : ∃ o : Obj, o = PySem.W.kla_obj "<lambda>" (X.env.qual ++ "<lambda>") params body scope (cloFrom X.env.cells scope.names []) ((X.mg "__name__").getD .none) d ctv := ⟨_, rfl⟩
    rw [← ho]
    have J := LamX.inv_table (t' := tk) (more := #[rawInt pos.line, rawInt pos.col, .ref d]) (h' := h'.push o) (c := d) (q := X.env.qual ++ "<lambda>") I hP (fun b u hb e => Heap.get?_push_of_some _ (hx b u hb e)) (Heap.get?_push_of_some _ tab) hge
      ⟨oc, vs, t, Heap.get?_push_of_some _ hoc, hd, hv⟩
    have list : (ps ++ #[rawInt pos.line, rawInt pos.col, .ref d]).toList = ps.toList ++ [rawInt pos.line, rawInt pos.col, .ref d] := by simp
    refine k h'.objs.size d _ ctv _ _ J (.inr ⟨fresh, _, rfl, by rw [list]; exact PySem.TriplesOk_snoc _ _ _ _ ht, fun p cv q => ?_⟩) (by rw [ho]; exact Heap.get?_push_size _ rfl) ?_ (above _ size) upd_same
    · rw [list] at q
      exact LamX.among_app _ ht q
    · have n1 : h'.objs.size ≠ d := Nat.ne_of_gt hlt
      have n2 : h'.objs.size ≠ P := Nat.ne_of_gt (Nat.lt_of_lt_of_le (Heap.lt_size told) size)
      rw [upd_ne n1, upd_ne n2]
      exact I.hok.fresh size
  · obtain ⟨d, rfl, hd⟩ := ha pos cv hc
    refine PySem.W.kla_makeFunctionHit (mg := X.mg) (closure_ok hfree) I.ok.glob (I.mod.glob.keeps I.bk) hcode (TB.code.keeps I.bk) told ht hc main fun ctv h' tk hx size => ?_
    obtain ⟨o, ho⟩ : ∃ o : Obj, o = { cls := .type "function", data := .func (PySem.W.kla_fn "<lambda>" (X.env.qual ++ "<lambda>") params body scope (cloFrom X.env.cells scope.names []) ((X.mg "__name__").getD .none) (.ref d) ctv) } := ⟨_, rfl⟩
    rw [← ho]
    have J : Inv X pins σ H { s with heap := h'.push o, toks := tk } := I.kept fun b u e => Heap.get?_push_of_some _ (hx b u e)
    exact k h'.objs.size d _ ctv H _ J (.inl rfl) (by rw [ho]; exact Heap.get?_push_size _ rfl) (I.hok.fresh size) (above _ size) hd
end
/-! a lambda is called -/
section
variable {CX : CXT} {P : Program} {w : World} {K : PySem.W.Frag} {mg : Str → Option Value} {base : Heap} {N ps fr : List Str} {f c : Addr} {A : Around} {outer : List Env} {s : Shared} {H : Hp} {E : XK} {Q : VK} {us : List Value} {vs : List V} {ws : List (Option V)}
  {name qual : Str} {params : Arguments} {body : Expr} {scope : Scope} {cl : List (Str × Addr)} {pm ctv : Value} {k : Nat} {t : TE}
theorem lam_call (S : NdefX.NScope N ps fr scope) (ho : s.heap.get? f = some (PySem.W.kla_obj name qual params body scope cl pm c ctv)) (hcd : H c = some (LamX.CodeO c qual)) (hr : Room (k + 1) A) (e0 : Env0 P w K mg base A outer s H)
    (hb : bindArgs (PySem.W.kla_fn name qual params body scope cl pm (.ref c) ctv) ⟨us, []⟩ = pure (ps.zip us)) (r : Vals vs us) (hl : vs.length = ps.length) (C : NdefX.CellsAt cl fr ws s.heap H)
    (hbody : PE (NdefX.ncx CX P w K mg base N ⟨name, qual, params, [], scope, cl, c⟩ f A outer s H E) body t) (hq : t (NdefX.startF N vs ws) H Q) :
    codeAny (model P w) A (.call (.ref f) ⟨us, []⟩) (L2.CR CX outer P w H s Q E) s := by
  have lim : s.heap.NoLimit := e0.mod.nolimit.keeps fun b o e => (e0.bs b o e).1
  refine PySem.W.kla_callFunE hr.depth ho rfl S.co S.gen rfl (NdefX.codeO_at e0.hok hcd) ?_
  rw [hb]
  refine wpAny_pure (wpAny_newFunctionEnv S.nocell (fun y hy => S.par y.1 (List.of_mem_zip hy).1) (fun h1 hns hsb => ⟨lim.fresh _ hsb, ?_⟩) S.kind)
  have kp : ∀ b o, s.heap.get? b = some o → h1.get? b = some o := fun b o e => hsb.extBut b o (Nat.ne_of_lt (Heap.lt_size e)) (Heap.get?_push_of_some _ e)
  have J : Inv (NdefX.ncx CX P w K mg base N ⟨name, qual, params, [], scope, cl, c⟩ f A outer s H E) [] (NdefX.startF N vs ws) H { s with heap := h1, toks := s.toks + (ps.zip us).length } := NdefX.inv_startN S hr.hd e0 hl r C hns kp
  refine PySem.W.kla_codeExpr (wpAny_mono (hbody.run [] _ _ H Q J hq) (fun v s' h => ?_) fun e s' h => h)
  obtain ⟨x, H', J', rv, q⟩ := h
  exact ⟨x, H', J'.os, J'.bare, J'.base, J'.hok, rv, q⟩
end
end Mi
set_option Elab.async false
set_option linter.all false
set_option maxRecDepth 100000
set_option maxHeartbeats 4000000
namespace Mi
open PySem PySem.Spec PyProof.Rows L2
/-! what is read, locked as it stands -/
def lockO (h : Heap) (a : Addr) : HO → Option HO
  | .dK k => (h.get? a).map fun o => .frz o (.dK k)
  | .tup x => (h.get? a).map fun o => .frz o (.tup x)
  | .frz o (.dK k) => some (.frz o (.dK k))
  | .frz o (.tup x) => some (.frz o (.tup x))
  | _ => none
def lockH (H : Hp) (h : Heap) : Hp := fun a => (H a).bind (lockO h a)
theorem lock_none {H : Hp} {h : Heap} {a : Addr} (e : H a = none) : lockH H h a = none := by unfold lockH; rw [e]; rfl
theorem lock_frz {H : Hp} {h : Heap} {a : Addr} {u : HO} (e : lockH H h a = some u) : ∃ o v, u = .frz o v ∧ (H a = some (.frz o v) ∨ (H a = some v ∧ h.get? a = some o)) ∧ ((∃ k, v = .dK k) ∨ ∃ x, v = .tup x) := by
  unfold lockH at e
  obtain ⟨w, e1, e2⟩ := Option.bind_eq_some_iff.mp e
  cases w with
  | dK k =>
    simp only [lockO, Option.map_eq_some_iff] at e2
    obtain ⟨o, h1, rfl⟩ := e2
    exact ⟨o, _, rfl, .inr ⟨e1, h1⟩, .inl ⟨k, rfl⟩⟩
  | tup x =>
    simp only [lockO, Option.map_eq_some_iff] at e2
    obtain ⟨o, h1, rfl⟩ := e2
    exact ⟨o, _, rfl, .inr ⟨e1, h1⟩, .inr ⟨x, rfl⟩⟩
  | frz o v =>
    cases v with
    | dK k => cases e2; exact ⟨o, _, rfl, .inl e1, .inl ⟨k, rfl⟩⟩
    | tup x => cases e2; exact ⟨o, _, rfl, .inl e1, .inr ⟨x, rfl⟩⟩
    | _ => cases e2
  | _ => cases e2
theorem plain_ok {P : Program} {w : World} {H H' : Hp} {h : Heap} {a : Addr} {v : HO} (k : (∃ k, v = .dK k) ∨ ∃ x, v = .tup x) (x : ObjOk P w H h a v) : ObjOk P w H' h a v := by
  rcases k with ⟨k, rfl⟩ | ⟨k, rfl⟩ <;> exact x
theorem lock_ok {P : Program} {w : World} {H : Hp} {h : Heap} (ok : HOk P w H h) : HOk P w (lockH H h) h := fun a u e => by
  obtain ⟨o, v, rfl, h1, k⟩ := lock_frz e
  rcases h1 with h1 | ⟨h1, h2⟩
  · obtain ⟨x1, x2⟩ := ok a _ h1
    exact ⟨x1, plain_ok k x2⟩
  · exact ⟨h2, plain_ok k (ok a _ h1)⟩
theorem lock_raw {P : Program} {w : World} {H : Hp} {h : Heap} {a : Addr} {o : Obj} {v : HO} (ok : HOk P w H h) (e : lockH H h a = some (.frz o v)) : h.get? a = some o := (lock_ok ok a _ e).1
theorem lock_rd {P : Program} {w : World} {H : Hp} {h : Heap} {a : Addr} {v : HO} (ok : HOk P w H h) (k : (∃ k, v = .dK k) ∨ ∃ x, v = .tup x) (e : Rd H a v) : Rd (lockH H h) a v := by
  rcases e with e | ⟨o, e⟩
  · obtain ⟨o, ho⟩ : ∃ o, h.get? a = some o := by
      have x := ok a _ e
      rcases k with ⟨k, rfl⟩ | ⟨k, rfl⟩
      · obtain ⟨_, _, _, _, o, _, _, ho, _⟩ := x; exact ⟨o, ho⟩
      · obtain ⟨_, _, _, o, ho, _⟩ := x; exact ⟨o, ho⟩
    refine .inr ⟨o, ?_⟩
    unfold lockH
    rw [e]
    rcases k with ⟨k, rfl⟩ | ⟨k, rfl⟩ <;> simp [lockO, ho]
  · refine .inr ⟨o, ?_⟩
    unfold lockH
    rw [e]
    rcases k with ⟨k, rfl⟩ | ⟨k, rfl⟩ <;> rfl
theorem lock_tup {P : Program} {w : World} {K : PySem.W.Frag} {H : Hp} {h : Heap} {a : Addr} {xs : List V} (ok : HOk P w H h) (e : SqT K H a xs) : SqT K (lockH H h) a xs := by
  rcases e with e | e
  · exact .inl (lock_rd ok (.inr ⟨xs, rfl⟩) e)
  · exact .inr e
theorem lock_env {P : Program} {w : World} {K : PySem.W.Frag} {mg : Str → Option Value} {base : Heap} {A : Around} {outer : List Env} {s : Shared} {H : Hp} (e : Env0 P w K mg base A outer s H) : Env0 P w K mg base A outer s (lockH H s.heap) :=
  ⟨e.frames, e.mod, fun b o q => ⟨(e.bs b o q).1, lock_none (e.bs b o q).2⟩, e.bsz, e.funs, fun b hb => lock_none (e.frf b hb), lock_ok e.hok, e.bare⟩
/-- behind a call that saw all locked: what stood stands -/
theorem lock_back {P : Program} {w : World} {H H' : Hp} {fs : List Addr} {h h' : Heap} (ok : HOk P w H h) (un : Un fs [] (lockH H h) H' h h') (ok' : HOk P w H' h') {b : Addr} {o : Obj} (e : h.get? b = some o) (hf : b ∉ fs) : h'.get? b = some o := by
  cases q : lockH H h b with
  | none => exact un.keep b o e q hf (by simp)
  | some u =>
    obtain ⟨o', v, rfl, _⟩ := lock_frz q
    have r := lock_raw ok q
    rw [e] at r
    cases r
    exact (ok' b _ (un.frzs b _ _ q)).1
theorem stay_un {P : Program} {w : World} {H : Hp} {fs ch : List Addr} {h h' : Heap} (ok : HOk P w H h) (hfs : ∀ b ∈ fs, H b = none) (hch : ∀ b ∈ ch, H b = none) (kp : ∀ b o, h.get? b = some o → b ∉ fs → b ∉ ch → h'.get? b = some o) (sl : ∀ b o, h.get? b = some o → b ∈ fs → b ∉ ch → ∃ sl, h'.get? b = some { o with slots := sl }) :
    Un fs ch H H h h' ∧ HOk P w H h' := by
  refine ⟨⟨fun b o e _ hf hx => kp b o e hf hx, fun b o e _ hf hx => sl b o e hf hx, fun b o _ n _ => n, fun b o e hx => ?_, fun _ _ q => q, fun _ _ _ q => q, fun b ps q => ⟨#[], by simpa using q⟩⟩, fun b u e => ?_⟩
  · by_cases hf : b ∈ fs
    · obtain ⟨s2, q⟩ := sl b o e hf hx; exact ⟨_, q⟩
    · exact ⟨_, kp b o e hf hx⟩
  · have ne : ∀ d, H d ≠ none → d ∉ fs ∧ d ∉ ch := fun d n => ⟨fun z => n (hfs d z), fun z => n (hch d z)⟩
    refine (ok b u e).stay (fun d v hd q => ?_) (fun _ q => q) fun _ _ q => q
    have n : H d ≠ none := by
      rcases hd with rfl | hd
      · rw [e]; simp
      · rw [hd]; simp
    exact kp d v q (ne d n).1 (ne d n).2
section
variable {X : Cx} {pins : List (Addr × Obj)} {σ : L2.St} {H : Hp} {s : Shared}
/-- Inv stays where all but ch stays -/
theorem inv_moved {s' : Shared} {ch : List Addr} (I : Inv X pins σ H s) (ho : s'.os = s.os) (hg : AllBare s'.gens) (hn : ∀ b ∈ ch, H b = none) (kp : ∀ b o, s.heap.get? b = some o → b ∉ frs X.stack → b ∉ ch → s'.heap.get? b = some o)
    (sl : ∀ b o, s.heap.get? b = some o → b ∈ frs X.stack → b ∉ ch → ∃ sl, s'.heap.get? b = some { o with slots := sl })
    (hch : ∀ b ∈ ch, (b ∈ X.ex ∨ X.s_0.heap.objs.size ≤ b) ∧ b ≠ X.env.locals ∧ (∀ x c, X.env.cells.lookup x = some c → c ≠ b) ∧ ∀ p ∈ X.pn ++ pins, p.1 ≠ b) : Inv X pins σ H s' := by
  obtain ⟨un, ok⟩ := stay_un I.hok I.env0.frf hn kp sl
  exact I.call' ho un ok hg hch
end
end Mi
set_option Elab.async false
set_option linter.all false
set_option maxRecDepth 100000
set_option maxHeartbeats 4000000
namespace Mi
open PySem PySem.Spec PyProof.Rows L2
/-! a lambda is called, its code object as the heap has it -/
section
variable {CX : CXT} {P : Program} {w : World} {K : PySem.W.Frag} {mg : Str → Option Value} {base : Heap} {N ps fr : List Str} {f c : Addr} {A : Around} {outer : List Env} {s : Shared} {H : Hp} {E : XK} {Q : VK} {us : List Value} {vs : List V} {ws : List (Option V)}
  {name qual : Str} {params : Arguments} {body : Expr} {scope : Scope} {cl : List (Str × Addr)} {pm ctv : Value} {k : Nat} {t : TE}
theorem lam_callH (S : NdefX.NScope N ps fr scope) (ho : s.heap.get? f = some (PySem.W.kla_obj name qual params body scope cl pm c ctv)) (hcd : s.heap.CodeRec (.ref c) qual) (hd : A.depth < recursionLimit) (hh : A.handled = none) (e0 : Env0 P w K mg base A outer s H)
    (hb : bindArgs (PySem.W.kla_fn name qual params body scope cl pm (.ref c) ctv) ⟨us, []⟩ = pure (ps.zip us)) (r : Vals vs us) (hl : vs.length = ps.length) (C : NdefX.CellsAt cl fr ws s.heap H)
    (hbody : PE (NdefX.ncx CX P w K mg base N ⟨name, qual, params, [], scope, cl, c⟩ f A outer s H E) body t) (hq : t (NdefX.startF N vs ws) H Q) :
    codeAny (model P w) A (.call (.ref f) ⟨us, []⟩) (L2.CR CX outer P w H s Q E) s := by
  have lim : s.heap.NoLimit := e0.mod.nolimit.keeps fun b o e => (e0.bs b o e).1
  refine PySem.W.kla_callFunE hd ho rfl S.co S.gen rfl hcd ?_
  rw [hb]
  refine wpAny_pure (wpAny_newFunctionEnv S.nocell (fun y hy => S.par y.1 (List.of_mem_zip hy).1) (fun h1 hns hsb => ⟨lim.fresh _ hsb, ?_⟩) S.kind)
  have kp : ∀ b o, s.heap.get? b = some o → h1.get? b = some o := fun b o e => hsb.extBut b o (Nat.ne_of_lt (Heap.lt_size e)) (Heap.get?_push_of_some _ e)
  have J : Inv (NdefX.ncx CX P w K mg base N ⟨name, qual, params, [], scope, cl, c⟩ f A outer s H E) [] (NdefX.startF N vs ws) H { s with heap := h1, toks := s.toks + (ps.zip us).length } := NdefX.inv_startN S hh e0 hl r C hns kp
  refine PySem.W.kla_codeExpr (wpAny_mono (hbody.run [] _ _ H Q J hq) (fun v s' h => ?_) fun e s' h => h)
  obtain ⟨x, H', J', rv, q⟩ := h
  exact ⟨x, H', J'.os, J'.bare, J'.base, J'.hok, rv, q⟩
end
/-! what is read and what is held, locked -/
def pinO : HO := .ext fun _ => True
open Classical in
noncomputable def lockX (H : Hp) (h : Heap) (ex : List Addr) : Hp := fun a => if a ∈ ex then (h.get? a).map fun o => .frz o pinO else lockH H h a
section
variable {P : Program} {w : World} {K : PySem.W.Frag} {mg : Str → Option Value} {base : Heap} {A : Around} {outer : List Env} {s : Shared} {H : Hp} {h : Heap} {ex : List Addr}
theorem lockX_of {a : Addr} (n : a ∉ ex) : lockX H h ex a = lockH H h a := if_neg n
theorem lockX_in {a : Addr} {o : Obj} (m : a ∈ ex) (e : h.get? a = some o) : lockX H h ex a = some (.frz o pinO) := by unfold lockX; rw [if_pos m, e]; rfl
theorem lockX_ok (ok : HOk P w H h) : HOk P w (lockX H h ex) h := fun a u e => by
  unfold lockX at e
  split at e
  · obtain ⟨o, h1, rfl⟩ := Option.map_eq_some_iff.mp e
    exact ⟨h1, trivial, ⟨o, h1⟩, fun _ _ _ _ => trivial⟩
  · obtain ⟨o, v, rfl, h1, k⟩ := lock_frz e
    obtain ⟨x1, x2⟩ := lock_ok ok a _ e
    exact ⟨x1, plain_ok k x2⟩
theorem lockX_rd {a : Addr} {v : HO} (ok : HOk P w H h) (hx : ∀ b ∈ ex, H b = none) (k : (∃ k, v = .dK k) ∨ ∃ x, v = .tup x) (e : Rd H a v) : Rd (lockX H h ex) a v := by
  have n : a ∉ ex := fun z => by
    have q := hx a z
    rcases e with e | ⟨_, e⟩ <;> (rw [q] at e; cases e)
  have r := lock_rd ok k e
  unfold Rd at r ⊢
  rw [lockX_of n]
  exact r
theorem lockX_tup {a : Addr} {xs : List V} (ok : HOk P w H h) (hx : ∀ b ∈ ex, H b = none) (e : SqT K H a xs) : SqT K (lockX H h ex) a xs := by
  rcases e with e | e
  · exact .inl (lockX_rd ok hx (.inr ⟨xs, rfl⟩) e)
  · exact .inr e
theorem lockX_env (e : Env0 P w K mg base A outer s H) (hb : ∀ b ∈ ex, base.get? b = none) (hf : ∀ b ∈ frs outer, b ∉ ex) : Env0 P w K mg base A outer s (lockX H s.heap ex) := by
  have no : ∀ b o, base.get? b = some o → b ∉ ex := fun b o q z => by rw [hb b z] at q; cases q
  exact ⟨e.frames, e.mod, fun b o q => ⟨(e.bs b o q).1, by rw [lockX_of (no b o q)]; exact lock_none (e.bs b o q).2⟩, e.bsz, e.funs, fun b q => by rw [lockX_of (hf b q)]; exact lock_none (e.frf b q), lockX_ok e.hok, e.bare⟩
/-- behind a call that saw all locked: what stood stands -/
theorem lockX_back {H' : Hp} {fs : List Addr} {h' : Heap} (ok : HOk P w H h) (un : Un fs [] (lockX H h ex) H' h h') (ok' : HOk P w H' h') {b : Addr} {o : Obj} (e : h.get? b = some o) (hf : b ∉ fs) : h'.get? b = some o := by
  cases q : lockX H h ex b with
  | none => exact un.keep b o e q hf (by simp)
  | some u =>
    have r : ∃ v, u = .frz o v := by
      by_cases m : b ∈ ex
      · rw [lockX_in m e] at q; cases q; exact ⟨_, rfl⟩
      · rw [lockX_of m] at q
        obtain ⟨o', v, rfl, _⟩ := lock_frz q
        have r := lock_raw ok q
        rw [e] at r
        cases r
        exact ⟨_, rfl⟩
    obtain ⟨v, rfl⟩ := r
    exact (ok' b _ (un.frzs b _ _ q)).1
end
/-! (d[name][0], name) -/
def tKey (K : PySem.W.Frag) : TE := tTup (tCons (tOp (rIxT K) (tDGet (tVar 1) (tVar 0)) (tC (.int 0))) (tCons (tVar 0) tNil))
theorem pe_key {X : Cx} {rd nm : Str} {p1 p2 p3 p4 p5 p6 p7 : Pos} {k0 : Nat} {x1} (h0 : X.N[0]? = some nm) (h1 : X.N[1]? = some rd) (v0 : Vis X.env.scope nm) (v1 : Vis X.env.scope rd) (hu : X.A.units + 1 < cLine) (d0 : (nm == ("__debug__" : Str)) = false) (d1 : (rd == ("__debug__" : Str)) = false) (c0 : (nm == ("__classdict__" : Str)) = false) (c1 : (rd == ("__classdict__" : Str)) = false) :
    PE X (.Tuple [.Subscript (.Subscript (.Name rd p1) (.Name nm p2) p3) (.Constant (.int 0) k0 p4) p5, .Name nm p6] x1 p7) (tKey X.K) :=
  pe_tup (pa_cons (pe_ix ix_tup (pe_dget hu (pe_var h1 v1 d1 c1) (pe_var h0 v0 d0 c0) fun _ _ => rfl) pe_int fun _ _ => rfl) (pa_cons (pe_var h0 v0 d0 c0) pa_nil))
/-- what stands in the dict at a: x has the number n -/
def NumAt (K : PySem.W.Frag) (H : Hp) (a : Addr) (x : Str) (n : Int) : Prop := ∃ (kvs : List (Key × V)) (p : Addr) (xs : List V), Rd H a (.dK kvs) ∧ valV kvs (.inr x) = some (.ref p) ∧ SqT K H p xs ∧ atI xs 0 = some (.int n)
theorem key_does {K : PySem.W.Frag} {H : Hp} {a : Addr} {x : Str} {n : Int} {rest : L2.St} {Q : VK} (h : NumAt K H a x n) (q : ∀ p, H p = none → Q (.ref p) (upd H p (.tup [.int n, .str x]))) : tKey K (some (.str x) :: some (.ref a) :: rest) H Q := by
  obtain ⟨kvs, p, xs, h1, h2, h3, h4⟩ := h
  exact ⟨_, rfl, _, rfl, a, .ref p, rfl, .inl ⟨kvs, .inr x, h1, rfl, h2.symm⟩, p, xs, 0, _, rfl, rfl, h3, h4, _, rfl, (show 2 ≤ sizeLine by decide), q⟩

/-! the key of an item -/
section
variable {X : Cx} {pins : List (Addr × Obj)} {σ : L2.St} {H : Hp} {s : Shared}
theorem key_call {f c a : Addr} {j k : Nat} {nm rd x : Str} {n : Int} {name qual : Str} {params : Arguments} {scope : Scope} {cl : List (Str × Addr)} {pm ctv v : Value} {ex : List Addr} {p1 p2 p3 p4 p5 p6 p7 : Pos} {k0 : Nat} {x1} {E Q : Value → Shared → Prop}
    (I : Inv X pins σ H s) (hr : L2.Room (k + 2) X.A) (S : NdefX.NScope [nm, rd] [nm] [rd] scope) (d0 : (nm == ("__debug__" : Str)) = false) (d1 : (rd == ("__debug__" : Str)) = false) (c0 : (nm == ("__classdict__" : Str)) = false) (c1 : (rd == ("__classdict__" : Str)) = false)
    (ho : s.heap.get? f = some (PySem.W.kla_obj name qual params (.Tuple [.Subscript (.Subscript (.Name rd p1) (.Name nm p2) p3) (.Constant (.int 0) k0 p4) p5, .Name nm p6] x1 p7) scope cl pm c ctv)) (hcd : s.heap.CodeRec (.ref c) qual)
    (hb : bindArgs (PySem.W.kla_fn name qual params (.Tuple [.Subscript (.Subscript (.Name rd p1) (.Name nm p2) p3) (.Constant (.int 0) k0 p4) p5, .Name nm p6] x1 p7) scope cl pm (.ref c) ctv) ⟨[v], []⟩ = pure [(nm, v)]) (cp : NdefX.Caps X cl [rd] [j]) (hσ : σ[j]? = some (some (.ref a))) (hn : NumAt X.K H a x n) (rv : RelV (.str x) v)
    (e1 : ∀ b ∈ ex, H b = none) (e2 : ∀ b ∈ ex, ∃ o, s.heap.get? b = some o) (e3 : ∀ b ∈ ex, X.base.get? b = none) (e4 : ∀ b ∈ frs X.stack, b ∉ ex) (e5 : ∀ y d, X.env.cells.lookup y = some d → d ∉ ex)
    (q : ∀ (p : Addr) (s' : Shared), Inv X pins σ H s' → (∀ b o, s.heap.get? b = some o → b ∉ frs X.stack → s'.heap.get? b = some o) → p ∉ ex → p ∉ frs X.stack → PairAt s'.heap (.ref p) (n, x.cps.toList) → Q (.ref p) s') :
    wpAny (model X.prog X.w) X.A.in1 (call (.ref f) [v]) Q E s := by
  have e0 : Env0 X.prog X.w X.K X.mg X.base X.A.in1 X.stack s (lockX H s.heap ex) := lockX_env I.env0.in1 e3 e4
  have h1 : L2.Room (k + 1) X.A.in1 := hr.in1
  have C0 := NdefX.cells_of I cp
  have C : NdefX.CellsAt cl [rd] [some (.ref a)] s.heap (lockX H s.heap ex) := by
    have ew : [j].map (NdefX.slotAt σ) = [some (.ref a)] := by simp [NdefX.slotAt_of hσ]
    rw [ew] at C0
    exact ⟨C0.len, fun y d e => ⟨by rw [lockX_of (e5 y d (cp.sub y d e))]; exact lock_none (C0.all y d e).1, (C0.all y d e).2⟩, C0.inj, C0.has⟩
  have nm1 : scope.names.lookup nm = some .local := S.par nm (by simp)
  have rd1 : scope.names.lookup rd = some .free := S.frk rd (by simp)
  have fr_at : ∀ b ∈ frs X.stack, ∃ o, s.heap.get? b = some o := fun b hb => by
    obtain ⟨_, o, z, _⟩ := I.env0.funs.mem hb
    exact ⟨o, z⟩
  refine wpAny_call (codeAny_mono (lam_callH (CX := C8.CX0) (E := C8.E0) (N := [nm, rd]) (ps := [nm]) (fr := [rd]) (vs := [.str x]) (ws := [some (.ref a)]) S ho hcd h1.depth h1.hd e0 hb (.cons rv .nil) rfl C
    (pe_key (X := NdefX.ncx C8.CX0 X.prog X.w X.K X.mg X.base [nm, rd] ⟨name, qual, params, [], scope, cl, c⟩ f X.A.in1 X.stack s (lockX H s.heap ex) C8.E0) rfl rfl (.inl nm1) (.inr (.inr rd1)) (by have := (h1.deeper (NdefX.envF ⟨name, qual, params, [], scope, cl, c⟩ f s.heap.objs.size)).units; show (X.A.in1.deeper _).units + 1 < cLine; omega) d0 d1 c0 c1)
    (key_does (Q := fun v H' => ∃ p, v = .ref p ∧ lockX H s.heap ex p = none ∧ H' p = some (.tup [.int n, .str x])) (rest := []) (n := n) ?_ fun p hp => ⟨p, rfl, hp, upd_same⟩)) fun r s' hq => ?_)
  · obtain ⟨kvs, p, xs, g1, g2, g3, g4⟩ := hn
    exact ⟨kvs, p, xs, lockX_rd I.hok e1 (.inl ⟨kvs, rfl⟩) g1, g2, lockX_tup I.hok e1 g3, g4⟩
  · match r, hq with
    | .error e, hq => exact False.elim hq
    | .ok (.ret u), ⟨w, H', os, bare, un, hok, rw', p, e, hp, hp'⟩ =>
      subst e
      cases (show u = Value.ref p from rw')
      have back : ∀ b o, s.heap.get? b = some o → b ∉ frs X.stack → s'.heap.get? b = some o := fun b o e hf => lockX_back I.hok un hok e hf
      have J : Inv X pins σ H s' := inv_moved (ch := []) I os bare (fun b hb => by cases hb) (fun b o e hf _ => back b o e hf) (fun b o e hf _ => un.slot b o e (e0.frf b hf) hf (by simp)) (fun b hb => by cases hb)
      have nex : p ∉ ex := fun z => by
        obtain ⟨o, ho⟩ := e2 p z
        rw [lockX_in z ho] at hp; cases hp
      have nfr : p ∉ frs X.stack := fun z => by
        obtain ⟨o, ho⟩ := fr_at p z
        rw [un.free p o ho (e0.frf p z) (by simp)] at hp'; cases hp'
      obtain ⟨_, its, rr, o, g1, g2, m, g3⟩ := hok p _ hp'
      refine q p s' J back nex nfr ?_
      cases rr with
      | cons r1 rr =>
        cases rr with
        | cons r2 rr =>
          cases rr
          obtain ⟨t, rfl⟩ := r1
          obtain ⟨u, rfl⟩ := r2
          exact ⟨p, o, m, t, u, x, rfl, g1, g2, g3, rfl⟩
    | .ok .next, hq => exact False.elim hq
    | .ok .brk, hq => exact False.elim hq
    | .ok .cont, hq => exact False.elim hq
end
end Mi
set_option Elab.async false
set_option linter.all false
set_option maxRecDepth 100000
set_option maxHeartbeats 4000000
namespace Mi
open PySem PySem.Spec PyProof.Rows L2
/-! a list is walked -/
theorem walks_list {prog : Program} {w : World} {A : Around} (hh : A.handled = none) {I l : Addr} {items : Array Value} (ne : l ≠ I) :
    WalksS prog w A I [I, l] [I] (fun a b => a = b) items.size (fun i v => items[i]? = some v) (fun i s => s.heap.IsListIter I l i ∧ s.heap.IsList l items) where
  sub := fun b hb => by simp at hb; simp [hb]
  grefl := fun _ => rfl
  gtrans := fun _ _ _ x y => x.trans y
  frame := fun i s h' tk st _ k => by
    obtain ⟨⟨o, ho, r⟩, o2, ho2, r2⟩ := st
    exact ⟨⟨o, k I (by simp) o ho, r⟩, o2, k l (by simp) o2 ho2, r2⟩
  item := fun i s Q E hi st q => by
    obtain ⟨it, hl⟩ := st
    refine wpAny_pyNext_list_item it hl (Array.getElem?_eq_getElem hi) fun h' it' sb => ?_
    refine q _ _ (Array.getElem?_eq_getElem hi) ⟨it', hl.extBut sb.extBut ne⟩ ⟨fun b o hb e => sb.extBut b o (by simpa using hb) e, rfl, rfl, rfl, Nat.le_refl _⟩
  done := fun s Q E st q => by
    obtain ⟨it, hl⟩ := st
    exact wpAny_pyNext_list_end hh it hl (by simp) fun h' sb => q _ ⟨fun b o hb e => sb b o (by simpa using hb) e, rfl, rfl, rfl, Nat.le_refl _⟩
  self := fun i s Q E st q => wpAny_pyIter_listiter st.1 q
/-! the least by a key -/
def keyAt (nu : Str → Int) (xs : List Str) (i : Nat) : Pr := match xs[i]? with
  | some x => (nu x, x.cps.toList)
  | none => (0, [])
def bestAt (nu : Str → Int) (xs : List Str) : Nat := argBest (fun i j => ltP (keyAt nu xs i) (keyAt nu xs j)) (xs.length - 1)
/-- P grew, or nothing did -/
def GrowM (H : Hp) (P : Addr) (ps : Array Value) (nm : Str) (H1 : Hp) : Prop := H1 = H ∨ ∃ d, Grown H P ps d nm H1
theorem GrowM.keep {H H1 : Hp} {P : Addr} {ps : Array Value} {nm : Str} (g : GrowM H P ps nm H1) (hP : H P = some (.tbl ps)) {a : Addr} {o : HO} (e : H a = some o) (n : ∀ ps, o ≠ .tbl ps) : H1 a = some o := by
  rcases g with rfl | ⟨d, nw, more, rfl, _⟩
  · exact e
  · have n1 : a ≠ d := fun z => by rw [z, nw] at e; cases e
    have n2 : a ≠ P := fun z => by rw [z, hP] at e; exact n ps (Option.some.inj e).symm
    rw [upd_ne n1, upd_ne n2]; exact e
theorem GrowM.rd {H H1 : Hp} {P : Addr} {ps : Array Value} {nm : Str} (g : GrowM H P ps nm H1) (hP : H P = some (.tbl ps)) {a : Addr} {o : HO} (e : Rd H a o) (n : ∀ ps, o ≠ .tbl ps) : Rd H1 a o := by
  rcases e with e | ⟨x, e⟩
  · exact .inl (g.keep hP e n)
  · exact .inr ⟨x, g.keep hP e fun _ z => by cases z⟩
theorem GrowM.sqL {K : PySem.W.Frag} {H H1 : Hp} {P : Addr} {ps : Array Value} {nm : Str} (g : GrowM H P ps nm H1) (hP : H P = some (.tbl ps)) {a : Addr} {xs : List V} (e : SqL K H a xs) : SqL K H1 a xs := by
  rcases e with e | e
  · exact .inl (g.rd hP e fun _ z => by cases z)
  · exact .inr e
theorem GrowM.sqT {K : PySem.W.Frag} {H H1 : Hp} {P : Addr} {ps : Array Value} {nm : Str} (g : GrowM H P ps nm H1) (hP : H P = some (.tbl ps)) {a : Addr} {xs : List V} (e : SqT K H a xs) : SqT K H1 a xs := by
  rcases e with e | e
  · exact .inl (g.rd hP e fun _ z => by cases z)
  · exact .inr e
theorem GrowM.num {K : PySem.W.Frag} {H H1 : Hp} {P : Addr} {ps : Array Value} {nm : Str} (g : GrowM H P ps nm H1) (hP : H P = some (.tbl ps)) {a : Addr} {x : Str} {n : Int} (e : NumAt K H a x n) : NumAt K H1 a x n := by
  obtain ⟨kvs, p, xs, h1, h2, h3, h4⟩ := e
  exact ⟨kvs, p, xs, g.rd hP h1 (fun _ z => by cases z), h2, g.sqT hP h3, h4⟩
section
variable {X : Cx} {pins : List (Addr × Obj)} {σ : L2.St} {H : Hp} {s : Shared}
theorem min_key {f c a l : Addr} {j k : Nat} {nm rd : Str} {xs : List Str} {nu : Str → Int} {name qual : Str} {params : Arguments} {scope : Scope} {cl : List (Str × Addr)} {pm ctv : Value} {p1 p2 p3 p4 p5 p6 p7 : Pos} {k0 : Nat} {x1} {E Q : Value → Shared → Prop}
    (I : Inv X pins σ H s) (hr : L2.Room (k + 2) X.A) (S : NdefX.NScope [nm, rd] [nm] [rd] scope) (d0 : (nm == ("__debug__" : Str)) = false) (d1 : (rd == ("__debug__" : Str)) = false) (c0 : (nm == ("__classdict__" : Str)) = false) (c1 : (rd == ("__classdict__" : Str)) = false)
    (ho : s.heap.get? f = some (PySem.W.kla_obj name qual params (.Tuple [.Subscript (.Subscript (.Name rd p1) (.Name nm p2) p3) (.Constant (.int 0) k0 p4) p5, .Name nm p6] x1 p7) scope cl pm c ctv)) (hf : f ∉ frs X.stack) (hcd : H c = some (LamX.CodeO c qual))
    (hb : ∀ v, bindArgs (PySem.W.kla_fn name qual params (.Tuple [.Subscript (.Subscript (.Name rd p1) (.Name nm p2) p3) (.Constant (.int 0) k0 p4) p5, .Name nm p6] x1 p7) scope cl pm (.ref c) ctv) ⟨[v], []⟩ = pure [(nm, v)]) (cp : NdefX.Caps X cl [rd] [j]) (hσ : σ[j]? = some (some (.ref a)))
    (hl : SqL X.K H l (xs.map V.str)) (ne : xs ≠ []) (hn : ∀ x ∈ xs, NumAt X.K H a x (nu x))
    (q : ∀ (x : Str) (v : Value) (s' : Shared), xs[bestAt nu xs]? = some x → RelV (.str x) v → Inv X pins σ H s' → Q v s') :
    wpAny (model X.prog X.w) X.A (call (.builtin "min") [.ref l] [(Str.ofString "key", .ref f)]) Q E s := by
  obtain ⟨its, rv, hpl, _⟩ := I.list hl
  have hlen := rv.length
  rw [List.length_map] at hlen
  have hlist : s.heap.IsList l its.toArray := by
    obtain ⟨o, n, h1, h2, h3, h4⟩ := hpl
    exact ⟨o, h1, h2, n, h4⟩
  obtain ⟨L, hL⟩ : ∃ L : Nat, s.heap.objs.size = L := ⟨_, rfl⟩
  have lsz : l < L := by rw [← hL]; obtain ⟨o, h1, _⟩ := hlist; exact Heap.lt_size h1
  have fsz : f < L := by rw [← hL]; exact Heap.lt_size ho
  refine call_min_walkK (wpAny_pyIter_list hlist ?_)
  rw [hL]
  let s2 : Shared := { s with heap := s.heap.push { cls := .type "list_iterator", data := .fields #[.ref l, .int 0 0] } }
  have sz2 : s2.heap.objs.size = L + 1 := by show (s.heap.push _).objs.size = _; rw [← hL]; simp [Heap.push]
  have I2 : Inv X pins σ H s2 := I.kept fun b u e => Heap.get?_push_of_some _ e
  have new : ∀ b ∈ [L + 1, L], H b = none ∧ X.base.get? b = none ∧ b ∉ frs X.stack ∧ (b ∈ X.ex ∨ X.s_0.heap.objs.size ≤ b) ∧ b ≠ X.env.locals ∧ (∀ x c, X.env.cells.lookup x = some c → c ≠ b) ∧ (∀ p ∈ X.pn ++ pins, p.1 ≠ b) ∧ b ≠ l ∧ b ≠ f := by
    intro b hb
    have ge : L ≤ b := by simp at hb; omega
    have ge' : s.heap.objs.size ≤ b := by omega
    have old : ∀ d o, s.heap.get? d = some o → d ≠ b := fun d o e => Nat.ne_of_lt (Nat.lt_of_lt_of_le (Heap.lt_size e) ge')
    refine ⟨I.hok.fresh ge', ?_, fun z => ?_, .inr (Nat.le_trans I.sz ge'), ?_, fun x c e => ?_, fun p hp => old p.1 _ (I.pin p hp).1, Nat.ne_of_gt (Nat.lt_of_lt_of_le lsz ge), Nat.ne_of_gt (Nat.lt_of_lt_of_le fsz ge)⟩
    · cases e : X.base.get? b with
      | none => rfl
      | some o => exact absurd rfl (old b o (I.bk b o e))
    · obtain ⟨_, o, z, _⟩ := I.env0.funs.mem z
      exact old b o z rfl
    · exact Nat.ne_of_gt (Nat.lt_of_lt_of_le I.lt ge')
    · obtain ⟨v, o, e1, _⟩ := I.cell x c e
      exact old c o e1
  have lfr : l ∉ frs X.stack := fun z => by
    rcases hl with hl | ⟨o, _, _, hk, _⟩
    · have := I.env0.frf l z
      rcases hl with e | ⟨_, e⟩ <;> (rw [this] at e; cases e)
    · have e1 := (I.env0.funs.mem z).1
      rw [I.ok.mod.kin l o hk] at e1
      cases e1
  refine ⟨L, [L, l], [L], fun a b => a = b, its.toArray.size, _, _, fun s' => Inv X pins σ H s' ∧ s'.heap.get? f = s.heap.get? f, fun i kv s' => ∃ p, kv = .ref p ∧ p ∉ [L + 1, L] ∧ p ∉ frs X.stack ∧ PairAt s'.heap (.ref p) (keyAt nu xs i), fun i j => ltP (keyAt nu xs i) (keyAt nu xs j), rfl,
    walks_list (A := X.A.in1) hr.in1.hd (Nat.ne_of_lt lsz), ⟨?_, ?_⟩, fun b hb => ?_, ?_, ?_, ⟨I2, ?_⟩, fun v s' hv J => ?_⟩
  · rw [← hL]; exact ⟨_, Heap.get?_push_size _ rfl, rfl, rfl⟩
  · exact hlist.push _
  · show b < s2.heap.objs.size
    rw [sz2]; simp at hb
    rcases hb with rfl | rfl
    · exact Nat.lt_succ_self _
    · exact Nat.lt_succ_of_lt lsz
  · rw [List.size_toArray, ← hlen]
    exact List.length_pos_iff.mpr ne
  · show KeyRun X.prog X.w X.A.in1 (.ref f) .Lt s2.heap.objs.size _ _ _ _ _ _ _ _
    rw [sz2]
    refine ⟨?_, ?_, ?_, ?_⟩
    · rintro s1 s' ⟨J, hf1⟩ m
      refine ⟨inv_moved (ch := [L + 1, L]) J m.os (by rw [← (show s1.gens = s'.gens from m.gens)]; exact J.bare) (fun b hb => (new b hb).1) (fun b o e _ hb => m.heap b o hb e) (fun b o e _ hb => ⟨o.slots, m.heap b o hb e⟩) (fun b hb => ⟨(new b hb).2.2.2.1, (new b hb).2.2.2.2.1, (new b hb).2.2.2.2.2.1, (new b hb).2.2.2.2.2.2.1⟩), ?_⟩
      rw [ho] at hf1 ⊢
      exact m.heap f _ (fun z => (new f z).2.2.2.2.2.2.2.2 rfl) hf1
    · rintro i kv s1 s' ⟨p, rfl, h1, h2, h3⟩ m
      refine ⟨p, rfl, h1, h2, ?_⟩
      obtain ⟨p', o, n, t, u, x, e, e1, e2⟩ := h3
      cases e
      exact ⟨p, o, n, t, u, x, rfl, m.heap p o h1 e1, e2⟩
    · intro i v s1 o Q1 E1 hi hv hJ hst hS q1
      obtain ⟨J, hf1⟩ := hJ
      have hi' : i < xs.length := by rw [List.size_toArray, ← hlen] at hi; exact hi
      obtain ⟨x, hx⟩ : ∃ x, xs[i]? = some x := ⟨_, List.getElem?_eq_getElem hi'⟩
      have rx : RelV (.str x) v := by
        have e1 : (xs.map V.str)[i]? = some (.str x) := by rw [List.getElem?_map, hx]; rfl
        obtain ⟨u, hu, ru⟩ := rv.get e1
        have : its[i]? = some v := by simpa using hv
        rw [hu] at this; cases this
        exact ru
      refine key_call (k := k) (ex := [L + 1, L]) J hr S d0 d1 c0 c1 (hf1.trans ho) (NdefX.codeO_at J.hok hcd) (hb v) cp hσ (hn x (List.mem_of_getElem? hx)) rx (fun b hb => (new b hb).1) ?_ (fun b hb => (new b hb).2.1) (fun b hb z => (new b z).2.2.1 hb) (fun y d e z => (new d z).2.2.2.2.2.1 y d e rfl) fun p s' J' back h1 h2 h3 => ?_
      · intro b hb
        simp at hb
        rcases hb with rfl | rfl
        · exact ⟨o, hS⟩
        · obtain ⟨⟨o', h', _⟩, _⟩ := hst; exact ⟨o', h'⟩
      · refine q1 (.ref p) s' ⟨J', ?_⟩ ?_ (back _ _ hS (new _ (by simp)).2.2.1) ⟨p, rfl, h1, h2, ?_⟩ ?_
        · rw [ho] at hf1 ⊢
          exact back f _ hf1 hf
        · obtain ⟨⟨o', h', r'⟩, o2, h2', r2⟩ := hst
          exact ⟨⟨o', back _ _ h' (new _ (by simp)).2.2.1, r'⟩, o2, back _ _ h2' lfr, r2⟩
        · have : keyAt nu xs i = (nu x, x.cps.toList) := by unfold keyAt; rw [hx]
          rw [this]; exact h3
        · rintro j' kv' ⟨p', rfl, g1, g2, g3⟩
          refine ⟨p', rfl, g1, g2, ?_⟩
          obtain ⟨p'', o', n, t, u, x', e, e1, e2⟩ := g3
          cases e
          exact ⟨p', o', n, t, u, x', rfl, back _ _ e1 g2, e2⟩
    · rintro i j' ki kj s1 Q1 E1 hJ ⟨p, rfl, _, _, h3⟩ ⟨p', rfl, _, _, g3⟩ q1
      exact lt_pairs h3 g3 hr.in1.units0 q1
  · show (s.heap.push _).get? f = _
    rw [ho]
    exact Heap.get?_push_of_some _ ho
  · have e : its.toArray.size - 1 = xs.length - 1 := by rw [List.size_toArray, ← hlen]
    rw [e] at hv
    have hv' : its[bestAt nu xs]? = some v := by
      have : its.toArray[argBest (fun i j => ltP (keyAt nu xs i) (keyAt nu xs j)) (xs.length - 1)]? = some v := hv
      simpa [bestAt] using this
    have hlt : bestAt nu xs < xs.length := by rw [hlen]; exact (List.getElem?_eq_some_iff.mp hv').1
    obtain ⟨x, hx⟩ : ∃ x, xs[bestAt nu xs]? = some x := ⟨_, List.getElem?_eq_getElem hlt⟩
    have e1 : (xs.map V.str)[bestAt nu xs]? = some (.str x) := by rw [List.getElem?_map, hx]; rfl
    obtain ⟨u, hu, ru⟩ := rv.get e1
    rw [hu] at hv'; cases hv'
    exact q x _ s' hx ru J.1
end
end Mi
set_option Elab.async false
set_option linter.all false
set_option maxRecDepth 100000
set_option maxHeartbeats 4000000
namespace Mi
open PySem PySem.Spec PyProof.Rows L2
/-- min(e, key=lambda nm: (rd[nm][0], nm)) -/
def MinKey (K : PySem.W.Frag) (P : Addr) (j : Nat) (q : Str) (σ : L2.St) (Q : VK) (x : V) (H1 : Hp) : Prop := ∃ (l a : Addr) (ps : Array Value) (xs : List Str) (nu : Str → Int), x = .ref l ∧ SqL K H1 l (xs.map V.str) ∧ xs ≠ [] ∧ σ[j]? = some (some (.ref a)) ∧
  (∀ x ∈ xs, NumAt K H1 a x (nu x)) ∧ H1 P = some (.tbl ps) ∧ TriplesOk ps.toList ∧ (∀ (pos : Pos) (cv : Value), codeAmong pos ps.toList = some cv → ∃ d, cv = .ref d ∧ H1 d = some (LamX.CodeO d q)) ∧
  ∀ (x : Str) (H2 : Hp), xs[bestAt nu xs]? = some x → GrowM H1 P ps q H2 → Q (.str x) H2
def tMinKey (K : PySem.W.Frag) (P : Addr) (j : Nat) (q : Str) (te : TE) : TE := fun σ H Q => te σ H (MinKey K P j q σ Q)
def one1 (f : V → Hp → Prop) : List V → Hp → Prop := fun vs H => match vs with
  | [x] => f x H
  | _ => False
section
variable {X : Cx} {e : Expr} {te : TE}
theorem pe_minKey {c P : Addr} {j k : Nat} {nm rd : Str} {params : Arguments} {scope : Scope} {p0 p1 p2 p3 p4 p5 p6 p7 lpos kpos pos : Pos} {k0 : Nat} {x1} (TB : LamX.TabB X.base X.mg c P) (hcode : X.env.code = .ref c) (hdef : defaultsOf params X.env = ([], [])) (hr : L2.Room (k + 2) X.A)
    (S : NdefX.NScope [nm, rd] [nm] [rd] scope) (d0 : (nm == ("__debug__" : Str)) = false) (d1 : (rd == ("__debug__" : Str)) = false) (c0 : (nm == ("__classdict__" : Str)) = false) (c1 : (rd == ("__classdict__" : Str)) = false)
    (hfree : ∀ y ∈ scope.names, y.2 = .free → X.env.scope.names.lookup y.1 = some .cell ∨ X.env.scope.names.lookup y.1 = some .free) (hfr : ∀ y ∈ [rd], (y, NameKind.free) ∈ scope.names) (hN : X.N[j]? = some rd)
    (hb : ∀ (q : Str) (cl : List (Str × Addr)) (pm cv ctv v : Value), bindArgs (PySem.W.kla_fn "<lambda>" q params (.Tuple [.Subscript (.Subscript (.Name rd p1) (.Name nm p2) p3) (.Constant (.int 0) k0 p4) p5, .Name nm p6] x1 p7) scope cl pm cv ctv) ⟨[v], []⟩ = pure [(nm, v)])
    (he : PE X e te) (hm : X.mg "min" = none) (hg : Gl X "min") (hs : backTo pos (starEach [e] X.env) = (false, eval e X.env) :: backTo pos (starEach [] X.env)) (hpl : (backTo pos (starEach [e] X.env)).any (·.1) = false) (hst : starEach [e] X.env = (false, eval e X.env) :: starEach [] X.env) :
    PE X (.Call (.Name "min" p0) [e] [⟨some "key", .Lambda params (.Tuple [.Subscript (.Subscript (.Name rd p1) (.Name nm p2) p3) (.Constant (.int 0) k0 p4) p5, .Name nm p6] x1 p7) scope lpos, kpos⟩] pos) (tMinKey X.K P j (X.env.qual ++ "<lambda>") te) := by
  refine ⟨fun pins s σ H Q I h => ?_⟩
  refine wpAny_Call_Name_kw (ld_blt I hg hm PyProof.Rows.boot_min ?_ (by decide) (by decide))
  refine PyProof.Rows.callWith_kw (thn ((pa_cons he pa_nil hst).run pos pins s σ H (one1 (MinKey X.K P j (X.env.qual ++ "<lambda>") σ Q)) I h) fun us s1 ⟨vs, H1, I1, r1, q1⟩ => ?_) hs hpl rfl rfl
  match vs, q1 with
  | [_], ⟨l, a, ps, xs, nu, rfl, hl, ne, hσ, hn, hP, ht, ha, q⟩ =>
    cases r1 with
    | cons r1 rr =>
      cases rr
      cases r1
      show wpAny _ _ (evalAll [do let v ← eval _ X.env; standAt pos; pure v]) _ _ s1
      refine wpAny_evalAll_cons (wpAny_bind (lam_mk I1 TB hcode hP ht ha hdef (fun y hy e => (hfree y hy e).elim (fun z => I1.ok.has _ (.inl z)) fun z => I1.ok.has _ (.inr z)) fun f d pm ctv H2 s2 I2 gr ho _ hf hd => wpAny_bind (wpAny_standAt (wpAny_pure (wpAny_evalAll_nil ?_)))))
      have g : GrowM H1 P ps (X.env.qual ++ "<lambda>") H2 := gr.imp id fun z => ⟨d, z⟩
      exact min_key (k := k) I2 hr S d0 d1 c0 c1 ho hf hd (hb _ _ _ _ _) (NdefX.Caps.made (js := [j]) I2.ok hfree hfr (by simp [hN])) hσ (g.sqL hP hl) ne (fun x hx => g.num hP (hn x hx)) fun x v s' hx rx J => ⟨.str x, H2, J, rx, q x H2 hx g⟩
end
end Mi
set_option Elab.async false
set_option linter.all false
set_option maxRecDepth 100000
set_option maxHeartbeats 4000000
namespace Mi
open PySem PySem.Spec PyProof.Rows L2
/-! the table grows -/
section
variable {R : RC} {F : FI} {G : Gh} {H : Hp} {s : MS} {σ : L2.St}
theorem Rel.tabGrow {P : Addr} {q : Str} {ps ps' : Array Value} (h : Rel R F G s σ H) (ht : R.tabs = [(P, q)]) (g : G P = some .tab) (hP : H P = some (.tbl ps)) (ok : TriplesOk ps'.toList)
    (cs : ∀ (pos : Pos) (cv : Value), codeAmong pos ps'.toList = some cv → ∃ c, cv = .ref c ∧ G c = some .frz ∧ H c = some (LamX.CodeO c q)) : Rel R F G s σ (upd H P (.tbl ps')) ∧ Evo EvT G H G (upd H P (.tbl ps')) := by
  have nt : NT H P := ntO hP
  have m : Mo G H G (upd H P (.tbl ps')) := Mo.upd (by rw [g]; simp) nt
  have ne : ∀ b r, G b = some r → r ≠ .tab → b ≠ P := fun b r e n z => by rw [z, g] at e; exact n (Option.some.inj e).symm
  have ev : ∀ {p}, Evo p G H G (upd H P (.tbl ps')) := Evo.updRole (by rw [g]; simp) (by rw [g]; simp) (fun x u z => by rw [hP] at z; cases z) nt
  refine ⟨⟨⟨fun n o e => ?_, h.hp.uniq, h.hp.lt, fun b n f e => ?_, fun a r e => ?_, ⟨fun t ht' => ?_, h.hp.tabs.of⟩⟩, h.len, fun i sv e => ?_, h.since.trans ev, h.base, h.le, h.ent⟩, ev⟩
  · obtain ⟨a, ga, r⟩ := h.hp.objs n o e
    exact ⟨a, ga, r.mono m (upd_ne (ne a _ ga (by intro z; cases z))) fun b f gb => ⟨gb, upd_ne (ne b _ gb (by intro z; cases z))⟩⟩
  · obtain ⟨a, c, fs, dx, hfs, nm, ga, hn, ha, r⟩ := h.hp.fldOk b n f e
    exact ⟨a, c, fs, dx, hfs, nm, ga, hn, (upd_ne (ne a _ ga (by intro z; cases z))).trans ha, r⟩
  · by_cases z : a = P
    · subst z; exact ⟨_, upd_same⟩
    · obtain ⟨o, ho⟩ := h.hp.live a r e; exact ⟨o, (upd_ne z).trans ho⟩
  · rw [ht] at ht'
    obtain rfl : t = (P, q) := by simpa using ht'
    refine ⟨g, ps', upd_same, ok, fun pos cv e => ?_⟩
    obtain ⟨c, e1, gc, hc⟩ := cs pos cv e
    exact ⟨c, e1, gc, (upd_ne (ne c _ gc (by intro z; cases z))).trans hc⟩
  · obtain ⟨v, q1, k⟩ := h.env i sv e
    refine ⟨v, q1, ?_⟩
    cases sv with
    | v x => exact VR.mono m x v k
    | own c =>
      obtain ⟨b, q2, gb, k⟩ := k
      exact ⟨b, q2, gb, k.mono m (upd_ne (ne b _ gb (by intro z; cases z)))⟩
/-- a code object more, or none -/
theorem Rel.grown {P : Addr} {q : Str} {ps : Array Value} {H2 : Hp} {G0 : Gh} {H0 : Hp} (w : Way R F σ G0 H0 G H s) (ht : R.tabs = [(P, q)]) (hP : H P = some (.tbl ps)) (gr : GrowM H P ps q H2) : ∃ G2, Rel R F G2 s σ H2 ∧ Evo EvT G0 H0 G2 H2 := by
  rcases gr with rfl | ⟨d, nw, more, rfl, ok, cs⟩
  · exact ⟨G, w.rel, w.evo⟩
  · obtain ⟨g, ps', hP', _, cs0⟩ := w.rel.hp.tabs.at_ (P, q) (by rw [ht]; simp)
    rw [hP] at hP'
    obtain rfl : ps = ps' := by injection hP' with z; injection z
    have gd := w.rel.noRole nw
    have hH := fresh_back w.evo nw
    have nP : d ≠ P := fun z => by rw [z, hP] at nw; cases nw
    have r1 := (w.rel.alloc (o := LamX.CodeO d q) nw).setr gd ⟨_, upd_same⟩ (fresh_back w.st hH) (.inl rfl)
    have e1 := (w.evo.updNew (o := LamX.CodeO d q) hH gd).setr (r := some .frz) hH gd
    have := r1.tabGrow (ps := ps) (ps' := ps ++ more) ht (by rw [setG_ne (Ne.symm nP)]; exact g) (by rw [upd_ne (Ne.symm nP)]; exact hP) ok (fun pos cv e => by
      rcases cs pos cv e with e | rfl
      · obtain ⟨c, z, gc, hc⟩ := cs0 pos cv e
        have : c ≠ d := fun z => by rw [z, nw] at hc; cases hc
        exact ⟨c, z, by rw [setG_ne this]; exact gc, by rw [upd_ne this]; exact hc⟩
      · exact ⟨d, rfl, setG_same, upd_same⟩)
    have sw : upd (upd H d (LamX.CodeO d q)) P (.tbl (ps ++ more)) = upd (upd H P (.tbl (ps ++ more))) d (LamX.CodeO d q) := by
      funext a
      by_cases z : a = d
      · subst z; rw [upd_ne nP, upd_same, upd_same]
      · by_cases z2 : a = P
        · subst z2; rw [upd_same, upd_ne z, upd_same]
        · rw [upd_ne z2, upd_ne z, upd_ne z, upd_ne z2]
    rw [sw] at this
    exact ⟨_, this.1, e1.trans this.2⟩
end
/-! the least by number and name -/
def strsM : List MV → Option (List (List Nat))
  | [] => some []
  | .str z :: r => (strsM r).map (z :: ·)
  | _ :: _ => none
def numM (kvs : List (MV × MV)) (z : List Nat) : Option Int := match getK kvs (.str z) with
  | some (.tup (.int n :: _)) => some n
  | _ => none
def stepP (b p : Pr) : Pr := if ltP p b = true then p else b
def keysM (kvs : List (MV × MV)) : List (List Nat) → Option (List Pr)
  | [] => some []
  | z :: r => match numM kvs z, keysM kvs r with
    | some n, some t => some ((n, z) :: t)
    | _, _ => none
def leastM (kvs : List (MV × MV)) (zs : List (List Nat)) : Option (List Nat) := match keysM kvs zs with
  | some (p :: r) => some (r.foldl stepP p).2
  | _ => none
theorem strsM_V {K : PySem.W.Frag} {G : Gh} {H : Hp} : ∀ {xs : List MV} {vs : List V} {zs : List (List Nat)}, VRs K G H xs vs → strsM xs = some zs → vs = (zs.map fun z => (⟨z.toArray⟩ : Str)).map V.str
  | [], _, zs, h, e => by unfold VRs at h; subst h; cases e; rfl
  | x :: xs, _, zs, h, e => by
    obtain ⟨v, r, rfl, h1, h2⟩ := h.inv
    cases x with
    | str z =>
      simp only [strsM, Option.map_eq_some_iff] at e
      obtain ⟨t, e, rfl⟩ := e
      rw [VR.str h1, strsM_V h2 e]; rfl
    | _ => cases e
theorem keysM_len {kvs : List (MV × MV)} : ∀ {zs : List (List Nat)} {ks : List Pr}, keysM kvs zs = some ks → ks.map (·.2) = zs ∧ ∀ p ∈ ks, numM kvs p.2 = some p.1
  | [], ks, e => by cases e; exact ⟨rfl, fun _ h => by cases h⟩
  | z :: r, ks, e => by
    unfold keysM at e
    split at e
    · rename_i n t h1 h2
      cases e
      obtain ⟨a, b⟩ := keysM_len h2
      refine ⟨by simp [a], fun p hp => ?_⟩
      rcases List.mem_cons.mp hp with rfl | hp
      · exact h1
      · exact b p hp
    · cases e
theorem keyAt_of {nu : Str → Int} {xs : List Str} {i : Nat} {x : Str} (h : xs[i]? = some x) : keyAt nu xs i = (nu x, x.cps.toList) := by unfold keyAt; rw [h]
theorem least_at {ks : List Pr} {nu : Str → Int} {xs : List Str} (h : ∀ i, i < ks.length → keyAt nu xs i = ks.getD i (0, [])) {p : Pr} {r : List Pr} (e : ks = p :: r) :
    ∀ k, k < ks.length → argBest (fun i j => ltP (keyAt nu xs i) (keyAt nu xs j)) k < ks.length ∧ keyAt nu xs (argBest (fun i j => ltP (keyAt nu xs i) (keyAt nu xs j)) k) = (r.take k).foldl stepP p := by
  intro k
  induction k with
  | zero =>
    intro hk
    refine ⟨hk, ?_⟩
    show keyAt nu xs 0 = _
    rw [h 0 hk, e]; rfl
  | succ k ih =>
    intro hk
    obtain ⟨a, b⟩ := ih (Nat.lt_of_succ_lt hk)
    have hr : k < r.length := by rw [e] at hk; simpa using hk
    have nx : keyAt nu xs (k + 1) = r[k] := by
      rw [h _ hk, e]
      simp [hr]
    have tk : r.take (k + 1) = r.take k ++ [r[k]] := by rw [List.take_add_one, List.getElem?_eq_getElem hr]; rfl
    unfold argBest
    rw [nx, b, tk, List.foldl_append]
    simp only [List.foldl_cons, List.foldl_nil, stepP]
    split
    · exact ⟨hk, nx⟩
    · exact ⟨a, b⟩
def mMinKey (i : Nat) (fe : ME) : ME := fun s => (fe s).bind fun r s1 => match lstOf s1 r, mVar i s1 with
  | some xs, .ok rd _ => match dictOf s1 rd, strsM xs with
    | some kvs, some zs => match leastM kvs zs with
      | some z => .ok (.v (.str z)) s1
      | none => .bad
    | _, _ => .bad
  | _, _ => .bad
section
variable {X : Cx} {R : RC} {W : WX} {e : Expr} {fe : ME}
theorem je_minKey {c P : Addr} (i : Nat) {k : Nat} {nm rd : Str} {params : Arguments} {scope : Scope} {p0 p1 p2 p3 p4 p5 p6 p7 lpos kpos pos : Pos} {k0 : Nat} {x1} (TB : LamX.TabB X.base X.mg c P) (hcode : X.env.code = .ref c) (hr : Room (k + 2) X.A) (ht : R.tabs = [(P, X.env.qual ++ "<lambda>")]) (hm : X.mg "min" = none)
    (S : NdefX.nscB [nm, rd] [nm] [rd] scope = true) (hfree : NdefX.ndefB X.env.scope scope [rd] = true) (hN : X.N[i]? = some rd)
    (hb : ∀ (q : Str) (cl : List (Str × Addr)) (pm cv ctv v : Value), bindArgs (PySem.W.kla_fn "<lambda>" q params (.Tuple [.Subscript (.Subscript (.Name rd p1) (.Name nm p2) p3) (.Constant (.int 0) k0 p4) p5, .Name nm p6] x1 p7) scope cl pm cv ctv) ⟨[v], []⟩ = pure [(nm, v)])
    (he : JE X R W e fe) (hg : Gl X "min" := by rfl) (hdef : defaultsOf params X.env = ([], []) := by rfl) (hs : backTo pos (starEach [e] X.env) = (false, eval e X.env) :: backTo pos (starEach [] X.env) := by rfl) (hpl : (backTo pos (starEach [e] X.env)).any (·.1) = false := by rfl) (hst : starEach [e] X.env = (false, eval e X.env) :: starEach [] X.env := by rfl)
    (d0 : (nm == ("__debug__" : Str)) = false := by decide) (d1 : (rd == ("__debug__" : Str)) = false := by decide) (c0 : (nm == ("__classdict__" : Str)) = false := by decide) (c1 : (rd == ("__classdict__" : Str)) = false := by decide) :
    JE X R W (.Call (.Name "min" p0) [e] [⟨some "key", .Lambda params (.Tuple [.Subscript (.Subscript (.Name rd p1) (.Name nm p2) p3) (.Constant (.int 0) k0 p4) p5, .Name nm p6] x1 p7) scope lpos, kpos⟩] pos) (mMinKey i fe) := fun hK F =>
  PE.imp (pe_minKey TB hcode hdef hr.old (NdefX.nscope_by S) d0 d1 c0 c1 (NdefX.ndef_free hfree) (NdefX.ndef_fr hfree) hN hb (he hK F) hm hg hs hpl hst) fun σ H Q h => by
    refine (first (M := rlE) h).mono fun x H1 ⟨G, r, s1, G1, w, rr, o⟩ => ?_
    split at o
    · rename_i xs rd' sx hx hv
      split at o
      · rename_i kvs zs hd hz
        split at o
        · rename_i z hz2
          obtain ⟨l, vs, rfl, sq, hvs⟩ := lst_ok w.rel rr hx
          have hvs2 := strsM_V hvs hz
          have hslot : ∃ v, σ[i]? = some (some v) ∧ RR R σ H G1 H1 rd' v := by
            unfold mVar at hv
            split at hv
            · rename_i x hx
              cases hv
              obtain ⟨v, e, r⟩ := w.rel.env i _ hx
              exact ⟨v, e, r⟩
            · rename_i c hx
              cases hv
              obtain ⟨v, e, r⟩ := w.rel.env i _ hx
              exact ⟨v, e, e⟩
            · cases hv
          obtain ⟨v, hσ, rv⟩ := hslot
          obtain ⟨a, dk, rfl, ha, dd⟩ := dict_ok w.rel rv hd
          unfold leastM at hz2
          split at hz2
          · rename_i p r hks
            cases hz2
            obtain ⟨m1, m2⟩ := keysM_len hks
            obtain ⟨_, ps, hP, ok, cs⟩ := w.rel.hp.tabs.at_ (P, X.env.qual ++ "<lambda>") (by rw [ht]; simp)
            have num : ∀ y ∈ zs, ∃ n, numM kvs y = some n ∧ NumAt X.K H1 a ⟨y.toArray⟩ n := by
              intro y hy
              rw [← m1] at hy
              obtain ⟨q, hq, rfl⟩ := List.mem_map.mp hy
              refine ⟨q.1, m2 q hq, ?_⟩
              have := m2 q hq
              unfold numM at this
              split at this
              · rename_i n t hg
                cases this
                obtain ⟨v, hv, vr⟩ := (dd.get (.inr ⟨q.2.toArray⟩)).2 _ (by simpa [keyMV] using hg)
                obtain ⟨b, us, rfl, st, hus⟩ := VR.tup vr
                obtain ⟨v0, u0, rfl, e0, _⟩ := hus.inv
                rw [VR.int e0] at st
                exact ⟨dk, b, _, ha, hv, hK ▸ st, by simp [atI, ixN]⟩
              · cases this
            refine ⟨l, a, ps, zs.map (fun z => ⟨z.toArray⟩), fun x => ((numM kvs x.cps.toList).getD 0), rfl, ?_, ?_, hσ, ?_, hP, ok, fun pos cv q => ?_, fun x H2 hbest gr => ?_⟩
            · rw [← hvs2, ← hK]; exact sq
            · rw [← m1]; simp
            · intro x hx
              obtain ⟨y, hy, rfl⟩ := List.mem_map.mp hx
              obtain ⟨n, h1, h2⟩ := num y hy
              simp only [h1, Option.getD_some]
              exact h2
            · obtain ⟨c', e1, _, e2⟩ := cs pos cv q
              exact ⟨c', e1, e2⟩
            · obtain ⟨G2, rel2, ev2⟩ := Rel.grown w ht hP gr
              refine o _ _ _ rel2 ev2 ?_
              have kl : (p :: r).length = zs.length := by rw [← m1]; simp
              have key : ∀ i, i < (p :: r).length → keyAt (fun x => ((numM kvs x.cps.toList).getD 0)) (zs.map (fun z => (⟨z.toArray⟩ : Str))) i = (p :: r).getD i (0, []) := by
                intro i hi
                have h1 : ((p :: r).map (·.2))[i]? = zs[i]? := by rw [m1]
                rw [List.getElem?_map, List.getElem?_eq_getElem hi] at h1
                unfold keyAt
                rw [List.getElem?_map, ← h1]
                have := m2 _ (List.getElem_mem hi)
                simp only [Option.map_some, this, Option.getD_some, List.getD_eq_getElem?_getD, List.getElem?_eq_getElem hi]
              obtain ⟨b1, b2⟩ := least_at key rfl (zs.length - 1) (by rw [kl]; rw [← m1]; simp)
              have tk : r.take (zs.length - 1) = r := by rw [← m1]; simp
              rw [tk] at b2
              have hb' : (zs.map (fun z => (⟨z.toArray⟩ : Str)))[argBest (fun i j => ltP (keyAt (fun x => ((numM kvs x.cps.toList).getD 0)) (zs.map (fun z => (⟨z.toArray⟩ : Str))) i) (keyAt (fun x => ((numM kvs x.cps.toList).getD 0)) (zs.map (fun z => (⟨z.toArray⟩ : Str))) j)) (zs.length - 1)]? = some x := by
                have := hbest
                unfold bestAt at this
                rwa [List.length_map] at this
              have : (r.foldl stepP p).2 = x.cps.toList := by
                rw [← b2, keyAt_of hb']
              show VR R.K G2 H2 (.str _) (.str x)
              rw [this]
              exact VR.mkStr' (K := R.K) (G := G2) (H := H2) rfl
          · cases hz2
        · exact o.elim
      · exact o.elim
    · exact o.elim
end
end Mi
set_option Elab.async false
set_option linter.all false
set_option maxRecDepth 100000
set_option maxHeartbeats 4000000
namespace Mi
open PySem PySem.Spec PyProof.Rows L2
/-! a def whose code object is known -/
section
variable {k : Nat} {P : Program} {w : World} {K : PySem.W.Frag} {mg : Str → Option Value} {base : Heap}
/-- a def of the text, from its body -/
theorem fn_bodyC {CX : CXT} {x qual : Str} {st : Stmt} {f : Addr} {fd : FuncData} {N ps : List Str} {sp : Sp} (Fu : Fun K x qual st f fd) {c : Addr} (hc : fd.code = .ref c) (S : FnScope N ps (defScope st)) (len : ∀ vs H Q E, sp vs H Q E → vs.length = ps.length)
    (hb : ∀ (cdv : Value), cdv = .ref c → ∀ (A : Around) (outer : List Env) (s : Shared) (H : Hp) (vs : List V) (Q : VK) (E : XK), Room k (A.deeper (envOfC qual (defScope st) s.heap.objs.size f cdv)) → sp vs H Q E →
      ∃ t, PSs (cxOf CX P w K mg base N qual (defScope st) f cdv A outer s H E) (defBody st) t ∧ t { nx := fun _ H' => Q .non H', rt := Q } (L2.start N vs) H) : FnOk P w K mg base CX (k + 1) f fd ps sp where
  len := len
  run := fun A outer s H args us vs Q E room e0 hbind rel hsp => by
    obtain ⟨oc, od, kV, doc, pm, an, cdv, ct, osl, rfl, lk, hcode⟩ := Fu.ex
    have old : ∀ {a : Addr} {o : Obj}, base.get? a = some o → s.heap.get? a = some o := fun z => (e0.bs _ _ z).1
    have KI : K.In s.heap := e0.mod.kin.keeps fun _ _ z => old z
    have kinds : ∀ y ∈ ps.zip us, (defScope st).names.lookup y.1 = some .local ∨ ((defScope st).names.lookup y.1 = some .cell ∧ ((cellsFrom (s.heap.objs.size + 1) (defScope st).names []).lookup y.1).isSome = true) := by
      rintro ⟨nm, v⟩ hy
      exact (S.par nm (List.of_mem_zip hy).1).imp id fun z => ⟨z, PySem.W.cellsFrom_some _ _ _ (.inl z)⟩
    refine codeAny_call_function room.depth (KI _ _ lk) rfl S.co S.gen rfl (PySem.W.codeRec_of KI hcode) (hbind _ _ _ _ (wpAny_newFunctionEnv_cells S.kind kinds ?_))
    rintro env rfl t x
    refine ⟨(e0.mod.nolimit.keeps fun _ _ z => old z).keeps x.toInCall.keep, codeAny_func ?_⟩
    obtain ⟨tt, run, wish⟩ := hb cdv hc A outer s H vs Q E (room.deeper _) hsp
    have start := inv_start (CX := CX) (cd := cdv) (E := E) S room.hd e0 (len vs H Q E hsp) rel x
    refine wpAny_mono (run.run [] t _ H _ start wish) (fun fl t' h => ?_) fun _ _ h => h
    have done : ∀ {σ' : L2.St} {H' : Hp} {v : V} {u : Value}, Inv (cxOf CX P w K mg base N qual (defScope st) f cdv A outer s H E) [] σ' H' t' → RelV v u → Q v H' → L2.CE outer P w H s Q u t' := fun J rv q => ⟨_, _, J.os, J.bare, J.base, J.hok, rv, q⟩
    match fl, h with
    | .ret u, ⟨v, σ', H', J, rv, q⟩ => exact done J rv q
    | .next, ⟨σ', H', J, q⟩ => exact done (v := .non) (u := .none) J rfl q
    | .brk, ⟨_, _, _, q⟩ => exact q.elim
    | .cont, ⟨_, _, _, q⟩ => exact q.elim
end
section
variable {P : Program} {w : World} {K : PySem.W.Frag} {mg : Str → Option Value} {base : Heap} {R : RC} {f : Addr} {fd : FuncData}
theorem fn_defC {x qual : Str} {st : Stmt} {f : Addr} {fd : FuncData} {N ps : List Str} {k : Nat} {fb : MSt} (Fu : Fun K x qual st f fd) {c : Addr} (hc : fd.code = .ref c) (S : FnScope N ps (defScope st)) (hK : R.K = K) (hps : ps.length ≤ N.length)
    (body : ∀ (cdv : Value), cdv = .ref c → ∀ (A : Around) (outer : List Env) (s : Shared) (H : Hp) (E : XK), Room k (A.deeper (envOfC qual (defScope st) s.heap.objs.size f cdv)) →
      Takes (cxOf (L2.CX P w) P w K mg base N qual (defScope st) f cdv A outer s H E) (fun cls d _ H => E cls d H) →
      PassesOwn (model P w) (cxOf (L2.CX P w) P w K mg base N qual (defScope st) f cdv A outer s H E).A (cxOf (L2.CX P w) P w K mg base N qual (defScope st) f cdv A outer s H E).env (cxOf (L2.CX P w) P w K mg base N qual (defScope st) f cdv A outer s H E).xe →
      JB (cxOf (L2.CX P w) P w K mg base N qual (defScope st) f cdv A outer s H E) R (fun cls d _ H => E cls d H) (defBody st) fb) :
    FnOk P w K mg base (L2.CX P w) (k + 1) f fd ps (spF R ps.length (runOf N.length fb)) := by
  refine fn_bodyC Fu hc S (fun vs H Q E h => spF.len h) fun cdv hcd A outer s H vs Q E hr h => ?_
  obtain ⟨G, hp, args, hh, r, hl, o⟩ := h
  refine ⟨_, body cdv hcd A outer s H E hr (takes_of rfl rfl rfl rfl) (passes_of rfl) hK ⟨noLoc G, H, hp.length⟩, noLoc G, _, start_rel hh r (by rw [hl]; exact hps), ?_⟩
  unfold runOf at o
  cases q : fb ⟨env0 N.length args, hp, hp.length⟩ with
  | ok fl s' =>
    rw [q] at o
    cases fl with
    | next => exact fun G' σ' H' rel ev => o G' H' .non rel.hp rel.since.ofNoLoc rel.le (VR.mkNon (K := R.K) (G := G') (H := H'))
    | ret fr => exact fun G' σ' H' v rel k => o G' H' v rel.hp rel.since.ofNoLoc rel.le k
  | exc c xs s' => rw [q] at o; exact fun G' σ' H' cls d rel ev k => o G' H' cls d rel.hp rel.since.ofNoLoc rel.le k
  | bad => rw [q] at o; exact o.elim
end
theorem tab_code {K : PySem.W.Frag} {x : Str} {a c P : Addr} {oc : Value} {od : Option Addr} {fd : FuncData} {sl : Array (Option Value)} (hx : PySem.W.nsIn K mainGlobals x = some (some (.ref a))) (hl : K.lookup a = some ⟨oc, od, .func fd, sl⟩) (ht : PySem.W.tabIn K x = some (c, P)) : fd.code = .ref c := by
  unfold PySem.W.tabIn at ht
  rw [hx] at ht
  simp only [hl] at ht
  split at ht
  · rename_i c2 hc
    split at ht
    · split at ht
      · cases ht; exact hc
      · cases ht
    · cases ht
  · cases ht
end Mi
set_option Elab.async false
set_option linter.all false
set_option maxRecDepth 100000
set_option maxHeartbeats 4000000
namespace Mi
open PySem PySem.Spec PyProof.Rows L2
/-! the mini programs, evaluated -/
section
variable {f g fa fb fc fo fi fe : ME} {fs : MS → Out (List RV)} {fv : MS → Out (List MV)} {ft fu : MS → Out Bool} {sa sb : MSt} {s : MS} {x : MV} {i : Nat} {k : Int} {p : RV → RV → MS → Out RV}
@[simp] theorem e_C : mC x s = .ok (.v x) s := rfl
@[simp] theorem e_Var : mVar i s = (match s.env[i]? with
  | some (some (.v x)) => .ok (.v x) s
  | some (some (.own _)) => .ok (.loc i) s
  | _ => .bad) := rfl
@[simp] theorem e_Bin : mBin p fa fb s = (fa s).bind fun r1 s1 => (fb s1).bind fun r2 s2 => p r1 r2 s2 := rfl
@[simp] theorem e_Seq : mSeq sa sb s = (sa s).bind fun fl s1 => match fl with
  | .next => sb s1
  | .ret r => .ok (.ret r) s1 := rfl
@[simp] theorem e_Next : mNext s = .ok .next s := rfl
@[simp] theorem e_Set : mSet i f s = (f s).bind fun r s1 => putSlot i r s1 := rfl
@[simp] theorem e_putV : putSlot i (.v x) s = if i < s.env.length then .ok .next { s with env := s.env.set i (some (.v x)) } else .bad := rfl
@[simp] theorem e_putO {c : C} : putSlot i (.own c) s = if i < s.env.length then .ok .next { s with env := s.env.set i (some (.own c)) } else .bad := rfl
@[simp] theorem e_Ret : mRet f s = (f s).bind fun r s1 => (giveR r s1).bind fun fr s2 => .ok (.ret fr) s2 := rfl
@[simp] theorem e_giveV : giveR (.v x) s = .ok (.v x) s := rfl
@[simp] theorem e_giveO {c : C} : giveR (.own c) s = .ok (.own c) s := rfl
@[simp] theorem e_giveL : giveR (.loc i) s = (match s.env[i]? with
    | some (some (.own c)) => .ok (.own c) { s with env := s.env.set i none }
    | _ => .bad) := rfl
@[simp] theorem e_If : mIf ft sa sb s = (ft s).bind fun b s1 => if b = true then sa s1 else sb s1 := rfl
@[simp] theorem e_IfE : mIfE ft fa fb s = (ft s).bind fun b s1 => if b = true then fa s1 else fb s1 := rfl
@[simp] theorem e_TestB : mTestB f s = (f s).bind fun r s1 => match r with | .v (.bl b) => .ok b s1 | _ => .bad := rfl
@[simp] theorem e_Test : mTest f s = (f s).bind fun r s1 => match truth s1 r with | some b => .ok b s1 | none => .bad := rfl
@[simp] theorem e_AndT : mAndT ft fu s = (ft s).bind fun b s1 => if b = true then fu s1 else .ok false s1 := rfl
@[simp] theorem e_OrT : mOrT ft fu s = (ft s).bind fun b s1 => if b = true then .ok true s1 else fu s1 := rfl
@[simp] theorem e_NotT : mNotT ft s = (ft s).bind fun b s1 => .ok (!b) s1 := rfl
@[simp] theorem e_And : mAnd fa fb s = (fa s).bind fun r s1 => match truth s1 r with | some true => fb s1 | some false => .ok r s1 | none => .bad := rfl
@[simp] theorem e_Or : mOr fa fb s = (fa s).bind fun r s1 => match truth s1 r with | some true => .ok r s1 | some false => fb s1 | none => .bad := rfl
@[simp] theorem e_Not : mNot fa s = (fa s).bind fun r s1 => match truth s1 r with | some b => .ok (.v (.bl (!b))) s1 | none => .bad := rfl
@[simp] theorem e_Neg : mNeg fa s = (fa s).bind fun r s1 => match r with | .v (.int i) => .ok (.v (.int (-i))) s1 | _ => .bad := rfl
@[simp] theorem e_truthB {b : Bool} : truth s (.v (.bl b)) = some b := rfl
@[simp] theorem e_truthI : truth s (.v (.int k)) = some (k != 0) := rfl
@[simp] theorem e_truthN : truth s (.v .non) = some false := rfl
@[simp] theorem e_Sh : mSh f s = (f s).bind fun r s1 => share r s1 := rfl
@[simp] theorem e_shV : share (.v x) s = .ok x s := rfl
@[simp] theorem e_shO {c : C} : share (.own c) s = if isLk c = true then .bad else .ok (frzC c) s := rfl
@[simp] theorem e_shL : share (.loc i) s = (match s.env[i]? with
    | some (some (.own c)) => if isLk c = true then .bad else .ok (frzC c) { s with env := s.env.set i (some (.v (frzC c))) }
    | _ => .bad) := rfl
@[simp] theorem e_frzL {xs : List MV} : frzC (.lst xs) = .lst xs := rfl
@[simp] theorem e_Cons : mCons f fs s = (f s).bind fun r s1 => (fs s1).bind fun rs s2 => .ok (r :: rs) s2 := rfl
@[simp] theorem e_ConsS : mConsS f fv s = (f s).bind fun r0 s0 => (share r0 s0).bind fun r s1 => (fv s1).bind fun rs s2 => .ok (r :: rs) s2 := by
  show ((f s).bind fun r s1 => share r s1).bind _ = _
  cases f s <;> rfl
@[simp] theorem e_Tup : mTup fv s = (fv s).bind fun xs s1 => if xs.length ≤ sizeLine then .ok (.v (.tup xs)) s1 else .bad := rfl
@[simp] theorem e_Lst : mLst fv s = (fv s).bind fun xs s1 => if xs.length ≤ sizeLine then .ok (.own (.lst xs)) s1 else .bad := rfl
@[simp] theorem e_Box : mBox f s = (f s).bind fun r s1 => match r with
  | .own c => .ok (.v (.ref s1.hp.length)) { s1 with hp := s1.hp ++ [.box c] }
  | _ => .bad := rfl
@[simp] theorem e_CallB {q : List RV → MS → Out RV} : mCallB q fs s = (fs s).bind q := rfl
@[simp] theorem e_Call {run : Fn} {n : Nat} : mCall run n fv s = (fv s).bind fun xs s1 => if xs.length = n then mRun run xs s1 else .bad := rfl
@[simp] theorem e_Call0 {run : Fn} : mCall0 run s = mRun run [] s := rfl
@[simp] theorem e_CallK0 {run : Fn} {n nk : Nat} {idx : List Nat} : mCallK0 run n nk idx fv s = (fv s).bind fun ys s1 => if ys.length = nk ∧ (permL idx ys).length = n then mRun run (permL idx ys) s1 else .bad := rfl
@[simp] theorem e_CallK {run : Fn} {n np nk : Nat} {idx : List Nat} {fw : MS → Out (List MV)} : mCallK run n np nk idx fv fw s = (fv s).bind fun xs s1 => (fw s1).bind fun ys s2 => if xs.length = np ∧ ys.length = nk ∧ (permL idx (xs ++ ys)).length = n then mRun run (permL idx (xs ++ ys)) s2 else .bad := rfl
@[simp] theorem e_perm0 {l : List MV} : permL [] l = [] := rfl
@[simp] theorem e_perm1 {l : List MV} {idx : List Nat} : permL (i :: idx) l = match l[i]? with | some x => x :: permL idx l | none => permL idx l := by
  unfold permL
  cases e : l[i]? <;> simp [List.filterMap_cons, e]
@[simp] theorem e_frV : frRV (.v x) = .v x := rfl
@[simp] theorem e_frO {c : C} : frRV (.own c) = .own c := rfl
theorem run_eq {run : Fn} {xs : List MV} {r : FR} {hp : List MO} (h : run xs s.hp = .ok r hp) : mRun run xs s = .ok (frRV r) { s with hp := hp } := by unfold mRun; rw [h]
@[simp] theorem e_Part : mPart f s = (f s).bind fun r s1 => match r with | .v (.int i) => .ok (some i) s1 | _ => .bad := rfl
@[simp] theorem e_Slice {fl fh : MS → Out (Option Int)} : mSlice fa fl fh s = (fa s).bind fun r s1 => (fl s1).bind fun lo s2 => (fh s2).bind fun hi s3 => opSlice r lo hi s3 := rfl
@[simp] theorem e_Rev : mRev fa s = (fa s).bind opRev := rfl
@[simp] theorem e_SM {q : List Nat → List RV → MS → Out RV} : mSM q fo fs s = (fo s).bind fun r s1 => match r with
  | .v (.str z) => (fs s1).bind fun rs s2 => q z rs s2
  | _ => .bad := rfl
@[simp] theorem e_SetIx : mSetIx fe fo fi s = (fe s).bind fun r0 s0 => (share r0 s0).bind fun x s1 => (fo s1).bind fun r s2 => (fi s2).bind fun i s3 => setIx r i x s3 := by
  show ((fe s).bind fun r s1 => share r s1).bind _ = _
  cases fe s <;> rfl
@[simp] theorem e_Asg {tg : MG} : mAsg f tg s = (f s).bind fun r0 s0 => (share r0 s0).bind fun x s1 => match tg x s1 with | some s2 => .ok .next s2 | none => .bad := by
  show ((f s).bind fun r s1 => share r s1).bind _ = _
  cases f s <;> rfl
@[simp] theorem e_Par {j : Nat} : mPar i j fv s = (fv s).bind fun xs s1 => match xs with
  | [x, y] => if i < s1.env.length ∧ j < s1.env.length then .ok .next { s1 with env := (s1.env.set i (some (.v x))).set j (some (.v y)) } else .bad
  | _ => .bad := rfl
@[simp] theorem e_gN : gN i x s = if i < s.env.length then some { s with env := s.env.set i (some (.v x)) } else none := rfl
@[simp] theorem e_gsNil : gsNil [] s = some s := rfl
@[simp] theorem e_gsCons {t : MG} {u : List MV → MS → Option MS} {xs : List MV} : gsCons t u (x :: xs) s = (t x s).bind (u xs) := rfl
@[simp] theorem e_gT {n : Nat} {u : List MV → MS → Option MS} {xs : List MV} : gT n u (.tup xs) s = if xs.length = n then u xs s else none := rfl
@[simp] theorem e_add {a b : Int} : opAdd (.v (.int a)) (.v (.int b)) s = .ok (.v (.int (a + b))) s := rfl
@[simp] theorem e_addS {a b : List Nat} : opAdd (.v (.str a)) (.v (.str b)) s = if a.length + b.length ≤ sizeLine then .ok (.v (.str (a ++ b))) s else .bad := rfl
@[simp] theorem e_addL {a b : List MV} : opAdd (.own (.lst a)) (.own (.lst b)) s = if a.length + b.length ≤ sizeLine then .ok (.own (.lst (a ++ b))) s else .bad := rfl
@[simp] theorem e_sub {a b : Int} : opSub (.v (.int a)) (.v (.int b)) s = .ok (.v (.int (a - b))) s := rfl
@[simp] theorem e_mul {a b : Int} : opMul (.v (.int a)) (.v (.int b)) s = if CMul a b then .ok (.v (.int (a * b))) s else .bad := rfl
@[simp] theorem e_mod {a b : Int} : opMod (.v (.int a)) (.v (.int b)) s = if 0 < b then .ok (.v (.int (a % b))) s else .bad := rfl
@[simp] theorem e_div {a b : Int} : opDiv (.v (.int a)) (.v (.int b)) s = if CDiv a b then .ok (.v (.int (a / b))) s else .bad := rfl
@[simp] theorem e_pow {a b : Int} : opPow (.v (.int a)) (.v (.int b)) s = if CPow a b then .ok (.v (.int (a ^ b.toNat))) s else .bad := rfl
@[simp] theorem e_lt {a b : Int} : opLt (.v (.int a)) (.v (.int b)) s = .ok (.v (.bl (decide (a < b)))) s := rfl
@[simp] theorem e_le {a b : Int} : opLe (.v (.int a)) (.v (.int b)) s = .ok (.v (.bl (decide (a ≤ b)))) s := rfl
@[simp] theorem e_gt {a b : Int} : opGt (.v (.int a)) (.v (.int b)) s = .ok (.v (.bl (decide (b < a)))) s := rfl
@[simp] theorem e_ge {a b : Int} : opGe (.v (.int a)) (.v (.int b)) s = .ok (.v (.bl (decide (b ≤ a)))) s := rfl
@[simp] theorem e_lenS {z : List Nat} : pLen [.v (.str z)] s = if z.length ≤ sizeLine then .ok (.v (.int z.length)) s else .bad := rfl
@[simp] theorem e_lenL {xs : List MV} : pLen [.v (.lst xs)] s = .ok (.v (.int xs.length)) s := rfl
@[simp] theorem e_lenT {xs : List MV} : pLen [.v (.tup xs)] s = .ok (.v (.int xs.length)) s := rfl
@[simp] theorem e_lenO {xs : List MV} : pLen [.own (.lst xs)] s = .ok (.v (.int xs.length)) s := rfl
@[simp] theorem e_abs : pAbs [.v (.int k)] s = .ok (.v (.int (if k < 0 then -k else k))) s := rfl
@[simp] theorem e_max {a b : Int} : pMax [.v (.int a), .v (.int b)] s = .ok (.v (.int (if b > a then b else a))) s := rfl
@[simp] theorem e_min {a b : Int} : pMin [.v (.int a), .v (.int b)] s = .ok (.v (.int (if b < a then b else a))) s := rfl
@[simp] theorem e_intI : pInt [.v (.int k)] s = .ok (.v (.int k)) s := rfl
@[simp] theorem e_intB {b : Bool} : pInt [.v (.bl b)] s = .ok (.v (.int (if b then 1 else 0))) s := rfl
@[simp] theorem e_ord {c : Nat} : pOrd [.v (.str [c])] s = .ok (.v (.int c)) s := rfl
@[simp] theorem e_repr {b : Bool} : pReprB [.v (.bl b)] s = .ok (.v (.str (if b then [84, 114, 117, 101] else [70, 97, 108, 115, 101]))) s := rfl
@[simp] theorem e_ixS {z : List Nat} : opIx (.v (.str z)) (.v (.int k)) s = if z.length ≤ sizeLine then (match atI z k with | some c => .ok (.v (.str [c])) s | none => .bad) else .bad := rfl
@[simp] theorem e_ixL {xs : List MV} : opIx (.v (.lst xs)) (.v (.int k)) s = match atI xs k with | some x => .ok (.v x) s | none => .bad := rfl
@[simp] theorem e_ixO {xs : List MV} : opIx (.own (.lst xs)) (.v (.int k)) s = match atI xs k with | some x => .ok (.v x) s | none => .bad := rfl
@[simp] theorem e_ixT {xs : List MV} : opIx (.v (.tup xs)) (.v (.int k)) s = match atI xs k with | some x => .ok (.v x) s | none => .bad := rfl
theorem e_ixR {n : Nat} {xs : List MV} (h : s.hp[n]? = some (.box (.lst xs))) : opIx (.v (.ref n)) (.v (.int k)) s = match atI xs k with | some x => .ok (.v x) s | none => .bad := by
  have : seqOf s (.v (.ref n)) = some xs := by simp [seqOf, cont, h]
  show (match seqOf s (.v (.ref n)) with | some xs => (match atI xs k with | some x => Out.ok (RV.v x) s | none => .bad) | none => .bad) = _
  rw [this]
@[simp] theorem e_sliceS {z : List Nat} {lo hi : Option Int} : opSlice (.v (.str z)) lo hi s = if z.length ≤ sizeLine then .ok (.v (.str (cutM z lo hi))) s else .bad := rfl
@[simp] theorem e_sliceL {xs : List MV} {lo hi : Option Int} : opSlice (.v (.lst xs)) lo hi s = .ok (.own (.lst (cutM xs lo hi))) s := rfl
@[simp] theorem e_sliceO {xs : List MV} {lo hi : Option Int} : opSlice (.own (.lst xs)) lo hi s = .ok (.own (.lst (cutM xs lo hi))) s := rfl
@[simp] theorem e_revS {z : List Nat} : opRev (.v (.str z)) s = if z.length ≤ sizeLine then .ok (.v (.str z.reverse)) s else .bad := rfl
@[simp] theorem e_revL {xs : List MV} : opRev (.v (.lst xs)) s = .ok (.own (.lst xs.reverse)) s := rfl
@[simp] theorem e_revO {xs : List MV} : opRev (.own (.lst xs)) s = .ok (.own (.lst xs.reverse)) s := rfl
theorem e_setR {n j : Nat} {xs : List MV} (h : s.hp[n]? = some (.box (.lst xs))) (hj : ixN xs.length k = some j) : setIx (.v (.ref n)) (.v (.int k)) x s = .ok .next { s with hp := s.hp.set n (.box (.lst (xs.set j x))) } := by
  simp [setIx, place, h, hj, putC]
theorem e_Mt : mIt f s = (f s).bind itOf := rfl
@[simp] theorem e_itS {z : List Nat} : itOf (.v (.str z)) s = .ok ⟨z.map fun c => .str [c], fun _ => True⟩ s := rfl
@[simp] theorem e_itL {xs : List MV} : itOf (.v (.lst xs)) s = .ok ⟨xs, fun _ => True⟩ s := rfl
@[simp] theorem e_itT {xs : List MV} : itOf (.v (.tup xs)) s = .ok ⟨xs, fun _ => True⟩ s := rfl
@[simp] theorem e_itO {xs : List MV} : itOf (.own (.lst xs)) s = .ok ⟨xs, fun _ => True⟩ s := rfl
@[simp] theorem e_Range1 : mRange1 fs s = (fs s).bind fun rs s1 => match rs with
  | [.v (.int j)] => if -(2 ^ 62) ≤ j ∧ j < 2 ^ 62 then .ok ⟨(List.range j.toNat).map fun i : Nat => .int i, fun _ => True⟩ s1 else .bad
  | _ => .bad := rfl
@[simp] theorem e_Enum : mEnum k f s = (f s).bind fun r s1 => (itOf r s1).bind fun I s2 => .ok ⟨enumItems k I.items, I.chk⟩ s2 := rfl
theorem e_For {it : MS → Out MI} {tg : MG} : mFor it tg sa s = (it s).bind fun I s1 => forGo I.chk tg sa I.items s1 := rfl
theorem e_Lc {vs : List Nat} {it : MS → Out MI} {tg : MG} : mLc vs it tg ft fe s = (it s).bind fun I s1 =>
  (noExc (lcGo vs I.chk tg ft fe I.items [] { s1 with env := wipeM s1.env vs })).bind fun acc s2 => .ok (.own (.lst acc)) { s2 with env := backEnv s1.env s2.env vs } := rfl
/-! == of data without dicts -/
@[simp] theorem e_eqI {neg : Bool} {a b : Int} : opEqv neg (.v (.int a)) (.v (.int b)) s = .ok (.v (.bl (neg ^^ decide (a = b)))) s := by
  show (if SeqAt.shaped (.int a) = true ∧ SeqAt.shaped (.int b) = true then Out.ok (RV.v (.bl (neg ^^ PyData.eqv (.int a) (.int b)))) s else .bad) = _
  rw [if_pos ⟨rfl, rfl⟩]
  rfl
@[simp] theorem e_eqB {neg a b : Bool} : opEqv neg (.v (.bl a)) (.v (.bl b)) s = .ok (.v (.bl (neg ^^ decide (a = b)))) s := by
  cases a <;> cases b <;> rfl
theorem e_eqS {neg : Bool} {a b : List Nat} (ha : a.all (· < 0x110000) = true) (hb : b.all (· < 0x110000) = true) : opEqv neg (.v (.str a)) (.v (.str b)) s = .ok (.v (.bl (neg ^^ decide (a = b)))) s := by
  show (if SeqAt.shaped (.str ⟨a.toArray⟩) = true ∧ SeqAt.shaped (.str ⟨b.toArray⟩) = true then Out.ok (RV.v (.bl (neg ^^ PyData.eqv (.str ⟨a.toArray⟩) (.str ⟨b.toArray⟩)))) s else .bad) = _
  have sh : ∀ z : List Nat, z.all (· < 0x110000) = true → SeqAt.shaped (.str ⟨z.toArray⟩) = true := fun z hz => by
    have : PyData.strOk ⟨z.toArray⟩ = true := by simpa [PyData.strOk] using hz
    simp [SeqAt.shaped, PyData.canLay0, PyData.depth, this]
  rw [if_pos ⟨sh a ha, sh b hb⟩]
  have e : PyData.eqv (.str ⟨a.toArray⟩) (.str ⟨b.toArray⟩) = decide (a = b) := by
    show ((⟨a.toArray⟩ : Str) == ⟨b.toArray⟩) = _
    by_cases h : a = b
    · subst h; simp
    · rw [decide_eq_false h]
      simpa using fun z => h (by simpa using z)
  rw [e]
end
/-! the end of a run -/
def Ok {α : Type} (o : Out α) (Q : α → MS → Prop) : Prop := match o with | .ok a s => Q a s | _ => False
theorem Ok.bind {α β : Type} {o : Out α} {k : α → MS → Out β} {Q : β → MS → Prop} (h : Ok o fun a s => Ok (k a s) Q) : Ok (o.bind k) Q := by
  cases o <;> first | exact h | exact h.elim
theorem Ok.get {α : Type} {o : Out α} {Q : α → MS → Prop} (h : Ok o Q) : ∃ a s, o = .ok a s ∧ Q a s := by
  cases o with
  | ok a s => exact ⟨a, s, rfl, h⟩
  | exc c xs s => exact h.elim
  | bad => exact h.elim
theorem Ok.imp {α : Type} {o : Out α} {Q Q' : α → MS → Prop} (h : Ok o Q) (k : ∀ a s, Q a s → Q' a s) : Ok o Q' := by
  cases o with
  | ok a s => exact k _ _ h
  | exc c xs s => exact h.elim
  | bad => exact h.elim
theorem run_of {n : Nat} {fb : MSt} {args : List MV} {hp hp' : List MO} {r : FR} {e : List (Option SV)} {b : Nat} (h : fb ⟨env0 n args, hp, hp.length⟩ = .ok (.ret r) ⟨e, hp', b⟩) : runOf n fb args hp = .ok r hp' := by unfold runOf; rw [h]
theorem run_ok' {n : Nat} {fb : MSt} {args : List MV} {hp : List MO} {Q : FR → List MO → Prop} (h : Ok (fb ⟨env0 n args, hp, hp.length⟩) fun fl s => ∃ r, fl = .ret r ∧ Q r s.hp) : ∃ r hp', runOf n fb args hp = .ok r hp' ∧ Q r hp' := by
  obtain ⟨fl, s, e, r, rfl, q⟩ := h.get
  exact ⟨r, s.hp, by unfold runOf; rw [e], q⟩
/-! loops -/
theorem forGo_ok {chk : MS → Prop} {tg : MG} {body : MSt} (P : MS → Prop) (hc : ∀ s, P s → chk s) : ∀ (xs : List MV) (s : MS), P s → (∀ x ∈ xs, ∀ s, P s → ∃ s1, tg x s = some s1 ∧ Ok (body s1) fun fl s2 => fl = .next ∧ P s2) →
    Ok (forGo chk tg body xs s) fun fl s2 => fl = .next ∧ P s2
  | [], s, p, _ => by unfold forGo; rw [if_pos (hc s p)]; exact ⟨rfl, p⟩
  | x :: xs, s, p, h => by
    unfold forGo
    rw [if_pos (hc s p)]
    obtain ⟨s1, e, k⟩ := h x (List.mem_cons_self ..) s p
    obtain ⟨fl, s2, e2, rfl, p2⟩ := k.get
    rw [e]
    simp only [e2, Out.bind_ok]
    exact forGo_ok P hc xs s2 p2 fun y hy => h y (List.mem_cons_of_mem _ hy)
/-- a comprehension: what it keeps and what its items are -/
theorem lcGo_ok {vs : List Nat} {chk : MS → Prop} {tg : MG} {te : ME} (P : MS → Prop) (Y : MV → MV → Prop) (hc : ∀ s, P s → chk s) : ∀ (xs acc : List MV) (s : MS), P s → acc.length + xs.length ≤ sizeLine →
    (∀ x ∈ xs, ∀ s, P s → ∃ s1, tg x s = some s1 ∧ Ok (mSh te s1) fun y s2 => Y x y ∧ P { s2 with env := wipeM s2.env vs }) →
    Ok (lcGo vs chk tg mYes te xs acc s) fun ys s2 => P s2 ∧ ∃ zs, ys = acc ++ zs ∧ zs.length = xs.length ∧ ∀ (i : Nat) x, xs[i]? = some x → ∃ y, zs[i]? = some y ∧ Y x y
  | [], acc, s, p, _, _ => by
    unfold lcGo; rw [if_pos (hc s p)]
    exact ⟨p, [], by simp, rfl, fun i x e => by simp at e⟩
  | x :: xs, acc, s, p, hz, h => by
    unfold lcGo
    rw [if_pos (hc s p)]
    obtain ⟨s1, e, k⟩ := h x (List.mem_cons_self ..) s p
    obtain ⟨y, s2, e2, hy, p2⟩ := k.get
    rw [e]
    simp only [mYes, Out.bind_ok, if_true, e2]
    simp only [List.length_cons] at hz
    rw [if_pos (by omega)]
    refine (lcGo_ok P Y hc xs (acc ++ [y]) _ p2 (by simp; omega) fun z hz => h z (List.mem_cons_of_mem _ hz)).imp fun ys s3 ⟨p3, zs, e3, hl, q⟩ => ?_
    refine ⟨p3, y :: zs, by rw [e3]; simp, by simp [hl], fun i x' e => ?_⟩
    cases i with
    | zero => simp at e; subst e; exact ⟨y, rfl, hy⟩
    | succ i => simpa using q i x' (by simpa using e)
theorem list_of_get {α : Type} {g : α → MV} : ∀ {xs : List α} {zs : List MV}, zs.length = xs.length → (∀ (i : Nat) x, xs[i]? = some x → zs[i]? = some (g x)) → zs = xs.map g := fun {xs zs} hl h => by
  apply List.ext_getElem?
  intro i
  by_cases hi : i < xs.length
  · rw [h i _ (List.getElem?_eq_getElem hi)]; simp [hi]
  · rw [List.getElem?_eq_none (by omega), List.getElem?_eq_none (by simp; omega)]
/-- a comprehension that keeps its state -/
theorem lcGo_map {α : Type} {vs : List Nat} {chk : MS → Prop} {tg : MG} {te : ME} (F g : α → MV) (s0 : MS) (hc : chk s0) : ∀ (L : List α) (acc : List MV), acc.length + L.length ≤ sizeLine →
    (∀ a ∈ L, ∃ s1 s2, tg (F a) s0 = some s1 ∧ mSh te s1 = .ok (g a) s2 ∧ { s2 with env := wipeM s2.env vs } = s0) → lcGo vs chk tg mYes te (L.map F) acc s0 = .ok (acc ++ L.map g) s0
  | [], acc, _, _ => by unfold lcGo; simp [hc]
  | a :: L, acc, hz, h => by
    obtain ⟨s1, s2, e1, e2, e3⟩ := h a (List.mem_cons_self ..)
    simp only [List.length_cons] at hz
    have ih := lcGo_map F g s0 hc L (acc ++ [g a]) (by simp; omega) fun b hb => h b (List.mem_cons_of_mem _ hb)
    rw [List.map_cons]
    unfold lcGo
    rw [if_pos hc, e1]
    simp only [mYes, Out.bind_ok, if_true, e2]
    rw [if_pos (by omega), e3, ih]
    simp
theorem e_mRun {run : Fn} {xs : List MV} {s : MS} : mRun run xs s = match run xs s.hp with
  | .ok r hp => .ok (frRV r) { s with hp := hp }
  | .exc c ys hp => .exc c ys { s with hp := hp }
  | .bad => .bad := rfl
@[simp] theorem e_noexc {α : Type} {a : α} {s : MS} : noExc (.ok a s) = .ok a s := rfl
theorem ints_map {α : Type} (f : α → Int) : ∀ L : List α, intsOf (L.map fun a => .int (f a)) = some (L.map f)
  | [] => rfl
  | a :: L => by show (intsOf (L.map fun a => .int (f a))).map (f a :: ·) = _; rw [ints_map f L]; rfl
theorem strs_map {α : Type} (f : α → List Nat) : ∀ L : List α, strsOf (L.map fun a => .str (f a)) = some (L.map f)
  | [] => rfl
  | a :: L => by show (strsOf (L.map fun a => .str (f a))).map (f a :: ·) = _; rw [strs_map f L]; rfl
theorem join_signs : ∀ z : List Nat, joinM [] (z.map fun c => [c]) = z
  | [] => rfl
  | [_] => rfl
  | x :: y :: r => by
    have := join_signs (y :: r)
    simp only [List.map_cons] at this
    simp only [List.map_cons, joinM, this]
    rfl
theorem lens_signs : ∀ z : List Nat, ((z.map fun c => [c]).map (·.length)).sum = z.length
  | [] => rfl
  | x :: r => by have := lens_signs r; simp only [List.map_cons, List.sum_cons, List.length_cons, List.length_nil] at *; omega
/-- texts of one sign each -/
theorem signs_of_get {Y : Nat → Prop} : ∀ (zs : List MV), (∀ (i : Nat), i < zs.length → ∃ c, zs[i]? = some (.str [c]) ∧ Y c) → ∃ z : List Nat, zs = z.map (fun c => .str [c]) ∧ ∀ c ∈ z, Y c
  | [], _ => ⟨[], rfl, fun _ h => by cases h⟩
  | x :: r, h => by
    obtain ⟨c, e, y⟩ := h 0 (by simp)
    obtain ⟨z, e2, y2⟩ := signs_of_get r fun i hi => by simpa using h (i + 1) (by simpa using hi)
    simp at e
    refine ⟨c :: z, by rw [e, e2]; rfl, fun d hd => ?_⟩
    rcases List.mem_cons.mp hd with q | q
    · rw [q]; exact y
    · exact y2 d q
theorem enum_map {α : Type} (k0 : Int) (f : α → MV) (z : List α) : enumItems k0 (z.map f) = z.zipIdx.map fun p => .tup [.int (k0 + (p.2 : Nat)), f p.1] := by
  unfold enumItems
  rw [List.zipIdx_map, List.map_map]
  rfl
theorem e_sumO {xs : List MV} {ns : List Int} {s : MS} (h : intsOf xs = some ns) : pSum [.own (.lst xs)] s = .ok (.v (.int ns.sum)) s := by
  show (match (some xs).bind intsOf with | some ns => Out.ok (RV.v (.int ns.sum)) s | none => .bad) = _
  rw [show (some xs).bind intsOf = some ns from h]
theorem e_joinO {z : List Nat} {xs : List MV} {ys : List (List Nat)} {s : MS} (h : strsOf xs = some ys) : pJoin z [.own (.lst xs)] s = if (ys.map (·.length)).sum + ys.length * z.length ≤ 16777216 then .ok (.v (.str (joinM z ys))) s else .bad := by
  have e : (seqOf s (.own (.lst xs))).bind strsOf = some ys := h
  unfold pJoin
  simp only [e]
theorem CMul.r {i j : Int} (h : -(2 ^ 64) < j ∧ j < 2 ^ 64) : CMul i j := .inr h
theorem CMul.l {i j : Int} (h : -(2 ^ 64) < i ∧ i < 2 ^ 64) : CMul i j := .inl h
theorem line1000 {n : Nat} (h : n ≤ 1000) : n ≤ sizeLine := Nat.le_trans h (by decide)
end Mi
set_option Elab.async false
set_option linter.all false
set_option maxRecDepth 100000
set_option maxHeartbeats 4000000
namespace Mi
open PySem PySem.Spec PyProof.Rows L2
section
variable {f fo fe ff fa fb : ME} {fv : MS → Out (List MV)} {fs : MS → Out (List RV)} {fp : MS → Out (List (MV × MV))} {s : MS} {c j n m i : Nat} {run : Fn} {p : RV → RV → MS → Out RV} {x : MV}
@[simp] theorem e_Fld : mFld c j f s = (f s).bind fun r s1 => match r with
  | .v (.ref n) => match s1.hp[n]? with
    | some (.inst c' fs) => if c' = c then (match fs[j]? with
      | some (some (.v x)) => .ok (.v x) s1
      | some (some (.own _)) => .ok (.fld n j) s1
      | _ => .bad) else .bad
    | _ => .bad
  | _ => .bad := rfl
@[simp] theorem e_SetFld : mSetFld c j fe fo s = (fe s).bind fun r s1 => (fo s1).bind fun ro s2 => match ro with
  | .v (.ref n) => putFldS c j n r s2
  | _ => .bad := rfl
@[simp] theorem e_Meth : mMeth c run n fo fv s = (fo s).bind fun r s1 => match r with
  | .v (.ref q) => match s1.hp[q]? with
    | some (.inst c' _) => if c' = c then (fv s1).bind fun xs s2 => if xs.length + 1 = n then mRun run (.ref q :: xs) s2 else .bad else .bad
    | _ => .bad
  | _ => .bad := rfl
@[simp] theorem e_Make : mMake c m run n fv s = (fv s).bind (mMakeIn c m run n) := rfl
@[simp] theorem e_Aug : mAug i p fe s = (match s.env[i]? with
  | some (some (.v x)) => (fe s).bind fun r s1 => (p (.v x) r s1).bind fun z s2 => putSlot i z s2
  | _ => .bad) := rfl
@[simp] theorem e_iaddI {a b : Int} : opIAdd (.v (.int a)) (.v (.int b)) s = .ok (.v (.int (a + b))) s := rfl
@[simp] theorem e_iaddS {a b : List Nat} : opIAdd (.v (.str a)) (.v (.str b)) s = if a.length + b.length ≤ sizeLine then .ok (.v (.str (a ++ b))) s else .bad := rfl
@[simp] theorem e_Disp : mDisp fp s = (fp s).bind fun ps s1 => if keysOk ps = true ∧ ps.length ≤ 15 then .ok (.own (.dict (mergeM [] ps))) s1 else .bad := rfl
@[simp] theorem e_Dict0 : mDict0 s = .ok (.own (.dict [])) s := rfl
@[simp] theorem e_Expr : mExpr f s = (f s).bind fun _ s1 => .ok .next s1 := rfl
@[simp] theorem e_RetN : mRetN s = .ok (.ret (.v .non)) s := rfl
@[simp] theorem e_keyI {k : Int} : keyOf (.int k) = some (.inl k) := rfl
@[simp] theorem e_keyS {z : List Nat} : keyOf (.str z) = some (.inr ⟨z.toArray⟩) := rfl
@[simp] theorem e_isN {neg : Bool} : opIs neg (.v .non) (.v .non) s = .ok (.v (.bl (neg ^^ true))) s := rfl
end
end Mi
set_option Elab.async false
set_option linter.all false
set_option maxRecDepth 100000
set_option maxHeartbeats 4000000
namespace Mi
open PySem PySem.Spec PyProof.Rows L2
/-! dict contents -/
theorem eqK_to {a b : MV} (h : eqK a b = true) : a = b := by
  cases a <;> cases b <;> simp_all [eqK]
@[simp] theorem eqK_int {a b : Int} : eqK (.int a) (.int b) = decide (a = b) := rfl
@[simp] theorem eqK_str {a b : List Nat} : eqK (.str a) (.str b) = decide (a = b) := rfl
@[simp] theorem eqK_is {a : Int} {b : List Nat} : eqK (.int a) (.str b) = false := rfl
@[simp] theorem eqK_si {a : Int} {b : List Nat} : eqK (.str b) (.int a) = false := rfl
theorem eqK_comm {a b : MV} : eqK a b = eqK b a := by
  cases a <;> cases b <;> simp [eqK, eq_comm]
theorem getK_map {k k' x : MV} : ∀ kvs : List (MV × MV), getK (kvs.map fun p => if eqK p.1 k = true then (p.1, x) else p) k' = if eqK k k' = true then (if (kvs.any fun p => eqK p.1 k) = true then some x else none) else getK kvs k'
  | [] => by simp [getK]
  | (a, y) :: r => by
    have ih := getK_map (k := k) (k' := k') (x := x) r
    by_cases h : eqK a k = true
    · have := eqK_to h
      subst this
      by_cases h2 : eqK a k' = true
      · simp [getK, h, h2]
      · simp [getK, h, h2] at ih ⊢
        exact ih
    · by_cases h2 : eqK k k' = true
      · have := eqK_to h2
        subst this
        have hf : eqK a k = false := by simpa using h
        simp only [List.map_cons, hf, Bool.false_eq_true, if_false, getK, ih, h2, if_true, List.any_cons, Bool.false_or]
      · have hf : eqK a k = false := by simpa using h
        simp only [List.map_cons, hf, Bool.false_eq_true, if_false, getK, ih, if_neg h2]
theorem getK_app {k k' x : MV} : ∀ kvs : List (MV × MV), getK (kvs ++ [(k, x)]) k' = match getK kvs k' with | some y => some y | none => if eqK k k' = true then some x else none
  | [] => by simp [getK]
  | (a, y) :: r => by
    have ih := getK_app (k := k) (k' := k') (x := x) r
    by_cases h : eqK a k' = true
    · simp [getK, h]
    · simp [getK, h, ih]
theorem getK_none {k : MV} : ∀ kvs : List (MV × MV), (kvs.any fun p => eqK p.1 k) = false → getK kvs k = none
  | [], _ => rfl
  | (a, y) :: r, h => by
    simp only [List.any_cons, Bool.or_eq_false_iff] at h
    simp [getK, h.1, getK_none r h.2]
theorem getK_setK {kvs : List (MV × MV)} {k k' x : MV} : getK (setK kvs k x) k' = if eqK k k' = true then some x else getK kvs k' := by
  unfold setK
  by_cases h : (kvs.any fun p => eqK p.1 k) = true
  · rw [if_pos h, getK_map, if_pos h]
  · rw [if_neg h, getK_app]
    by_cases h2 : eqK k k' = true
    · have := eqK_to h2
      subst this
      rw [getK_none kvs (by simpa using h), if_pos h2]
    · simp only [if_neg h2]
      cases getK kvs k' <;> rfl
@[simp] theorem getK_setI {kvs : List (MV × MV)} {a b : Int} {x : MV} : getK (setK kvs (.int a) x) (.int b) = if a = b then some x else getK kvs (.int b) := by simp [getK_setK]
@[simp] theorem getK_setS {kvs : List (MV × MV)} {a b : List Nat} {x : MV} : getK (setK kvs (.str a) x) (.str b) = if a = b then some x else getK kvs (.str b) := by simp [getK_setK]
theorem setK_len {kvs : List (MV × MV)} {k x : MV} : (setK kvs k x).length ≤ kvs.length + 1 := by
  unfold setK; split <;> simp
section
variable {s : MS} {n c j : Nat} {kvs : List (MV × MV)} {xs : List MV} {fs : List (Option SV)} {k x : MV} {r : RV} {z : List Nat}
theorem dict_box (h : s.hp[n]? = some (.box (.dict kvs))) : dictOf s (.v (.ref n)) = some kvs := by simp [dictOf, cont, h]
theorem dict_boxL (h : s.hp[n]? = some (.box (.lst xs))) : dictOf s (.v (.ref n)) = none := by simp [dictOf, cont, h]
theorem dict_fld (h : s.hp[n]? = some (.inst c fs)) (h2 : fs[j]? = some (some (.own (.dict kvs)))) : dictOf s (.fld n j) = some kvs := by simp [dictOf, cont, h, h2]
@[simp] theorem dict_lst : dictOf s (.v (.lst xs)) = none := rfl
@[simp] theorem dict_tup : dictOf s (.v (.tup xs)) = none := rfl
@[simp] theorem dict_str : dictOf s (.v (.str z)) = none := rfl
@[simp] theorem dict_own : dictOf s (.own (.lst xs)) = none := rfl
@[simp] theorem e_ixAL : opIxA (.v (.lst xs)) r s = opIx (.v (.lst xs)) r s := rfl
@[simp] theorem e_ixAT : opIxA (.v (.tup xs)) r s = opIx (.v (.tup xs)) r s := rfl
@[simp] theorem e_ixAS : opIxA (.v (.str z)) r s = opIx (.v (.str z)) r s := rfl
@[simp] theorem e_ixAO : opIxA (.own (.lst xs)) r s = opIx (.own (.lst xs)) r s := rfl
theorem e_ixAR {k : Int} (h : s.hp[n]? = some (.box (.lst xs))) : opIxA (.v (.ref n)) (.v (.int k)) s = match atI xs k with | some x => .ok (.v x) s | none => .bad := by
  have : dictOf s (.v (.ref n)) = none := dict_boxL h
  unfold opIxA; rw [this]; exact e_ixR h
theorem e_ixAD (h : dictOf s r = some kvs) (hk : (keyOf k).isSome = true) (hx : getK kvs k = some x) : opIxA r (.v k) s = .ok (.v x) s := by
  unfold opIxA; rw [h]
  obtain ⟨q, e⟩ := Option.isSome_iff_exists.mp hk
  simp only [e, hx]
theorem e_inAD {neg : Bool} (h : dictOf s r = some kvs) (hk : (keyOf k).isSome = true) : opInA neg (.v k) r s = .ok (.v (.bl (neg ^^ (getK kvs k).isSome))) s := by
  unfold opInA; rw [h]
  obtain ⟨q, e⟩ := Option.isSome_iff_exists.mp hk
  simp only [e]
@[simp] theorem e_SetIxA {fe fo fi : ME} : mSetIxA fe fo fi s = (fe s).bind fun r0 s0 => (share r0 s0).bind fun x s1 => (fo s1).bind fun r s2 => (fi s2).bind fun i s3 => setIxA r i x s3 := by
  show ((fe s).bind fun r s1 => share r s1).bind _ = _
  cases fe s <;> rfl
theorem e_setAR {k : Int} {j : Nat} (h : s.hp[n]? = some (.box (.lst xs))) (hj : ixN xs.length k = some j) : setIxA (.v (.ref n)) (.v (.int k)) x s = .ok .next { s with hp := s.hp.set n (.box (.lst (xs.set j x))) } := by
  simp [setIxA, place, h, hj, putC]
theorem e_setAD (h : s.hp[n]? = some (.box (.dict kvs))) (hk : (keyOf k).isSome = true) (hl : kvs.length < sizeLine) : setIxA (.v (.ref n)) (.v k) x s = .ok .next { s with hp := s.hp.set n (.box (.dict (setK kvs k x))) } := by
  obtain ⟨q, e⟩ := Option.isSome_iff_exists.mp hk
  simp [setIxA, place, h, e, hl, putC]
theorem e_setAF (h : s.hp[n]? = some (.inst c fs)) (h2 : fs[j]? = some (some (.own (.dict kvs)))) (hk : (keyOf k).isSome = true) (hl : kvs.length < sizeLine) :
    setIxA (.fld n j) (.v k) x s = .ok .next { s with hp := s.hp.set n (.inst c (fs.set j (some (.own (.dict (setK kvs k x)))))) } := by
  obtain ⟨q, e⟩ := Option.isSome_iff_exists.mp hk
  simp [setIxA, place, h, h2, e, hl, putC, putFld]
@[simp] theorem e_Get2 {fo fe ff : ME} : mGet2 fo fe ff s = (fo s).bind fun r s1 => match dictOf s1 r with
  | some _ => (fe s1).bind fun q0 t1 => (share q0 t1).bind fun q s2 => (ff s2).bind fun d0 t2 => (share d0 t2).bind fun d s3 => match dictOf s3 r with
    | some kvs => match keyOf q with
      | some _ => .ok (.v ((getK kvs q).getD d)) s3
      | none => .bad
    | none => .bad
  | none => .bad := by
  unfold mGet2
  congr 1
  funext r s1
  cases dictOf s1 r with
  | none => rfl
  | some u =>
    show ((fe s1).bind fun r s1 => share r s1).bind _ = _
    cases fe s1 with
    | ok a t1 =>
      show (share a t1).bind _ = (share a t1).bind _
      congr 1
      funext q s2
      show ((ff s2).bind fun r s1 => share r s1).bind _ = _
      cases ff s2 <;> rfl
    | exc c xs t1 => rfl
    | bad => rfl
/-- d.setdefault(k, x) at a box -/
theorem e_Setd {fo fe ff : ME} {s1 s2 s3 : MS} {q d : MV} {kv0 : List (MV × MV)} (ho : fo s = .ok (.v (.ref n)) s1) (h1 : dictOf s1 (.v (.ref n)) = some kv0) (he : mSh fe s1 = .ok q s2) (hf : mSh ff s2 = .ok d s3)
    (h : s3.hp[n]? = some (.box (.dict kvs))) (hk : (keyOf q).isSome = true) (hl : kvs.length < sizeLine) :
    mSetd fo fe ff s = match getK kvs q with
      | some x => .ok (.v x) s3
      | none => .ok (.v d) { s3 with hp := s3.hp.set n (.box (.dict (setK kvs q d))) } := by
  obtain ⟨k0, e⟩ := Option.isSome_iff_exists.mp hk
  unfold mSetd
  simp only [ho, Out.bind_ok, h1, he, hf, place, h, e, hl, if_true, putC]
  all_goals (cases getK kvs q <;> rfl)
@[simp] theorem e_EnumP {fs : MS → Out (List RV)} : mEnumP fs s = (fs s).bind fun rs s1 => match rs with
  | [r, .v (.int k)] => if -(2 ^ 63) ≤ k ∧ k < 2 ^ 63 then (itOf r s1).bind fun I s2 => .ok ⟨enumItems k I.items, I.chk⟩ s2 else .bad
  | _ => .bad := rfl
theorem e_putS {fs : List (Option SV)} (h : s.hp[n]? = some (.inst c fs)) (hj : noOwn fs[j]? = true ∨ s.base ≤ n) : putFldS c j n (.v x) s = .ok .next { s with hp := s.hp.set n (.inst c (fs.set j (some (.v x)))) } := by
  unfold putFldS; rw [h]; simp only
  simp only [hj, and_self, if_true]; rfl
theorem e_putSO {fs : List (Option SV)} {C : C} (h : s.hp[n]? = some (.inst c fs)) (hj : noOwn fs[j]? = true ∨ s.base ≤ n) : putFldS c j n (.own C) s = .ok .next { s with hp := s.hp.set n (.inst c (fs.set j (some (.own C)))) } := by
  unfold putFldS; rw [h]; simp only
  simp only [hj, and_self, if_true]
/-- a field's text that grows -/
theorem e_AugFldS {fo fe : ME} {s1 s2 : MS} {a b : List Nat} (ho : fo s = .ok (.v (.ref n)) s1) (h1 : s1.hp[n]? = some (.inst c fs)) (h2 : fs[j]? = some (some (.v (.str a)))) (he : fe s1 = .ok (.v (.str b)) s2) (h3 : s2.hp[n]? = some (.inst c fs)) (hz : a.length + b.length ≤ sizeLine) :
    mAugFld c j opIAdd fo fe s = .ok .next { s2 with hp := s2.hp.set n (.inst c (fs.set j (some (.v (.str (a ++ b)))))) } := by
  unfold mAugFld
  simp only [ho, Out.bind_ok, h1, if_true, h2, he]
  simp only [isScal, and_self, if_true, opIAdd, hz, Out.bind_ok]
  exact e_putS h3 (.inl (by rw [h2]; rfl))
end
/-! loops with a count -/
theorem forGo_ix {chk : MS → Prop} {tg : MG} {body : MSt} (P : Nat → MS → Prop) (hc : ∀ i s, P i s → chk s) : ∀ (xs : List MV) (m : Nat) (s : MS), P m s → (∀ i x, xs[i]? = some x → ∀ s, P (m + i) s → ∃ s1, tg x s = some s1 ∧ Ok (body s1) fun fl s2 => fl = .next ∧ P (m + i + 1) s2) →
    Ok (forGo chk tg body xs s) fun fl s2 => fl = .next ∧ P (m + xs.length) s2
  | [], m, s, p, _ => by unfold forGo; rw [if_pos (hc m s p)]; exact ⟨rfl, p⟩
  | x :: xs, m, s, p, h => by
    unfold forGo
    rw [if_pos (hc m s p)]
    obtain ⟨s1, e, k⟩ := h 0 x rfl s p
    obtain ⟨fl, s2, e2, rfl, p2⟩ := k.get
    rw [e]
    simp only [e2, Out.bind_ok]
    have := forGo_ix P hc xs (m + 1) s2 p2 fun i y hy s ps => by
      have := h (i + 1) y (by simpa using hy) s (by rw [show m + (i + 1) = m + 1 + i by omega]; exact ps)
      rwa [show m + (i + 1) + 1 = m + 1 + i + 1 by omega] at this
    rwa [show m + 1 + xs.length = m + (x :: xs).length by simp; omega] at this
/-- while with a bound -/
theorem while_ok {ft : MS → Out Bool} {fb : MSt} (P : Nat → MS → Prop) (Q : MS → Prop) (h : ∀ n s, P n s → (ft s = .ok false s ∧ Q s) ∨ ∃ m s2, n = m + 1 ∧ ft s = .ok true s ∧ fb s = .ok .next s2 ∧ P m s2) :
    ∀ n s, P n s → ∃ s', mWhile ft fb s = .ok .next s' ∧ Q s' := by
  have key : ∀ n s, P n s → ∃ s', whGo ft fb (n + 1) s = .ok .next s' ∧ Q s' := by
    intro n
    induction n with
    | zero =>
      intro s p
      rcases h 0 s p with ⟨e, q⟩ | ⟨m, s2, z, _⟩
      · exact ⟨s, by unfold whGo; simp [e], q⟩
      · omega
    | succ n ih =>
      intro s p
      rcases h (n + 1) s p with ⟨e, q⟩ | ⟨m, s2, z, e, e2, p2⟩
      · exact ⟨s, by unfold whGo; simp [e], q⟩
      · have : m = n := by omega
        subst this
        obtain ⟨s', e3, q⟩ := ih s2 p2
        refine ⟨s', ?_, q⟩
        rw [show whGo ft fb (m + 1 + 1) s = (ft s).bind fun b s1 => if b = true then (fb s1).bind fun fl s2 => match fl with
          | .next => whGo ft fb (m + 1) s2
          | .ret r => .ok (.ret r) s2 else .ok .next s1 from rfl]
        simp [e, e2, e3]
  intro n s p
  obtain ⟨s', e, q⟩ := key n s p
  exact ⟨s', by rw [while_eq (n := n + 1) (by rw [e]; simp), e], q⟩
/-! == of one and the same -/
mutual
theorem eqv_self : ∀ d : PyData, d.canLay0 = true → PyData.eqv d d = true
  | .none, _ => rfl
  | .bool b, _ => by simp [PyData.eqv]
  | .int i, _ => by simp [PyData.eqv]
  | .str x, _ => by simp [PyData.eqv]
  | .list xs, h => by unfold PyData.eqv; exact eqvAll_self xs (by simpa [PyData.canLay0] using h)
  | .tuple xs, h => by unfold PyData.eqv; exact eqvAll_self xs (by simpa [PyData.canLay0] using h)
  | .dict _, h => by simp [PyData.canLay0] at h
theorem eqvAll_self : ∀ ds : List PyData, PyData.canLayAll0 ds = true → PyData.eqvAll ds ds = true
  | [], _ => rfl
  | d :: ds, h => by
    simp only [PyData.canLayAll0, Bool.and_eq_true] at h
    unfold PyData.eqvAll
    rw [eqv_self d h.1, eqvAll_self ds h.2]; rfl
end
theorem e_eqSame {neg : Bool} {r1 r2 : RV} {s : MS} {d : PyData} (h1 : rpd s r1 = some d) (h2 : rpd s r2 = some d) (hs : SeqAt.shaped d = true) : opEqv neg r1 r2 s = .ok (.v (.bl (neg ^^ true))) s := by
  have : d.canLay0 = true := by unfold SeqAt.shaped at hs; exact (Bool.and_eq_true .. ▸ hs).1
  unfold opEqv
  simp only [h1, h2, hs, and_self, if_true, eqv_self d this]
/-! the scripts' pools -/
def PoolAt (hp : List MO) (n : Nat) : Prop := ∃ A B : Int, hp[n]? = some (.box (.lst [.int A, .int B])) ∧ 0 ≤ A ∧ 0 ≤ B ∧ B < 2147483647
/-- one place of the heap was written -/
def Fr (n : Nat) (hp hp' : List MO) : Prop := hp'.length = hp.length ∧ ∀ q, q ≠ n → hp'[q]? = hp[q]?
theorem Fr.refl {n : Nat} {hp : List MO} : Fr n hp hp := ⟨rfl, fun _ _ => rfl⟩
theorem Fr.trans {n : Nat} {hp hp1 hp2 : List MO} (a : Fr n hp hp1) (b : Fr n hp1 hp2) : Fr n hp hp2 := ⟨b.1.trans a.1, fun q h => (b.2 q h).trans (a.2 q h)⟩
theorem Fr.set {n : Nat} {hp : List MO} {o : MO} : Fr n hp (hp.set n o) := ⟨by simp, fun q h => by rw [List.getElem?_set_ne (Ne.symm h)]⟩
theorem ixN_at {l : Nat} {v : Int} (h0 : 0 ≤ v) (h1 : v < l) : ixN l v = some v.toNat := by
  unfold ixN; rw [if_pos h0, if_pos (by omega)]
theorem at_mem {α : Type} {xs : List α} {v : Int} (h0 : 0 ≤ v) (h1 : v < xs.length) : ∃ x, atI xs v = some x ∧ x ∈ xs := by
  have hl : v.toNat < xs.length := by omega
  exact ⟨xs[v.toNat], by unfold atI; rw [ixN_at h0 h1]; simp [hl], List.getElem_mem hl⟩
noncomputable def takeB (a c d : Int) : MSt := (mSeq (mIf (mTestB (mBin opGt (mBin opIxA (mVar 0) (mC (.int 0))) (mC (.int 0)))) (mSeq (mSet 2 (mBin opMod (mBin opIxA (mVar 0) (mC (.int 0))) (mVar 1))) (mSeq (mSetIxA (mBin opDiv (mBin opIxA (mVar 0) (mC (.int 0))) (mVar 1)) (mVar 0) (mC (.int 0))) (mRet (mVar 2)))) mNext) (mSeq (mSetIxA (mBin opMod (mBin opAdd (mBin opMul (mBin opIxA (mVar 0) (mC (.int 1))) (mC (.int a))) (mC (.int c))) (mC (.int 2147483647))) (mVar 0) (mC (.int 1))) (mRet (mBin opMod (mBin opDiv (mBin opMod (mBin opMul (mBin opIxA (mVar 0) (mC (.int 1))) (mBin opIxA (mVar 0) (mC (.int 1)))) (mC (.int 2147483629))) (mC (.int d))) (mVar 1)))))
theorem take_ok (a c d : Int) (ha : 0 ≤ a) (ha2 : a < 2 ^ 60) (hc : 0 ≤ c) (hd0 : 0 < d) (hd : d < 1073741824) (hp : List MO) (n : Nat) (m : Int) (h1 : 1 ≤ m) (h2 : m < 1073741824) (h : PoolAt hp n) :
    ∃ (v : Int) (hp' : List MO), runOf 3 (takeB a c d) [.ref n, .int m] hp = .ok (.v (.int v)) hp' ∧ 0 ≤ v ∧ v < m ∧ PoolAt hp' n ∧ Fr n hp hp' := by
  obtain ⟨A, B, e, hA, hB, hB2⟩ := h
  have hn : n < hp.length := (List.getElem?_eq_some_iff.mp e).1
  have hm : 0 < m := by omega
  have hcd : ∀ i, CDiv i m := fun i => ⟨hm, h2⟩
  have i0 : ∀ a b : MV, atI [a, b] 0 = some a := fun _ _ => rfl
  have i1 : ∀ a b : MV, atI [a, b] 1 = some b := fun _ _ => rfl
  have j0 : ∀ a b : MV, ixN [a, b].length 0 = some 0 := fun _ _ => rfl
  have j1 : ∀ a b : MV, ixN [a, b].length 1 = some 1 := fun _ _ => rfl
  by_cases hg : 0 < A
  · refine ⟨A % m, hp.set n (.box (.lst [.int (A / m), .int B])), by unfold takeB runOf env0; simp [e_ixAR (s := ⟨_, hp, _⟩) e, e_setAR (s := ⟨_, hp, _⟩) e (j0 _ _), i0, i1, hm, hcd, hg], Int.emod_nonneg _ (by omega), Int.emod_lt_of_pos _ hm, ⟨A / m, B, by simp [hn], Int.ediv_nonneg hA (by omega), hB, hB2⟩, Fr.set⟩
  · obtain ⟨B', hB'⟩ : ∃ x, x = (B * a + c) % 2147483647 := ⟨_, rfl⟩
    have b0' : 0 ≤ B' := by omega
    have b1' : B' < 2147483647 := by omega
    have e2 : (hp.set n (.box (.lst [.int A, .int B'])))[n]? = some (.box (.lst [.int A, .int B'])) := by simp [hn]
    have hdd : ∀ i, CDiv i d := fun i => ⟨hd0, hd⟩
    have hmm : CMul B' B' := .inl ⟨by omega, by omega⟩
    have hma : CMul B a := .inl ⟨by omega, by omega⟩
    refine ⟨B' * B' % 2147483629 / d % m, hp.set n (.box (.lst [.int A, .int B'])), by
      unfold takeB runOf env0
      simp [e_ixAR (s := ⟨_, hp, _⟩) e, e_setAR (s := ⟨_, hp, _⟩) e (j1 _ _), e_ixAR (s := ⟨_, hp.set n _, _⟩) e2, i0, i1, hm, hcd, hg, hma, ← hB', hdd, hmm], Int.emod_nonneg _ (by omega), Int.emod_lt_of_pos _ hm, ⟨A, B', e2, hA, b0', b1'⟩, Fr.set⟩
def Low (z : List Nat) : Prop := ∀ c ∈ z, 97 ≤ c ∧ c ≤ 122
theorem cut_map (ns : List Int) (lo hi : Option Int) : cutM (ns.map MV.int) lo hi = (cutM ns lo hi).map MV.int := by
  unfold cutM; simp
theorem cut_len {α : Type} (ns : List α) (lo hi : Option Int) : (cutM ns lo hi).length ≤ ns.length := by
  unfold cutM; simp; omega
theorem at0 (l : List Int) : ∃ c : Int, atI (l.map MV.int ++ [.int 0]) 0 = some (.int c) := by
  cases l with
  | nil => exact ⟨0, rfl⟩
  | cons x r => exact ⟨x, by
    have : ixN ((x :: r).map MV.int ++ [MV.int 0]).length 0 = some 0 := by
      unfold ixN; rw [if_pos (by decide), if_pos (by simp; omega)]; rfl
    unfold atI; rw [this]; rfl⟩
theorem low_text {z : List Nat} (h : Low z) : z.all (· < 0x110000) = true := by
  simp only [List.all_eq_true, decide_eq_true_eq]
  exact fun c hc => by have := h c hc; omega
end Mi
set_option Elab.async false
set_option linter.all false
set_option maxRecDepth 100000
set_option maxHeartbeats 4000000
namespace Mi
open PySem PySem.Spec PyProof.Rows L2
section
variable {s : MS} {n c : Nat} {xs : List MV} {f fo fa fb fc fe : ME} {fv fk : MS → Out (List MV)} {fs : MS → Out (List RV)} {run : Fn}
@[simp] theorem e_MethK {np nk : Nat} {idx : List Nat} : mMethK c run n np nk idx fo fv fk s = (fo s).bind fun r s1 => match r with
  | .v (.ref q) => match s1.hp[q]? with
    | some (.inst c' _) => if c' = c then (fv s1).bind fun xs s2 => (fk s2).bind fun ys s3 => if xs.length + 1 = np ∧ ys.length = nk ∧ (permL idx (.ref q :: xs ++ ys)).length = n then mRun run (permL idx (.ref q :: xs ++ ys)) s3 else .bad else .bad
    | _ => .bad
  | _ => .bad := rfl
@[simp] theorem e_MethD {dm : List MV} : mMethD c run n fo dm s = (fo s).bind fun r s1 => match r with
  | .v (.ref q) => match s1.hp[q]? with
    | some (.inst c' _) => if c' = c ∧ dm.length + 1 = n then mRun run (.ref q :: dm) s1 else .bad
    | _ => .bad
  | _ => .bad := rfl
@[simp] theorem e_AppO : mAppO fo fv s = (fo s).bind fun r s1 => match r with
  | .own (.lst xs) => (fv s1).bind fun rs s2 => match rs with
    | [_] => if xs.length < sizeLine then .ok (.v .non) s2 else .bad
    | _ => .bad
  | _ => .bad := rfl
@[simp] theorem e_Isi {T : String} : mIsi T f s = (f s).bind fun r s1 => pIsi T r s1 := rfl
@[simp] theorem isi_ii {i : Int} : pIsi "int" (.v (.int i)) s = .ok (.v (.bl true)) s := rfl
theorem kit_ib : kitB "int" "bool" = some false := by decide +kernel
@[simp] theorem isi_ib {i : Int} : pIsi "bool" (.v (.int i)) s = .ok (.v (.bl false)) s := by
  unfold pIsi
  rw [show (kindR s (.v (.int i))).bind (fun k => kitB k "bool") = some false from kit_ib]
@[simp] theorem isi_ss {z : List Nat} : pIsi "str" (.v (.str z)) s = .ok (.v (.bl true)) s := rfl
@[simp] theorem isi_tt : pIsi "tuple" (.v (.tup xs)) s = .ok (.v (.bl true)) s := rfl
@[simp] theorem isi_lo : pIsi "list" (.own (.lst xs)) s = .ok (.v (.bl true)) s := rfl
@[simp] theorem e_Chain {p p' : RV → RV → MS → Out RV} : mChain p p' fa fb fc s = (fa s).bind fun r1 s1 => (fb s1).bind fun r2 s2 => if isScal r2 = true then (p r1 r2 s2).bind fun z s3 => match z with
  | .v (.bl true) => (fc s3).bind fun r3 s4 => p' r2 r3 s4
  | .v (.bl false) => .ok (.v (.bl false)) s3
  | _ => .bad
  else .bad := rfl
@[simp] theorem scal_i {i : Int} : isScal (.v (.int i)) = true := rfl
@[simp] theorem scal_s {z : List Nat} : isScal (.v (.str z)) = true := rfl
@[simp] theorem e_Range2 : mRange2 fs s = (fs s).bind fun rs s1 => match rs with
  | [.v (.int a), .v (.int b)] => if -(2 ^ 62) ≤ a ∧ a < 2 ^ 62 ∧ -(2 ^ 62) ≤ b ∧ b < 2 ^ 62 then .ok ⟨(List.range (b - a).toNat).map fun i : Nat => .int (a + i), fun _ => True⟩ s1 else .bad
  | _ => .bad := rfl
theorem e_lenR (h : s.hp[n]? = some (.box (.lst xs))) : pLen [.v (.ref n)] s = .ok (.v (.int xs.length)) s := by
  have : seqOf s (.v (.ref n)) = some xs := by simp [seqOf, cont, h]
  show (match seqOf s (.v (.ref n)) with | some xs => Out.ok (RV.v (.int xs.length)) s | none => .bad) = _
  rw [this]
theorem e_lenF {fs : List (Option SV)} {j : Nat} (h : s.hp[n]? = some (.inst c fs)) (h2 : fs[j]? = some (some (.own (.lst xs)))) : pLen [.fld n j] s = .ok (.v (.int xs.length)) s := by
  have : seqOf s (.fld n j) = some xs := by simp [seqOf, cont, h, h2]
  show (match seqOf s (.fld n j) with | some xs => Out.ok (RV.v (.int xs.length)) s | none => .bad) = _
  rw [this]
theorem e_itR (h : s.hp[n]? = some (.box (.lst xs))) : itOf (.v (.ref n)) s = .ok ⟨xs, fun s' => s'.base = s.base ∧ seqOf s' (.v (.ref n)) = some xs⟩ s := by
  have : seqOf s (.v (.ref n)) = some xs := by simp [seqOf, cont, h]
  show itP (.v (.ref n)) s = _
  unfold itP
  rw [this]
theorem e_itF {fs : List (Option SV)} {j : Nat} (h : s.hp[n]? = some (.inst c fs)) (h2 : fs[j]? = some (some (.own (.lst xs)))) (hb : n < s.base) : itOf (.fld n j) s = .ok ⟨xs, fun s' => s'.base = s.base ∧ seqOf s' (.fld n j) = some xs⟩ s := by
  have : seqOf s (.fld n j) = some xs := by simp [seqOf, cont, h, h2]
  show (if n < s.base then itP (.fld n j) s else .bad) = _
  rw [if_pos hb]
  unfold itP
  rw [this]
theorem e_ixAF {fs : List (Option SV)} {j : Nat} {k : Int} (h : s.hp[n]? = some (.inst c fs)) (h2 : fs[j]? = some (some (.own (.lst xs)))) : opIxA (.fld n j) (.v (.int k)) s = match atI xs k with | some x => .ok (.v x) s | none => .bad := by
  have hd : dictOf s (.fld n j) = none := by simp [dictOf, cont, h, h2]
  have : seqOf s (.fld n j) = some xs := by simp [seqOf, cont, h, h2]
  unfold opIxA; rw [hd]
  show (match seqOf s (.fld n j) with | some xs => (match atI xs k with | some x => Out.ok (RV.v x) s | none => .bad) | none => .bad) = _
  rw [this]
/-- x.f.append(y) -/
theorem e_AppF {fs : List (Option SV)} {j : Nat} {y : MV} {s1 : MS} (ho : fo s = .ok (.fld n j) s) (h : s.hp[n]? = some (.inst c fs)) (h2 : fs[j]? = some (some (.own (.lst xs)))) (hy : fv s = .ok [y] s) (hz : xs.length < sizeLine) :
    mLM lAppend fo fv s = .ok (.v .non) { s with hp := s.hp.set n (.inst c (fs.set j (some (.own (.lst (xs ++ [y])))))) } := by
  unfold mLM
  simp [ho, place, h, h2, hy, lAppend, hz, putC, putFld]
theorem e_AppR {y : MV} {s2 : MS} (ho : fo s = .ok (.v (.ref n)) s) (h : s.hp[n]? = some (.box (.lst xs))) (hy : fv s = .ok [y] s) (hz : xs.length < sizeLine) :
    mLM lAppend fo fv s = .ok (.v .non) { s with hp := s.hp.set n (.box (.lst (xs ++ [y]))) } := by
  unfold mLM
  simp [ho, place, h, hy, lAppend, hz, putC]
end
theorem bls_true (z : List MV) : ∀ k : Nat, blsOf (List.replicate k (.bl true)) = some (List.replicate k true)
  | 0 => rfl
  | k + 1 => by
    rw [List.replicate_succ, List.replicate_succ]
    show (blsOf (List.replicate k (.bl true))).map (true :: ·) = _
    rw [bls_true z k]; rfl
/-! lists of data -/
theorem pds_map {α : Type} {f : α → MV} {g : α → PyData} : ∀ L : List α, (∀ a ∈ L, pd (f a) = some (g a)) → pds (L.map f) = some (L.map g)
  | [], _ => rfl
  | a :: L, h => by
    show (match pd (f a), pds (L.map f) with | some d, some ds => some (d :: ds) | _, _ => none) = _
    rw [h a (List.mem_cons_self ..), pds_map L fun b hb => h b (List.mem_cons_of_mem _ hb)]
    rfl
theorem canLay_map {α : Type} {g : α → PyData} : ∀ L : List α, (∀ a ∈ L, (g a).canLay0 = true) → PyData.canLayAll0 (L.map g) = true
  | [], _ => rfl
  | a :: L, h => by
    simp only [List.map_cons, PyData.canLayAll0, Bool.and_eq_true]
    exact ⟨h a (List.mem_cons_self ..), canLay_map L fun b hb => h b (List.mem_cons_of_mem _ hb)⟩
theorem depth_map {α : Type} {g : α → PyData} {D : Nat} : ∀ L : List α, (∀ a ∈ L, (g a).depth ≤ D) → PyData.depthAll (L.map g) ≤ D
  | [], _ => Nat.zero_le _
  | a :: L, h => by
    simp only [List.map_cons, PyData.depthAll]
    exact Nat.max_le.mpr ⟨h a (List.mem_cons_self ..), depth_map L fun b hb => h b (List.mem_cons_of_mem _ hb)⟩
theorem shaped_map {α : Type} {g : α → PyData} (L : List α) (h : ∀ a ∈ L, (g a).canLay0 = true ∧ (g a).depth ≤ 60) : SeqAt.shaped (.list (L.map g)) = true := by
  have h1 := canLay_map L fun a ha => (h a ha).1
  have h2 := depth_map L fun a ha => (h a ha).2
  unfold SeqAt.shaped
  rw [Bool.and_eq_true]
  refine ⟨by simpa [PyData.canLay0] using h1, ?_⟩
  rw [decide_eq_true_eq]
  show PyData.depthAll (L.map g) + 1 ≤ 64
  omega
/-- two equal lists of data -/
theorem e_eqList {α : Type} {f : α → MV} {g : α → PyData} {neg : Bool} {s : MS} (L : List α) (h : ∀ a ∈ L, pd (f a) = some (g a) ∧ (g a).canLay0 = true ∧ (g a).depth ≤ 60) :
    opEqv neg (.own (.lst (L.map f))) (.own (.lst (L.map f))) s = .ok (.v (.bl (neg ^^ true))) s := by
  have hr : rpd s (.own (.lst (L.map f))) = some (.list (L.map g)) := by
    show (pds (L.map f)).map PyData.list = _
    rw [pds_map L fun a ha => (h a ha).1]; rfl
  exact e_eqSame hr hr (shaped_map L fun a ha => (h a ha).2)
theorem strOk_low {z : List Nat} (h : Low z) : PyData.strOk ⟨z.toArray⟩ = true := by have := low_text h; simpa [PyData.strOk] using this
/-! the weight of signs -/
abbrev ABC : List Nat := [97, 98, 99, 100, 101, 102, 103, 104, 105, 106, 107, 108, 109, 110, 111, 112, 113, 114, 115, 116, 117, 118, 119, 120, 121, 122]
theorem abc_mem {c : Nat} (h1 : 97 ≤ c) (h2 : c ≤ 122) : c ∈ ABC := by
  have : ∀ k : Fin 26, 97 + k.val ∈ ABC := by decide
  have := this ⟨c - 97, by omega⟩
  rwa [show 97 + (c - 97) = c by omega] at this
def wt (p : Nat × Nat) : Int := (1 + (p.2 : Nat)) * (1 + ((p.1 - 97 : Nat) : Int))
def wsum (z : List Nat) : Int := (z.zipIdx.map wt).sum
theorem zip_mem {z : List Nat} {p : Nat × Nat} (h : p ∈ z.zipIdx) : p.2 < z.length ∧ p.1 ∈ z := by
  obtain ⟨i, hi⟩ := List.mem_iff_getElem?.mp h
  simp only [List.getElem?_zipIdx, Option.map_eq_some_iff] at hi
  obtain ⟨a, ha, e⟩ := hi
  subst e
  exact ⟨by simpa using (List.getElem?_eq_some_iff.mp ha).1, List.mem_of_getElem? ha⟩
theorem occ26 : ∀ k : Fin 26, ∃ r, Builtin.Str.occurrences ⟨List.toArray ABC⟩ ⟨List.toArray [97 + k.val]⟩ 0 26 1 = k.val :: r := by
  have : ∀ k : Fin 26, Builtin.Str.occurrences ⟨List.toArray ABC⟩ ⟨List.toArray [97 + k.val]⟩ 0 26 1 = [k.val] := by decide +kernel
  exact fun k => ⟨[], this k⟩
theorem index26 {c : Nat} {s : MS} (h1 : 97 ≤ c) (h2 : c ≤ 122) : pIndexS ABC [.v (.str [c])] s = .ok (.v (.int ((c - 97 : Nat) : Int))) s := by
  obtain ⟨r, e⟩ := occ26 ⟨c - 97, by omega⟩
  have e1 : 97 + (c - 97) = c := by omega
  simp only [e1] at e
  have e2 : ∀ y : List Nat, pIndexS ABC [.v (.str y)] s = match Builtin.Str.occurrences ⟨List.toArray ABC⟩ ⟨y.toArray⟩ 0 26 1 with | i :: _ => .ok (.v (.int i)) s | [] => .bad := fun _ => rfl
  rw [e2, e]
noncomputable def sumB : MSt := (mRet (mCallB pSum (mCons (mLc [1, 2] (mEnum 1 (mVar 0)) (gT 2 (gsCons (gN 1) (gsCons (gN 2) gsNil))) mYes (mBin opMul (mVar 1) (mBin opAdd (mC (.int 1)) (mSM pIndexS (mC (.str ABC)) (mCons (mVar 2) (fun s => .ok [] s)))))) (fun s => .ok [] s))))
theorem sum_ok (z : List Nat) (hz : z.length ≤ 1000) (hl : Low z) (hp : List MO) : runOf 3 sumB [.str z] hp = .ok (.v (.int (wsum z))) hp := by
  have key := lcGo_map (vs := [1, 2]) (chk := fun _ => True) (tg := gT 2 (gsCons (gN 1) (gsCons (gN 2) gsNil))) (te := mBin opMul (mVar 1) (mBin opAdd (mC (.int 1)) (mSM pIndexS (mC (.str ABC)) (mCons (mVar 2) (fun s => .ok [] s)))))
    (fun p : Nat × Nat => .tup [.int (1 + (p.2 : Nat)), .str [p.1]]) (fun p => .int (wt p)) ⟨[some (.v (.str z)), none, none], hp, hp.length⟩ trivial z.zipIdx [] (line1000 (by simpa using hz)) (fun p hp => by
      obtain ⟨h1, h2⟩ := zip_mem hp
      obtain ⟨l1, l2⟩ := hl _ h2
      have hm : CMul (1 + (p.2 : Int)) (1 + ((p.1 - 97 : Nat) : Int)) := .inr ⟨by omega, by omega⟩
      refine ⟨_, _, rfl, by simp [index26 l1 l2, hm]; exact ⟨rfl, rfl⟩, by simp [wipeM]⟩)
  unfold sumB runOf env0
  simp [e_Lc, e_Mt, enum_map, wipeM, key, backEnv, e_sumO (ints_map wt z.zipIdx), wsum]
end Mi
set_option Elab.async false
set_option linter.all false
set_option maxRecDepth 100000
set_option maxHeartbeats 4000000
namespace Mi
open PySem PySem.Spec PyProof.Rows L2
/-! a comprehension with a test -/
theorem lcGo_filt {α : Type} {vs : List Nat} {chk : MS → Prop} {tg : MG} {tt : MS → Out Bool} {te : ME} (F g : α → MV) (p : α → Bool) (s0 : MS) (hc : chk s0) : ∀ (L : List α) (acc : List MV), acc.length + L.length ≤ sizeLine →
    (∀ a ∈ L, ∃ s1 s2, tg (F a) s0 = some s1 ∧ tt s1 = .ok (p a) s2 ∧ (p a = false → { s2 with env := wipeM s2.env vs } = s0) ∧ (p a = true → ∃ s3, mSh te s2 = .ok (g a) s3 ∧ { s3 with env := wipeM s3.env vs } = s0)) →
    lcGo vs chk tg tt te (L.map F) acc s0 = .ok (acc ++ (L.filter p).map g) s0
  | [], acc, _, _ => by unfold lcGo; simp [hc]
  | a :: L, acc, hz, h => by
    obtain ⟨s1, s2, e1, e2, e3, e4⟩ := h a (List.mem_cons_self ..)
    simp only [List.length_cons] at hz
    rw [List.map_cons]
    unfold lcGo
    rw [if_pos hc, e1]
    simp only [e2, Out.bind_ok]
    cases hp : p a with
    | false =>
      simp only [Bool.false_eq_true, if_false]
      rw [e3 hp, lcGo_filt F g p s0 hc L acc (by omega) fun b hb => h b (List.mem_cons_of_mem _ hb)]
      simp [List.filter_cons, hp]
    | true =>
      obtain ⟨s3, e5, e6⟩ := e4 hp
      simp only [if_true, e5, Out.bind_ok]
      rw [if_pos (by omega), e6, lcGo_filt F g p s0 hc L (acc ++ [g a]) (by simp; omega) fun b hb => h b (List.mem_cons_of_mem _ hb)]
      simp [List.filter_cons, hp]
theorem e_eqGen {neg : Bool} {r1 r2 : RV} {s : MS} {d1 d2 : PyData} (h1 : rpd s r1 = some d1) (h2 : rpd s r2 = some d2) (hs : SeqAt.shaped d1 = true) (hs2 : SeqAt.shaped d2 = true) : opEqv neg r1 r2 s = .ok (.v (.bl (neg ^^ PyData.eqv d1 d2))) s := by
  unfold opEqv
  simp only [h1, h2, hs, hs2, and_self, if_true]
theorem bls_mapB {α : Type} (p : α → Bool) : ∀ L : List α, blsOf (L.map fun a => MV.bl (p a)) = some (L.map p)
  | [] => rfl
  | a :: L => by
    show (blsOf (L.map fun a => MV.bl (p a))).map (p a :: ·) = _
    rw [bls_mapB p L]; rfl
theorem e_allO {α : Type} (p : α → Bool) (L : List α) (s : MS) : pAll (·.all id) [.own (.lst (L.map fun a => MV.bl (p a)))] s = .ok (.v (.bl (L.all p))) s := by
  have : (lstOf s (.own (.lst (L.map fun a => MV.bl (p a))))).bind blsOf = some (L.map p) := bls_mapB p L
  unfold pAll
  simp only [this]
  simp [List.all_map, Function.comp_def]
theorem le1 {a c : Nat} {s : MS} : opLe2 (.v (.str [a])) (.v (.str [c])) s = .ok (.v (.bl (decide (a ≤ c)))) s := by
  show Out.ok (RV.v (MV.bl (!decide (([c] : List Nat) < [a])))) s = _
  have : (([c] : List Nat) < [a]) ↔ c < a := by simp [List.cons_lt_cons_iff]
  by_cases h : c < a
  · rw [decide_eq_true (this.mpr h), decide_eq_false (by omega)]; rfl
  · rw [decide_eq_false (fun z => h (this.mp z)), decide_eq_true (by omega)]; rfl
theorem abc_iff {c : Nat} : c ∈ ABC ↔ 97 ≤ c ∧ c ≤ 122 := ⟨fun h => by simp at h; omega, fun ⟨a, b⟩ => abc_mem a b⟩
theorem in_ABC {c : Nat} {s : MS} : opInA false (.v (.str [c])) (.v (.str ABC)) s = .ok (.v (.bl (decide (97 ≤ c ∧ c ≤ 122)))) s := by
  show Out.ok (RV.v (MV.bl (false ^^ decide (c ∈ ABC)))) s = _
  rw [show decide (c ∈ ABC) = decide (97 ≤ c ∧ c ≤ 122) from decide_eq_decide.mpr abc_iff, Bool.false_xor]
/-! isinstance of any value that is no object -/
def nref : MV → Prop
  | .ref _ => False
  | .dct ks vs => ks.length = vs.length
  | _ => True
def isI : MV → Bool
  | .int _ => true
  | .bl _ => true
  | _ => false
def isB : MV → Bool
  | .bl _ => true
  | _ => false
def isS : MV → Bool
  | .str _ => true
  | _ => false
def isT : MV → Bool
  | .tup _ => true
  | _ => false
theorem kd {ks vs : List MV} {s : MS} (h : nref (.dct ks vs)) : kindR s (.v (.dct ks vs)) = some "dict" := by
  have h : ks.length = vs.length := h
  show (match (if ks.length = vs.length then some (C.dict (ks.zip vs)) else none) with | some (.lst _) => some "list" | some (.dict _) => some "dict" | _ => none) = _
  rw [if_pos h]
theorem isi_I {v : MV} {s : MS} (h : nref v) : pIsi "int" (.v v) s = .ok (.v (.bl (isI v))) s := by
  cases v with
  | dct ks vs => unfold pIsi; rw [kd h, show ((some "dict").bind fun k => kitB k "int") = some false by decide +kernel]; rfl
  | ref n => exact h.elim
  | non => unfold pIsi; rw [show ((kindR s (.v .non)).bind fun k => kitB k "int") = some false from (by decide +kernel : kitB "NoneType" "int" = some false)]; rfl
  | str z => unfold pIsi; rw [show ((kindR s (.v (.str z))).bind fun k => kitB k "int") = some false from (by decide +kernel : kitB "str" "int" = some false)]; rfl
  | tup z => unfold pIsi; rw [show ((kindR s (.v (.tup z))).bind fun k => kitB k "int") = some false from (by decide +kernel : kitB "tuple" "int" = some false)]; rfl
  | lst z => unfold pIsi; rw [show ((kindR s (.v (.lst z))).bind fun k => kitB k "int") = some false from (by decide +kernel : kitB "list" "int" = some false)]; rfl
  | int z => rfl
  | bl z => unfold pIsi; rw [show ((kindR s (.v (.bl z))).bind fun k => kitB k "int") = some true from (by decide +kernel : kitB "bool" "int" = some true)]; rfl
theorem isi_B {v : MV} {s : MS} (h : nref v) : pIsi "bool" (.v v) s = .ok (.v (.bl (isB v))) s := by
  cases v with
  | dct ks vs => unfold pIsi; rw [kd h, show ((some "dict").bind fun k => kitB k "bool") = some false by decide +kernel]; rfl
  | ref n => exact h.elim
  | non => unfold pIsi; rw [show ((kindR s (.v .non)).bind fun k => kitB k "bool") = some false from (by decide +kernel : kitB "NoneType" "bool" = some false)]; rfl
  | str z => unfold pIsi; rw [show ((kindR s (.v (.str z))).bind fun k => kitB k "bool") = some false from (by decide +kernel : kitB "str" "bool" = some false)]; rfl
  | tup z => unfold pIsi; rw [show ((kindR s (.v (.tup z))).bind fun k => kitB k "bool") = some false from (by decide +kernel : kitB "tuple" "bool" = some false)]; rfl
  | lst z => unfold pIsi; rw [show ((kindR s (.v (.lst z))).bind fun k => kitB k "bool") = some false from (by decide +kernel : kitB "list" "bool" = some false)]; rfl
  | int z => unfold pIsi; rw [show ((kindR s (.v (.int z))).bind fun k => kitB k "bool") = some false from (by decide +kernel : kitB "int" "bool" = some false)]; rfl
  | bl z => rfl
theorem isi_S {v : MV} {s : MS} (h : nref v) : pIsi "str" (.v v) s = .ok (.v (.bl (isS v))) s := by
  cases v with
  | dct ks vs => unfold pIsi; rw [kd h, show ((some "dict").bind fun k => kitB k "str") = some false by decide +kernel]; rfl
  | ref n => exact h.elim
  | non => unfold pIsi; rw [show ((kindR s (.v .non)).bind fun k => kitB k "str") = some false from (by decide +kernel : kitB "NoneType" "str" = some false)]; rfl
  | str z => rfl
  | tup z => unfold pIsi; rw [show ((kindR s (.v (.tup z))).bind fun k => kitB k "str") = some false from (by decide +kernel : kitB "tuple" "str" = some false)]; rfl
  | lst z => unfold pIsi; rw [show ((kindR s (.v (.lst z))).bind fun k => kitB k "str") = some false from (by decide +kernel : kitB "list" "str" = some false)]; rfl
  | int z => unfold pIsi; rw [show ((kindR s (.v (.int z))).bind fun k => kitB k "str") = some false from (by decide +kernel : kitB "int" "str" = some false)]; rfl
  | bl z => unfold pIsi; rw [show ((kindR s (.v (.bl z))).bind fun k => kitB k "str") = some false from (by decide +kernel : kitB "bool" "str" = some false)]; rfl
theorem isi_T {v : MV} {s : MS} (h : nref v) : pIsi "tuple" (.v v) s = .ok (.v (.bl (isT v))) s := by
  cases v with
  | dct ks vs => unfold pIsi; rw [kd h, show ((some "dict").bind fun k => kitB k "tuple") = some false by decide +kernel]; rfl
  | ref n => exact h.elim
  | non => unfold pIsi; rw [show ((kindR s (.v .non)).bind fun k => kitB k "tuple") = some false from (by decide +kernel : kitB "NoneType" "tuple" = some false)]; rfl
  | str z => unfold pIsi; rw [show ((kindR s (.v (.str z))).bind fun k => kitB k "tuple") = some false from (by decide +kernel : kitB "str" "tuple" = some false)]; rfl
  | tup z => rfl
  | lst z => unfold pIsi; rw [show ((kindR s (.v (.lst z))).bind fun k => kitB k "tuple") = some false from (by decide +kernel : kitB "list" "tuple" = some false)]; rfl
  | int z => unfold pIsi; rw [show ((kindR s (.v (.int z))).bind fun k => kitB k "tuple") = some false from (by decide +kernel : kitB "int" "tuple" = some false)]; rfl
  | bl z => unfold pIsi; rw [show ((kindR s (.v (.bl z))).bind fun k => kitB k "tuple") = some false from (by decide +kernel : kitB "bool" "tuple" = some false)]; rfl
end Mi
set_option Elab.async false
set_option linter.all false
set_option maxRecDepth 100000
set_option maxHeartbeats 4000000
namespace Mi
open PySem PySem.Spec PyProof.Rows L2
/-! evaluation by what stands in the heap: the rules compute on hp[n]? -/
theorem szl : sizeLine = 16777216 := by decide
section
variable {s : MS} {n c j i : Nat} {k : MV} {r : RV} {x : MV} {xs ys : List MV} {kvs : List (MV × MV)} {f fo fe fa fb : ME} {fv : MS → Out (List MV)} {fs : MS → Out (List RV)} {z : List Nat}
theorem cont_ref : cont s (.v (.ref n)) = match s.hp[n]? with | some (.box c) => some c | _ => none := rfl
theorem cont_fld : cont s (.fld n j) = match s.hp[n]? with
    | some (.inst _ fs) => match fs[j]? with | some (some (.own c)) => some c | _ => none
    | _ => none := rfl
theorem cont_loc : cont s (.loc i) = match s.env[i]? with | some (some (.own c)) => some c | _ => none := rfl
theorem cont_own {C : C} : cont s (.own C) = some C := rfl
theorem cont_lst : cont s (.v (.lst xs)) = some (.lst xs) := rfl
theorem dictOf_d : dictOf s r = match cont s r with | some (.dict kvs) => some kvs | some (.lock kvs) => some kvs | _ => none := rfl
@[simp] theorem dictOf_ref : dictOf s (.v (.ref n)) = match s.hp[n]? with | some (.box (.dict kvs)) => some kvs | some (.box (.lock kvs)) => some kvs | _ => none := by
  unfold dictOf; rw [cont_ref]
  generalize s.hp[n]? = g0
  cases g0 with
  | none => rfl
  | some o => cases o with
    | inst _ _ => rfl
    | exc _ => rfl
    | dt _ _ => rfl
    | box C => cases C <;> rfl
@[simp] theorem dictOf_fld : dictOf s (.fld n j) = match s.hp[n]? with
    | some (.inst _ fs) => (match fs[j]? with | some (some (.own (.dict kvs))) => some kvs | some (some (.own (.lock kvs))) => some kvs | _ => none)
    | _ => none := by
  unfold dictOf; rw [cont_fld]
  generalize s.hp[n]? = g0
  cases g0 with
  | none => rfl
  | some o => cases o with
    | box C => rfl
    | exc _ => rfl
    | dt _ _ => rfl
    | inst c fs =>
      show (match (match fs[j]? with | some (some (.own c)) => some c | _ => none) with | some (C.dict kvs) => some kvs | some (.lock kvs) => some kvs | _ => none) = _
      try dsimp only
      generalize fs[j]? = g0
      rcases g0 with _ | _ | u
      · rfl
      · rfl
      · cases u with
        | v x => rfl
        | own C => cases C <;> rfl
@[simp] theorem dictOf_loc : dictOf s (.loc i) = match s.env[i]? with | some (some (.own (.dict kvs))) => some kvs | some (some (.own (.lock kvs))) => some kvs | _ => none := by
  unfold dictOf; rw [cont_loc]
  try dsimp only
  generalize s.env[i]? = g0
  rcases g0 with _ | _ | u
  · rfl
  · rfl
  · cases u with
    | v x => rfl
    | own C => cases C <;> rfl
@[simp] theorem dictOf_own {kvs : List (MV × MV)} : dictOf s (.own (.dict kvs)) = some kvs := rfl
@[simp] theorem dictOf_dct {ks vs : List MV} (h : ks.length = vs.length) : dictOf s (.v (.dct ks vs)) = some (ks.zip vs) := by unfold dictOf cont; simp [h]
@[simp] theorem dictOf_dctm : dictOf s (.v (.dct (kvs.map (·.1)) (kvs.map (·.2)))) = some kvs := by
  rw [dictOf_dct (by simp)]; congr 1
  induction kvs with
  | nil => rfl
  | cons p r ih => simp [ih]
@[simp] theorem dictOf_int {v : Int} : dictOf s (.v (.int v)) = none := rfl
@[simp] theorem dictOf_non : dictOf s (.v .non) = none := rfl
@[simp] theorem seqOf_ref : seqOf s (.v (.ref n)) = match s.hp[n]? with | some (.box (.lst xs)) => some xs | _ => none := by
  show (match cont s (.v (.ref n)) with | some (.lst xs) => some xs | _ => none) = _
  rw [cont_ref]
  generalize s.hp[n]? = g0
  cases g0 with
  | none => rfl
  | some o => cases o with
    | inst _ _ => rfl
    | exc _ => rfl
    | dt _ _ => rfl
    | box C => cases C <;> rfl
@[simp] theorem seqOf_fld : seqOf s (.fld n j) = match s.hp[n]? with
    | some (.inst _ fs) => (match fs[j]? with | some (some (.own (.lst xs))) => some xs | _ => none)
    | _ => none := by
  show (match cont s (.fld n j) with | some (.lst xs) => some xs | _ => none) = _
  rw [cont_fld]
  generalize s.hp[n]? = g0
  cases g0 with
  | none => rfl
  | some o => cases o with
    | box C => rfl
    | exc _ => rfl
    | dt _ _ => rfl
    | inst c fs =>
      show (match (match fs[j]? with | some (some (.own c)) => some c | _ => none) with | some (C.lst xs) => some xs | _ => none) = _
      try dsimp only
      generalize fs[j]? = g0
      rcases g0 with _ | _ | u
      · rfl
      · rfl
      · cases u with
        | v x => rfl
        | own C => cases C <;> rfl
@[simp] theorem seqOf_loc : seqOf s (.loc i) = match s.env[i]? with | some (some (.own (.lst xs))) => some xs | _ => none := by
  show (match cont s (.loc i) with | some (.lst xs) => some xs | _ => none) = _
  rw [cont_loc]
  try dsimp only
  generalize s.env[i]? = g0
  rcases g0 with _ | _ | u
  · rfl
  · rfl
  · cases u with
    | v x => rfl
    | own C => cases C <;> rfl
@[simp] theorem seqOf_own : seqOf s (.own (.lst xs)) = some xs := rfl
@[simp] theorem seqOf_lst : seqOf s (.v (.lst xs)) = some xs := rfl
@[simp] theorem seqOf_tup : seqOf s (.v (.tup xs)) = some xs := rfl
@[simp] theorem lstOf_own : lstOf s (.own (.lst xs)) = some xs := rfl
@[simp] theorem lstOf_lst : lstOf s (.v (.lst xs)) = some xs := rfl
theorem lstOf_eq : (∀ ys, r ≠ .v (.tup ys)) → lstOf s r = seqOf s r := fun h => by
  cases r with
  | v x => cases x with
    | tup ys => exact absurd rfl (h ys)
    | _ => rfl
  | _ => rfl
@[simp] theorem lstOf_ref : lstOf s (.v (.ref n)) = match s.hp[n]? with | some (.box (.lst xs)) => some xs | _ => none := by rw [lstOf_eq (by simp), seqOf_ref]
@[simp] theorem lstOf_loc : lstOf s (.loc i) = match s.env[i]? with | some (some (.own (.lst xs))) => some xs | _ => none := by rw [lstOf_eq (by simp), seqOf_loc]
@[simp] theorem lstOf_fld : lstOf s (.fld n j) = match s.hp[n]? with
    | some (.inst _ fs) => (match fs[j]? with | some (some (.own (.lst xs))) => some xs | _ => none)
    | _ => none := by rw [lstOf_eq (by simp), seqOf_fld]
@[simp] theorem place_ref : place s (.v (.ref n)) = match s.hp[n]? with | some (.box c) => some c | _ => none := rfl
@[simp] theorem place_loc : place s (.loc i) = match s.env[i]? with | some (some (.own c)) => some c | _ => none := rfl
@[simp] theorem place_fld : place s (.fld n j) = match s.hp[n]? with
    | some (.inst _ fs) => match fs[j]? with | some (some (.own c)) => some c | _ => none
    | _ => none := rfl
@[simp] theorem putC_ref {C : C} : putC s (.v (.ref n)) C = { s with hp := s.hp.set n (.box C) } := rfl
@[simp] theorem putC_loc {C : C} : putC s (.loc i) C = { s with env := s.env.set i (some (.own C)) } := rfl
@[simp] theorem putC_fld {C : C} : putC s (.fld n j) C = { s with hp := match s.hp[n]? with
  | some (.inst c fs) => s.hp.set n (.inst c (fs.set j (some (.own C))))
  | _ => s.hp } := rfl
theorem ixA_d : opIxA r (.v k) s = match dictOf s r with
  | some kvs => (match keyOf k with
      | some _ => match getK kvs k with | some x => .ok (.v x) s | none => .bad
      | none => .bad)
  | none => opIx r (.v k) s := rfl
@[simp] theorem ixA_ref : opIxA (.v (.ref n)) (.v k) s = match dictOf s (.v (.ref n)) with
  | some kvs => (match keyOf k with
      | some _ => match getK kvs k with | some x => .ok (.v x) s | none => .bad
      | none => .bad)
  | none => opIx (.v (.ref n)) (.v k) s := rfl
@[simp] theorem ixA_fld : opIxA (.fld n j) (.v k) s = match dictOf s (.fld n j) with
  | some kvs => (match keyOf k with
      | some _ => match getK kvs k with | some x => .ok (.v x) s | none => .bad
      | none => .bad)
  | none => opIx (.fld n j) (.v k) s := rfl
@[simp] theorem ixA_loc : opIxA (.loc i) (.v k) s = match dictOf s (.loc i) with
  | some kvs => (match keyOf k with
      | some _ => match getK kvs k with | some x => .ok (.v x) s | none => .bad
      | none => .bad)
  | none => opIx (.loc i) (.v k) s := rfl
@[simp] theorem ixA_own {kvs : List (MV × MV)} : opIxA (.own (.dict kvs)) (.v k) s = (match keyOf k with
      | some _ => match getK kvs k with | some x => .ok (.v x) s | none => .bad
      | none => .bad) := rfl
@[simp] theorem ixA_dctm : opIxA (.v (.dct (kvs.map (·.1)) (kvs.map (·.2)))) (.v k) s = (match keyOf k with
      | some _ => match getK kvs k with | some x => .ok (.v x) s | none => .bad
      | none => .bad) := by rw [ixA_d, dictOf_dctm]
@[simp] theorem ix_ref {v : Int} : opIx (.v (.ref n)) (.v (.int v)) s = match seqOf s (.v (.ref n)) with
      | some xs => match atI xs v with | some x => .ok (.v x) s | none => .bad
      | none => .bad := rfl
@[simp] theorem ix_loc {v : Int} : opIx (.loc i) (.v (.int v)) s = match seqOf s (.loc i) with
      | some xs => match atI xs v with | some x => .ok (.v x) s | none => .bad
      | none => .bad := rfl
@[simp] theorem ix_fld {v : Int} : opIx (.fld n j) (.v (.int v)) s = match seqOf s (.fld n j) with
      | some xs => match atI xs v with | some x => .ok (.v x) s | none => .bad
      | none => .bad := rfl
theorem inA_d {neg : Bool} : opInA neg (.v k) r s = match dictOf s r with
  | some kvs => (match keyOf k with
      | some _ => .ok (.v (.bl (neg ^^ (getK kvs k).isSome))) s
      | none => .bad)
  | none => opIn neg (.v k) r s := rfl
@[simp] theorem inA_ref {neg : Bool} : opInA neg (.v k) (.v (.ref n)) s = match dictOf s (.v (.ref n)) with
  | some kvs => (match keyOf k with
      | some _ => .ok (.v (.bl (neg ^^ (getK kvs k).isSome))) s
      | none => .bad)
  | none => opIn neg (.v k) (.v (.ref n)) s := rfl
@[simp] theorem inA_fld {neg : Bool} : opInA neg (.v k) (.fld n j) s = match dictOf s (.fld n j) with
  | some kvs => (match keyOf k with
      | some _ => .ok (.v (.bl (neg ^^ (getK kvs k).isSome))) s
      | none => .bad)
  | none => opIn neg (.v k) (.fld n j) s := rfl
@[simp] theorem inA_loc {neg : Bool} : opInA neg (.v k) (.loc i) s = match dictOf s (.loc i) with
  | some kvs => (match keyOf k with
      | some _ => .ok (.v (.bl (neg ^^ (getK kvs k).isSome))) s
      | none => .bad)
  | none => opIn neg (.v k) (.loc i) s := rfl
@[simp] theorem inA_dct {neg : Bool} : opInA neg (.v k) (.v (.dct xs ys)) s = match dictOf s (.v (.dct xs ys)) with
  | some kvs => (match keyOf k with
      | some _ => .ok (.v (.bl (neg ^^ (getK kvs k).isSome))) s
      | none => .bad)
  | none => opIn neg (.v k) (.v (.dct xs ys)) s := rfl
@[simp] theorem inA_tup {neg : Bool} : opInA neg (.v k) (.v (.tup xs)) s = opIn neg (.v k) (.v (.tup xs)) s := rfl
@[simp] theorem inA_lst {neg : Bool} : opInA neg (.v k) (.v (.lst xs)) s = opIn neg (.v k) (.v (.lst xs)) s := rfl
@[simp] theorem inA_own {neg : Bool} : opInA neg (.v k) (.own (.lst xs)) s = opIn neg (.v k) (.own (.lst xs)) s := rfl
@[simp] theorem e_TopL {g : Int → Int → Bool} : pTopL g [r] s = match ((lstOf s r).bind intsOf).bind (topL g) with | some m => .ok (.v (.int m)) s | none => .bad := rfl
@[simp] theorem e_listD : pListD [r] s = match dictOf s r with | some kvs => .ok (.own (.lst (kvs.map (·.1)))) s | none => .bad := rfl
@[simp] theorem e_AsgF {n : Nat} {ft : List MV → MS → Option MS} : mAsgF fv n ft s = (fv s).bind fun xs s1 => if xs.length = n ∧ n ≤ sizeLine then (match ft xs s1 with | some s2 => .ok .next s2 | none => .bad) else .bad := rfl
@[simp] theorem setA_ref : setIxA (.v (.ref n)) (.v k) x s = match s.hp[n]? with
  | some (.box (.dict kvs)) => (match keyOf k with
      | some _ => if kvs.length < sizeLine then .ok .next { s with hp := s.hp.set n (.box (.dict (setK kvs k x))) } else .bad
      | none => .bad)
  | some (.box (.lst xs)) => (match k with
    | .int q => match ixN xs.length q with
      | some j => .ok .next { s with hp := s.hp.set n (.box (.lst (xs.set j x))) }
      | none => .bad
    | _ => .bad)
  | _ => .bad := by
  unfold setIxA; rw [place_ref]
  generalize s.hp[n]? = g0
  cases g0 with
  | none => rfl
  | some o => cases o with
    | inst _ _ => rfl
    | exc _ => rfl
    | dt _ _ => rfl
    | box C => cases C with
      | lst xs => cases k <;> rfl
      | dict kvs => rfl
      | lock kvs => rfl
@[simp] theorem setA_fld : setIxA (.fld n j) (.v k) x s = match s.hp[n]? with
  | some (.inst c fs) => (match fs[j]? with
    | some (some (.own (.dict kvs))) => (match keyOf k with
      | some _ => if kvs.length < sizeLine then .ok .next { s with hp := s.hp.set n (.inst c (fs.set j (some (.own (.dict (setK kvs k x)))))) } else .bad
      | none => .bad)
    | some (some (.own (.lst xs))) => (match k with
      | .int q => match ixN xs.length q with
        | some l => .ok .next { s with hp := s.hp.set n (.inst c (fs.set j (some (.own (.lst (xs.set l x)))))) }
        | none => .bad
      | _ => .bad)
    | _ => .bad)
  | _ => .bad := by
  unfold setIxA; rw [place_fld]
  cases h : s.hp[n]? with
  | none => rfl
  | some o => cases o with
    | box C => rfl
    | exc _ => rfl
    | dt _ _ => rfl
    | inst c fs =>
      simp only [putC_fld, h]
      try dsimp only
      generalize fs[j]? = g0
      rcases g0 with _ | _ | u
      · rfl
      · rfl
      · cases u with
        | v x => rfl
        | own C => cases C with
          | lst xs => cases k <;> rfl
          | dict kvs => rfl
          | lock kvs => rfl
@[simp] theorem setA_loc : setIxA (.loc i) (.v k) x s = match s.env[i]? with
    | some (some (.own (.dict kvs))) => (match keyOf k with
      | some _ => if kvs.length < sizeLine then .ok .next { s with env := s.env.set i (some (.own (.dict (setK kvs k x)))) } else .bad
      | none => .bad)
    | some (some (.own (.lst xs))) => (match k with
      | .int q => match ixN xs.length q with
        | some l => .ok .next { s with env := s.env.set i (some (.own (.lst (xs.set l x)))) }
        | none => .bad
      | _ => .bad)
    | _ => .bad := by
  unfold setIxA; rw [place_loc]
  try dsimp only
  generalize s.env[i]? = g0
  rcases g0 with _ | _ | u
  · rfl
  · rfl
  · cases u with
    | v x => rfl
    | own C => cases C with
      | lst xs => cases k <;> rfl
      | dict kvs => rfl
      | lock kvs => rfl
@[simp] theorem e_LM {p : RV → List MV → MS → Out RV} : mLM p fo fv s = (fo s).bind fun r s1 => match place s1 r with
  | some (.lst _) => (fv s1).bind fun rs s2 => p r rs s2
  | _ => .bad := rfl
@[simp] theorem e_lApp : lAppend r [x] s = match place s r with
  | some (.lst xs) => if xs.length < sizeLine then .ok (.v .non) (putC s r (.lst (xs ++ [x]))) else .bad
  | _ => .bad := by
  unfold lAppend
  try dsimp only
  generalize place s r = g0
  rcases g0 with _ | C
  · rfl
  · cases C <;> rfl
@[simp] theorem e_lPop : lPop r [] s = match place s r with
  | some (.lst xs) => (match xs[xs.length - 1]? with
    | some x => .ok (.v x) (putC s r (.lst xs.dropLast))
    | none => .bad)
  | _ => .bad := by
  unfold lPop
  try dsimp only
  generalize place s r = g0
  rcases g0 with _ | C
  · rfl
  · cases C <;> rfl
@[simp] theorem e_lIns {i : Int} : lInsert r [.int i, x] s = match place s r with
  | some (.lst xs) => if xs.length < sizeLine ∧ 0 ≤ i ∧ i < 2 ^ 63 then .ok (.v .non) (putC s r (.lst (xs.take i.toNat ++ [x] ++ xs.drop i.toNat))) else .bad
  | _ => .bad := by
  unfold lInsert
  try dsimp only
  generalize place s r = g0
  rcases g0 with _ | C
  · rfl
  · cases C <;> rfl
@[simp] theorem e_sliceR {lo hi : Option Int} : opSlice (.v (.ref n)) lo hi s = match lstOf s (.v (.ref n)) with | some xs => .ok (.own (.lst (cutM xs lo hi))) s | none => .bad := rfl
@[simp] theorem e_sliceLo {lo hi : Option Int} : opSlice (.loc i) lo hi s = match lstOf s (.loc i) with | some xs => .ok (.own (.lst (cutM xs lo hi))) s | none => .bad := rfl
@[simp] theorem e_sliceT {lo hi : Option Int} : opSlice (.v (.tup xs)) lo hi s = .ok (.v (.tup (cutM xs lo hi))) s := rfl
@[simp] theorem e_addRO {b : List MV} : opAdd (.v (.ref n)) (.own (.lst b)) s = match s.hp[n]? with
  | some (.box (.lst a)) => if a.length + b.length ≤ sizeLine then .ok (.own (.lst (a ++ b))) s else .bad
  | _ => .bad := by
  show (match contW s (.v (.ref n)), contW s (.own (.lst b)) with
    | some (.lst a), some (.lst b) => if a.length + b.length ≤ sizeLine then Out.ok (RV.own (.lst (a ++ b))) s else .bad
    | _, _ => .bad) = _
  show (match (match s.hp[n]? with | some (.box c) => some c | _ => none), some (C.lst b) with
    | some (.lst a), some (.lst b) => if a.length + b.length ≤ sizeLine then Out.ok (RV.own (.lst (a ++ b))) s else .bad
    | _, _ => .bad) = _
  generalize s.hp[n]? = g0
  cases g0 with
  | none => rfl
  | some o => cases o with
    | inst _ _ => rfl
    | exc _ => rfl
    | dt _ _ => rfl
    | box C => cases C <;> rfl
@[simp] theorem e_DM {p : RV → List MV → MS → Out RV} : mDM p fo fv s = (fo s).bind fun r s1 => match place s1 r with
  | some (.dict _) => (fv s1).bind fun rs s2 => p r rs s2
  | _ => .bad := rfl
@[simp] theorem e_dUpd : dUpdate r [.dct (kvs.map (·.1)) (kvs.map (·.2))] s = match place s r with
  | some (.dict kv0) => if kv0.length + kvs.length ≤ sizeLine then .ok (.v .non) (putC s r (.dict (mergeM kv0 kvs))) else .bad
  | _ => .bad := by
  have e : (kvs.map (·.1)).zip (kvs.map (·.2)) = kvs := by
    induction kvs with
    | nil => rfl
    | cons p r ih => simp [ih]
  unfold dUpdate
  try dsimp only
  generalize place s r = g0
  rcases g0 with _ | C
  · rfl
  · cases C with
    | dict kv0 => simp [e]
    | lst _ => rfl
    | lock _ => rfl
@[simp] theorem e_DPop : mDPop fo fe s = (fo s).bind fun r s1 => match place s1 r with
  | some (.dict _) => (fe s1).bind fun r0 s0 => (share r0 s0).bind fun q s2 => (match place s2 r with
    | some (.dict kvs) => match keyOf q with
      | some _ => match getK kvs q with
        | some x => .ok (.v x) (putC s2 r (.dict (delK kvs q)))
        | none => .bad
      | none => .bad
    | _ => .bad)
  | _ => .bad := by
  unfold mDPop
  congr 1
  funext r s1
  try dsimp only
  generalize place s1 r = g0
  rcases g0 with _ | C
  · rfl
  · cases C with
    | dict kv =>
      show ((fe s1).bind fun r s1 => share r s1).bind _ = _
      cases fe s1 <;> rfl
    | lst _ => rfl
    | lock _ => rfl
@[simp] theorem e_Lk {pk : ME} : mLk pk fe s = match pk s with
  | .ok r _ => (match place s r with
    | some (.dict kvs) => match fe (putC s r (.lock kvs)) with
      | .ok v s2 => match place s2 r with
        | some (.lock _) => .ok v (putC s2 r (.dict kvs))
        | _ => .bad
      | _ => .bad
    | _ => .bad)
  | _ => .bad := rfl
@[simp] theorem e_Keys : mKeys fo s = (fo s).bind fun r s1 => match cont s1 r with
  | some (.lock kvs) => .ok ⟨kvs.map (·.1), fun _ => True⟩ s1
  | _ => .bad := rfl
@[simp] theorem e_Items : mItems fo s = (fo s).bind fun r s1 => match cont s1 r with
  | some (.lock kvs) => .ok ⟨kvs.map fun q => .tup [q.1, q.2], fun _ => True⟩ s1
  | _ => .bad := rfl
@[simp] theorem e_lenA : pLenA [r] s = match dictOf s r with
    | some kvs => .ok (.v (.int kvs.length)) s
    | none => pLen [r] s := rfl
@[simp] theorem e_lenRf : pLen [.v (.ref n)] s = match seqOf s (.v (.ref n)) with
    | some xs => .ok (.v (.int xs.length)) s
    | none => .bad := rfl
@[simp] theorem e_lenFl : pLen [.fld n j] s = match seqOf s (.fld n j) with
    | some xs => .ok (.v (.int xs.length)) s
    | none => .bad := rfl
@[simp] theorem e_lenLo : pLen [.loc i] s = match seqOf s (.loc i) with
    | some xs => .ok (.v (.int xs.length)) s
    | none => .bad := rfl
@[simp] theorem e_AugFld {p : RV → RV → MS → Out RV} : mAugFld c j p fo fe s = (fo s).bind fun ro s0 => match ro with
  | .v (.ref n) => match s0.hp[n]? with
    | some (.inst c' fs) => if c' = c then (match fs[j]? with
      | some (some (.v x)) => (fe s0).bind fun r s2 => if isScal (.v x) = true ∧ isScal r = true then (p (.v x) r s2).bind fun z s3 => putFldS c j n z s3 else .bad
      | _ => .bad) else .bad
    | _ => .bad
  | _ => .bad := rfl
@[simp] theorem e_putF : putFldS c j n (.v x) s = match s.hp[n]? with
  | some (.inst c' fs) => if c' = c ∧ (noOwn fs[j]? = true ∨ s.base ≤ n) then .ok .next { s with hp := s.hp.set n (.inst c (fs.set j (some (.v x)))) } else .bad
  | _ => .bad := rfl
@[simp] theorem e_putFO {C : C} : putFldS c j n (.own C) s = match s.hp[n]? with
  | some (.inst c' fs) => if c' = c ∧ (noOwn fs[j]? = true ∨ s.base ≤ n) then .ok .next { s with hp := s.hp.set n (.inst c (fs.set j (some (.own C)))) } else .bad
  | _ => .bad := rfl
@[simp] theorem noOwn_v : noOwn (some (some (.v x))) = true := rfl
@[simp] theorem noOwn_n : noOwn (some none) = true := rfl
@[simp] theorem is_non {neg : Bool} : opIs neg r (.v .non) s = match nonR s r with | some b => .ok (.v (.bl (neg ^^ b))) s | none => .bad := rfl
@[simp] theorem nonR_non : nonR s (.v .non) = some true := rfl
@[simp] theorem nonR_int {v : Int} : nonR s (.v (.int v)) = some false := rfl
@[simp] theorem nonR_str : nonR s (.v (.str z)) = some false := rfl
@[simp] theorem nonR_own {C : C} : nonR s (.own C) = some false := rfl
@[simp] theorem nonR_ref : nonR s (.v (.ref n)) = some false := rfl
@[simp] theorem nonR_tup : nonR s (.v (.tup xs)) = some false := rfl
theorem e_Dc {vs : List Nat} {it : MS → Out MI} {tg : MG} {tt : MS → Out Bool} {tk te : ME} : mDc vs it tg tt tk te s = (it s).bind fun I s1 =>
  (noExc (dcGo vs I.chk tg tt tk te I.items [] { s1 with env := wipeM s1.env vs })).bind fun acc s2 => .ok (.own (.dict acc)) { s2 with env := backEnv s1.env s2.env vs } := rfl
@[simp] theorem itOf_ref : itOf (.v (.ref n)) s = match s.hp[n]? with | some (.box (.lst xs)) => .ok ⟨xs, fun s' => s'.base = s.base ∧ seqOf s' (.v (.ref n)) = some xs⟩ s | _ => .bad := by
  show (match seqOf s (.v (.ref n)) with | some xs => Out.ok (⟨xs, fun s' => s'.base = s.base ∧ seqOf s' (.v (.ref n)) = some xs⟩ : MI) s | none => .bad) = _
  rw [seqOf_ref]
  generalize s.hp[n]? = g0
  cases g0 with
  | none => rfl
  | some o => cases o with
    | inst _ _ => rfl
    | exc _ => rfl
    | dt _ _ => rfl
    | box C => cases C <;> rfl
@[simp] theorem itOf_loc : itOf (.loc i) s = (share (.loc i) s).bind fun x s2 => itV x s2 := rfl
@[simp] theorem itV_lst : itV (.lst xs) s = .ok ⟨xs, fun _ => True⟩ s := rfl
@[simp] theorem sorted_d : pSorted [r] s = match dictOf s r with
    | some kvs => (match intsOf (kvs.map (·.1)) with
      | some ks => .ok (.own (.lst ((srtI ks).map .int))) s
      | none => .bad)
    | none => match (lstOf s r).bind intsOf with
      | some ns => .ok (.own (.lst ((srtI ns).map .int))) s
      | none => .bad := rfl
@[simp] theorem dictof_d : pDictOf [r] s = match dictOf s r with
    | some kvs => .ok (.own (.dict kvs)) s
    | none => match (lstOf s r).bind pairsOf with
      | some ps => if keysOk ps = true then .ok (.own (.dict (mergeM [] ps))) s else .bad
      | none => .bad := rfl
@[simp] theorem frz_d : frzC (.dict kvs) = .dct (kvs.map (·.1)) (kvs.map (·.2)) := rfl
@[simp] theorem e_makeIn {m n : Nat} {run : Fn} : mMakeIn c m run n xs s = if xs.length + 1 = n then
    (mRun run (.ref s.hp.length :: xs) { s with hp := s.hp ++ [.inst c (List.replicate m none)] }).bind fun r s2 => (match r with
      | .v .non => .ok (.v (.ref s.hp.length)) s2
      | _ => .bad)
  else .bad := rfl
@[simp] theorem e_MakeK {m n nk : Nat} {idx : List Nat} {run : Fn} {fk : MS → Out (List MV)} : mMakeK c m run n nk idx fk s = (fk s).bind fun ys s1 => if ys.length = nk ∧ (permL idx (MV.ref s1.hp.length :: ys)).length = n then
    (mRun run (permL idx (.ref s1.hp.length :: ys)) { s1 with hp := s1.hp ++ [.inst c (List.replicate m none)] }).bind fun r s2 => (match r with
      | .v .non => .ok (.v (.ref s1.hp.length)) s2
      | _ => .bad)
  else .bad := rfl
@[simp] theorem e_Pairs {fp : MS → Out (List (MV × MV))} {fk fv : ME} : mPairs fk fv fp s = (fk s).bind fun r0 s0 => (share r0 s0).bind fun x s1 => (fv s1).bind fun r1 t1 => (share r1 t1).bind fun y s2 => (fp s2).bind fun ps s3 => .ok ((x, y) :: ps) s3 := by
  show ((fk s).bind fun r s1 => share r s1).bind _ = _
  cases fk s with
  | ok a t =>
    show (share a t).bind _ = (share a t).bind _
    congr 1
    funext x s1
    show ((fv s1).bind fun r s1 => share r s1).bind _ = _
    cases fv s1 <;> rfl
  | exc c xs t1 => rfl
  | bad => rfl
/-- one step -/
@[simp] theorem ok_ok {α : Type} {a : α} {Q : α → MS → Prop} : Ok (.ok a s) Q = Q a s := rfl
theorem ok_seq {sa sb : MSt} {Q : Fl → MS → Prop} (h : Ok (sa s) fun fl s1 => fl = .next ∧ Ok (sb s1) Q) : Ok (mSeq sa sb s) Q := by
  obtain ⟨fl, s1, e, rfl, h2⟩ := h.get
  show Ok ((sa s).bind _) Q
  rw [e]; exact h2
end
/-! pools with their numbers told -/
abbrev PB (p : Int × Int) : MO := .box (.lst [.int p.1, .int p.2])
structure OkP (p : Int × Int) : Prop where
  a0 : 0 ≤ p.1
  b0 : 0 ≤ p.2
  b1 : p.2 < 2147483647
theorem take_all (a c d : Int) (ha : 0 ≤ a) (ha2 : a < 2 ^ 60) (hc : 0 ≤ c) (hd0 : 0 < d) (hd : d < 1073741824) (p : Int × Int) (P : OkP p) (m : Int) (h1 : 1 ≤ m) (h2 : m < 1073741824) :
    ∃ (v : Int) (p' : Int × Int), 0 ≤ v ∧ v < m ∧ OkP p' ∧ ∀ (hp : List MO) (n : Nat), hp[n]? = some (PB p) → runOf 3 (takeB a c d) [.ref n, .int m] hp = .ok (.v (.int v)) (hp.set n (PB p')) := by
  obtain ⟨A, B⟩ := p
  obtain ⟨hA, hB, hB2⟩ := P
  simp only at hA hB hB2
  have hm : 0 < m := by omega
  have hcd : ∀ i, CDiv i m := fun i => ⟨hm, h2⟩
  have i0 : ∀ a b : MV, atI [a, b] 0 = some a := fun _ _ => rfl
  have i1 : ∀ a b : MV, atI [a, b] 1 = some b := fun _ _ => rfl
  have j0 : ∀ a b : MV, ixN [a, b].length 0 = some 0 := fun _ _ => rfl
  have j1 : ∀ a b : MV, ixN [a, b].length 1 = some 1 := fun _ _ => rfl
  by_cases hg : 0 < A
  · refine ⟨A % m, (A / m, B), Int.emod_nonneg _ (by omega), Int.emod_lt_of_pos _ hm, ⟨Int.ediv_nonneg hA (by omega), hB, hB2⟩, fun hp n e => by unfold takeB runOf env0; simp [e_ixAR (s := ⟨_, hp, _⟩) e, e_setAR (s := ⟨_, hp, _⟩) e (j0 _ _), i0, i1, hm, hcd, hg, e]⟩
  · obtain ⟨B', hB'⟩ : ∃ x, x = (B * a + c) % 2147483647 := ⟨_, rfl⟩
    have b0' : 0 ≤ B' := by omega
    have b1' : B' < 2147483647 := by omega
    have hdd : ∀ i, CDiv i d := fun i => ⟨hd0, hd⟩
    have hmm : CMul B' B' := .inl ⟨by omega, by omega⟩
    have hma : CMul B a := .inl ⟨by omega, by omega⟩
    refine ⟨B' * B' % 2147483629 / d % m, (A, B'), Int.emod_nonneg _ (by omega), Int.emod_lt_of_pos _ hm, ⟨hA, b0', b1'⟩, fun hp n e => ?_⟩
    have hn : n < hp.length := (List.getElem?_eq_some_iff.mp e).1
    have e2 : (hp.set n (.box (.lst [.int A, .int B'])))[n]? = some (.box (.lst [.int A, .int B'])) := by simp [hn]
    unfold takeB runOf env0
    simp [e_ixAR (s := ⟨_, hp, _⟩) e, e_setAR (s := ⟨_, hp, _⟩) e (j1 _ _), e_ixAR (s := ⟨_, hp.set n _, _⟩) e2, i0, i1, hm, hcd, hg, hma, ← hB', hdd, hmm, e, hn]
/-! a dict comprehension with a test -/
theorem dcGo_filt {α : Type} {vs : List Nat} {chk : MS → Prop} {tg : MG} {tt : MS → Out Bool} {tk te : ME} (F gk gv : α → MV) (p : α → Bool) (s0 : MS) (hc : chk s0) : ∀ (L : List α) (acc : List (MV × MV)), acc.length + L.length ≤ sizeLine →
    (∀ a ∈ L, (keyOf (gk a)).isSome = true) →
    (∀ a ∈ L, ∃ s1 s2, tg (F a) s0 = some s1 ∧ tt s1 = .ok (p a) s2 ∧ (p a = false → { s2 with env := wipeM s2.env vs } = s0) ∧ (p a = true → ∃ s3 s4, mSh tk s2 = .ok (gk a) s3 ∧ mSh te s3 = .ok (gv a) s4 ∧ { s4 with env := wipeM s4.env vs } = s0)) →
    dcGo vs chk tg tt tk te (L.map F) acc s0 = .ok ((L.filter p).foldl (fun acc a => setK acc (gk a) (gv a)) acc) s0
  | [], acc, _, _, _ => by unfold dcGo; simp [hc]
  | a :: L, acc, hz, hk, h => by
    obtain ⟨s1, s2, e1, e2, e3, e4⟩ := h a (List.mem_cons_self ..)
    obtain ⟨q, eq⟩ := Option.isSome_iff_exists.mp (hk a (List.mem_cons_self ..))
    simp only [List.length_cons] at hz
    rw [List.map_cons]
    unfold dcGo
    rw [if_pos hc, e1]
    simp only [e2, Out.bind_ok]
    cases hp : p a with
    | false =>
      simp only [Bool.false_eq_true, if_false]
      rw [e3 hp, dcGo_filt F gk gv p s0 hc L acc (by omega) (fun b hb => hk b (List.mem_cons_of_mem _ hb)) fun b hb => h b (List.mem_cons_of_mem _ hb)]
      simp [List.filter_cons, hp]
    | true =>
      obtain ⟨s3, s4, e5, e6, e7⟩ := e4 hp
      have : (setK acc (gk a) (gv a)).length ≤ acc.length + 1 := setK_len
      simp only [if_true, e5, e6, Out.bind_ok, eq]
      rw [if_pos (by omega), e7, dcGo_filt F gk gv p s0 hc L _ (by omega) (fun b hb => hk b (List.mem_cons_of_mem _ hb)) fun b hb => h b (List.mem_cons_of_mem _ hb)]
      simp [List.filter_cons, hp]
theorem lcGo_mapO {α : Type} {vs : List Nat} {chk : MS → Prop} {tg : MG} {te : ME} (F g : α → MV) (s0 : MS) (hc : chk s0) (L : List α) (acc : List MV) (hz : acc.length + L.length ≤ sizeLine)
    (h : ∀ a ∈ L, ∃ s1, tg (F a) s0 = some s1 ∧ Ok (mSh te s1) fun y s2 => y = g a ∧ ({ s2 with env := wipeM s2.env vs } : MS) = s0) : lcGo vs chk tg mYes te (L.map F) acc s0 = .ok (acc ++ L.map g) s0 :=
  lcGo_map F g s0 hc L acc hz fun a ha => by
    obtain ⟨s1, e, k⟩ := h a ha
    obtain ⟨y, s2, e2, rfl, e3⟩ := k.get
    exact ⟨s1, s2, e, e2, e3⟩
theorem lcGo_filtO {α : Type} {vs : List Nat} {chk : MS → Prop} {tg : MG} {tt : MS → Out Bool} {te : ME} (F g : α → MV) (p : α → Bool) (s0 : MS) (hc : chk s0) (L : List α) (acc : List MV) (hz : acc.length + L.length ≤ sizeLine)
    (h : ∀ a ∈ L, ∃ s1, tg (F a) s0 = some s1 ∧ Ok (tt s1) fun b s2 => b = p a ∧ (p a = false → ({ s2 with env := wipeM s2.env vs } : MS) = s0) ∧ (p a = true → Ok (mSh te s2) fun y s3 => y = g a ∧ ({ s3 with env := wipeM s3.env vs } : MS) = s0)) :
    lcGo vs chk tg tt te (L.map F) acc s0 = .ok (acc ++ (L.filter p).map g) s0 :=
  lcGo_filt F g p s0 hc L acc hz fun a ha => by
    obtain ⟨s1, e, k⟩ := h a ha
    obtain ⟨b, s2, e2, rfl, e3, e4⟩ := k.get
    refine ⟨s1, s2, e, e2, e3, fun q => ?_⟩
    obtain ⟨y, s3, e5, rfl, e6⟩ := (e4 q).get
    exact ⟨s3, e5, e6⟩
theorem dcGo_filtO {α : Type} {vs : List Nat} {chk : MS → Prop} {tg : MG} {tt : MS → Out Bool} {tk te : ME} (F gk gv : α → MV) (p : α → Bool) (s0 : MS) (hc : chk s0) (L : List α) (acc : List (MV × MV)) (hz : acc.length + L.length ≤ sizeLine)
    (hk : ∀ a ∈ L, (keyOf (gk a)).isSome = true)
    (h : ∀ a ∈ L, ∃ s1, tg (F a) s0 = some s1 ∧ Ok (tt s1) fun b s2 => b = p a ∧ (p a = false → ({ s2 with env := wipeM s2.env vs } : MS) = s0) ∧ (p a = true → Ok (mSh tk s2) fun x s3 => x = gk a ∧ Ok (mSh te s3) fun y s4 => y = gv a ∧ ({ s4 with env := wipeM s4.env vs } : MS) = s0)) :
    dcGo vs chk tg tt tk te (L.map F) acc s0 = .ok ((L.filter p).foldl (fun acc a => setK acc (gk a) (gv a)) acc) s0 :=
  dcGo_filt F gk gv p s0 hc L acc hz hk fun a ha => by
    obtain ⟨s1, e, k⟩ := h a ha
    obtain ⟨b, s2, e2, rfl, e3, e4⟩ := k.get
    refine ⟨s1, s2, e, e2, e3, fun q => ?_⟩
    obtain ⟨y, s3, e5, rfl, e6⟩ := (e4 q).get
    obtain ⟨y, s4, e7, rfl, e8⟩ := e6.get
    exact ⟨s3, s4, e5, e7, e8⟩
@[simp] theorem e_mSh {f : ME} {s : MS} : mSh f s = (f s).bind fun r s1 => share r s1 := rfl
@[simp] theorem set_get {hp : List MO} {J : Nat} {o : MO} : (hp.set J o)[J]? = (hp[J]?).map fun _ => o := by
  rw [List.getElem?_set_self']; rfl
end Mi
set_option Elab.async false
set_option linter.all false
set_option maxRecDepth 100000
set_option maxHeartbeats 4000000
namespace Mi
open PySem PySem.Spec PyProof.Rows L2
/-! pieces, what is known, runs -/
abbrev Pc := Int × List Nat
def mvP (p : Pc) : MV := .tup [.int p.1, .str p.2]
abbrev KF := Int → Option Nat
def put1 (f : KF) (k : Int) (c : Nat) : KF := fun j => if k = j then some ((f k).getD c) else f j
def ovr1 (f : KF) (k : Int) (c : Nat) : KF := fun j => if k = j then some c else f j
def putZ (f : KF) (a : Int) : List Nat → KF
  | [] => f
  | c :: z => putZ (put1 f a c) (a + 1) z
def ovrZ (f : KF) (a : Int) : List Nat → KF
  | [] => f
  | c :: z => ovrZ (ovr1 f a c) (a + 1) z
def addK (ks : List Int) (k : Int) : List Int := if k ∈ ks then ks else ks ++ [k]
def keysZ (ks : List Int) (a : Int) : List Nat → List Int
  | [] => ks
  | _ :: z => keysZ (addK ks a) (a + 1) z
def putP (f : KF) : List Pc → KF
  | [] => f
  | p :: r => putP (putZ f p.1 p.2) r
def ovrP (f : KF) : List Pc → KF
  | [] => f
  | p :: r => ovrP (ovrZ f p.1 p.2) r
def keysP (ks : List Int) : List Pc → List Int
  | [] => ks
  | p :: r => keysP (keysZ ks p.1 p.2) r
structure Dk (kvs : List (MV × MV)) (f : KF) (ks : List Int) : Prop where
  keys : kvs.map (·.1) = ks.map MV.int
  nd : ks.Nodup
  get : ∀ k : Int, getK kvs (.int k) = (f k).map fun c => .str [c]
  mem : ∀ k, k ∈ ks ↔ (f k).isSome = true
theorem Dk.len {kvs : List (MV × MV)} {f : KF} {ks : List Int} (h : Dk kvs f ks) : kvs.length = ks.length := by
  have := congrArg List.length h.keys
  simpa using this
theorem addK_mem {ks : List Int} {k j : Int} : j ∈ addK ks k ↔ j ∈ ks ∨ j = k := by
  unfold addK
  split
  · rename_i h
    exact ⟨.inl, fun z => z.elim id fun e => e ▸ h⟩
  · simp
theorem addK_nd {ks : List Int} {k : Int} (h : ks.Nodup) : (addK ks k).Nodup := by
  unfold addK
  split
  · exact h
  · rename_i hk
    rw [List.nodup_append]
    exact ⟨h, by simp, fun a ha b hb e => by simp at hb; subst hb; subst e; exact hk ha⟩
theorem setK_keys {kvs : List (MV × MV)} {ks : List Int} {k : Int} {x : MV} (h : kvs.map (·.1) = ks.map MV.int) : (setK kvs (.int k) x).map (·.1) = (addK ks k).map MV.int := by
  have ha : (kvs.any fun p => eqK p.1 (.int k)) = decide (k ∈ ks) := by
    have e1 : (kvs.any fun p => eqK p.1 (.int k)) = (kvs.map (·.1)).any fun y => eqK y (.int k) := by rw [List.any_map]; rfl
    rw [e1, h, List.any_map]
    by_cases hk : k ∈ ks
    · rw [decide_eq_true hk]
      simp only [List.any_eq_true, Function.comp, eqK_int, decide_eq_true_eq]
      exact ⟨k, hk, rfl⟩
    · rw [decide_eq_false hk]
      simp only [List.any_eq_false, Function.comp, eqK_int, decide_eq_true_eq]
      exact fun j hj e => hk (e ▸ hj)
  unfold setK addK
  rw [ha]
  by_cases hk : k ∈ ks
  · simp only [hk, decide_true, if_true]
    rw [← h, List.map_map]
    apply List.map_congr_left
    intro p _
    simp only [Function.comp]
    split <;> rfl
  · simp [hk, h]
theorem Dk.ovr {kvs : List (MV × MV)} {f : KF} {ks : List Int} (h : Dk kvs f ks) (k : Int) (c : Nat) : Dk (setK kvs (.int k) (.str [c])) (ovr1 f k c) (addK ks k) where
  keys := setK_keys h.keys
  nd := addK_nd h.nd
  get := fun j => by rw [getK_setI, h.get]; unfold ovr1; split <;> rfl
  mem := fun j => by
    rw [addK_mem, h.mem]
    unfold ovr1
    by_cases e : k = j
    · simp [e]
    · rw [if_neg e]
      exact ⟨fun z => z.elim id fun q => absurd q.symm e, .inl⟩
def dput (kvs : List (MV × MV)) (k : Int) (c : Nat) : List (MV × MV) := match getK kvs (.int k) with | some _ => kvs | none => setK kvs (.int k) (.str [c])
theorem Dk.put {kvs : List (MV × MV)} {f : KF} {ks : List Int} (h : Dk kvs f ks) (k : Int) (c : Nat) : Dk (dput kvs k c) (put1 f k c) (addK ks k) := by
  unfold dput
  rw [h.get]
  cases q : f k with
  | none =>
    have e : put1 f k c = ovr1 f k c := by unfold put1 ovr1; rw [q]; rfl
    rw [e]
    exact h.ovr k c
  | some d =>
    have e : put1 f k c = f := by
      funext j
      unfold put1
      split
      · rename_i z; rw [← z, q]; rfl
      · rfl
    have e2 : addK ks k = ks := if_pos ((h.mem k).mpr (by rw [q]; rfl))
    rw [e, e2]
    exact h
theorem Dk.nil : Dk [] (fun _ => none) [] := ⟨rfl, List.nodup_nil, fun _ => rfl, fun k => by simp⟩
theorem keysZ_len (z : List Nat) : ∀ (ks : List Int) (a : Int), (keysZ ks a z).length ≤ ks.length + z.length := by
  induction z with
  | nil => exact fun ks a => Nat.le_refl _
  | cons c z ih =>
    intro ks a
    have h1 := ih (addK ks a) (a + 1)
    have h2 : (addK ks a).length ≤ ks.length + 1 := by unfold addK; split <;> simp
    unfold keysZ
    simp only [List.length_cons]
    omega
/-! runs -/
def sg (f : KF) (k : Int) : List Nat := match f k with | some c => [c] | none => []
def stepR (f : KF) (acc : List Pc) (k : Int) : List Pc := if (f (k - 1)).isSome = true then (match acc.getLast? with | some q => acc.dropLast ++ [(q.1, q.2 ++ sg f k)] | none => acc) else acc ++ [(k, sg f k)]
structure RI (acc : List Pc) (dn : List Int) : Prop where
  ne : acc = [] → dn = []
  len : acc.length ≤ dn.length
  txt : ∀ p ∈ acc, p.2.length ≤ dn.length
theorem last_cases {α : Type} (l : List α) : l = [] ∨ ∃ A q, l = A ++ [q] := by
  rcases List.eq_nil_or_concat l with h | ⟨A, q, h⟩
  · exact .inl h
  · exact .inr ⟨A, q, by rw [h]; simp⟩
theorem ixN_last {n : Nat} : ixN (n + 1) (-1) = some n := by
  unfold ixN
  rw [if_neg (by decide)]
  have : (-1 : Int) + ((n + 1 : Nat) : Int) = n := by omega
  simp only [this]
  rw [if_pos (by omega)]
  simp
theorem atI_last {α : Type} {A : List α} {q : α} : atI (A ++ [q]) (-1) = some q := by
  unfold atI
  rw [show (A ++ [q]).length = A.length + 1 by simp, ixN_last]
  simp
/-- one key of the sorted ones -/
theorem before {ks dn rest : List Int} {k : Int} (e : dn ++ k :: rest = srtI ks) (hk : k - 1 ∈ ks) : dn ≠ [] := by
  rintro rfl
  have hs := srtI_sorted ks
  have hm := (srtI_perm ks).mem_iff.mpr hk
  rw [← e] at hs hm
  simp only [List.nil_append] at hs hm
  have := List.pairwise_cons.mp hs
  rcases List.mem_cons.mp hm with z | z
  · omega
  · have := this.1 _ z; omega
theorem RI.step {f : KF} {acc : List Pc} {dn : List Int} {k : Int} (h : RI acc dn) (hc : (f (k - 1)).isSome = true → acc ≠ []) : RI (stepR f acc k) (dn ++ [k]) := by
  have hg : (sg f k).length ≤ 1 := by unfold sg; split <;> simp
  unfold stepR
  split
  · rename_i q
    rcases last_cases acc with e | ⟨A, p, e⟩
    · exact absurd e (hc q)
    · subst e
      simp only [List.getLast?_append, List.getLast?_singleton, Option.some_or, List.dropLast_concat]
      refine ⟨fun z => by simp at z, ?_, fun x hx => ?_⟩
      · have := h.len; simp at *; omega
      · rcases List.mem_append.mp hx with z | z
        · have := h.txt x (List.mem_append_left _ z); simp; omega
        · simp at z
          have := h.txt p (List.mem_append_right _ (by simp))
          rw [z]; simp; omega
  · refine ⟨fun z => by simp at z, ?_, fun x hx => ?_⟩
    · have := h.len; simp at *; omega
    · rcases List.mem_append.mp hx with z | z
      · have := h.txt x z; simp; omega
      · simp at z
        rw [z]; simp; omega
def runsP (f : KF) (ks : List Int) : List Pc := (srtI ks).foldl (stepR f) []
/-! what is known, as a function -/
def pc (p : Pc) (k : Int) : Option Nat := if p.1 ≤ k then p.2[(k - p.1).toNat]? else none
theorem pc_here (a : Int) (c : Nat) (z : List Nat) : pc (a, c :: z) a = some c := by
  unfold pc; simp
theorem pc_next {a k : Int} {c : Nat} {z : List Nat} (h : k ≠ a) : pc (a, c :: z) k = pc (a + 1, z) k := by
  unfold pc
  by_cases h1 : a + 1 ≤ k
  · rw [if_pos h1, if_pos (by show a ≤ k; omega)]
    show (c :: z)[(k - a).toNat]? = z[(k - (a + 1)).toNat]?
    rw [show (k - a).toNat = (k - (a + 1)).toNat + 1 by omega]
    rfl
  · rw [if_neg h1, if_neg (by show ¬ a ≤ k; omega)]
theorem putZ_eq (z : List Nat) : ∀ (f : KF) (a k : Int), putZ f a z k = (f k).or (pc (a, z) k) := by
  induction z with
  | nil => intro f a k; unfold putZ pc; simp
  | cons c z ih =>
    intro f a k
    unfold putZ
    rw [ih]
    by_cases h : k = a
    · subst h
      rw [pc_here]
      unfold put1
      cases f k <;> simp
    · rw [pc_next h]
      unfold put1
      rw [if_neg (Ne.symm h)]
theorem ovrZ_eq (z : List Nat) : ∀ (f : KF) (a k : Int), ovrZ f a z k = (pc (a, z) k).or (f k) := by
  induction z with
  | nil => intro f a k; unfold ovrZ pc; simp
  | cons c z ih =>
    intro f a k
    unfold ovrZ
    rw [ih]
    by_cases h : k = a
    · subst h
      rw [pc_here]
      have : pc (k + 1, z) k = none := by unfold pc; rw [if_neg (by show ¬ k + 1 ≤ k; omega)]
      rw [this]
      unfold ovr1
      simp
    · rw [pc_next h]
      unfold ovr1
      rw [if_neg (Ne.symm h)]
theorem putP_eq : ∀ (P : List Pc) (f : KF) (k : Int), putP f P k = (f k).or (P.findSome? fun p => pc p k)
  | [], f, k => by simp [putP]
  | p :: P, f, k => by
    unfold putP
    rw [putP_eq P, putZ_eq, List.findSome?_cons]
    cases f k <;> cases pc (p.1, p.2) k <;> rfl
theorem ovrP_eq : ∀ (P : List Pc) (f : KF) (k : Int), ovrP f P k = (P.reverse.findSome? fun p => pc p k).or (f k)
  | [], f, k => by simp [ovrP]
  | p :: P, f, k => by
    unfold ovrP
    rw [ovrP_eq P, ovrZ_eq, List.reverse_cons, List.findSome?_append]
    cases P.reverse.findSome? fun p => pc p k <;> simp
theorem same_known (P : List Pc) : ovrP (fun _ => none) P.reverse = putP (fun _ => none) P := by
  funext k
  rw [ovrP_eq, putP_eq, List.reverse_reverse]
  simp
theorem perm_of_mem : ∀ {l m : List Int}, l.Nodup → m.Nodup → (∀ k, k ∈ l ↔ k ∈ m) → l.Perm m := fun {l m} h1 h2 h => by
  exact (List.perm_ext_iff_of_nodup h1 h2).mpr h
theorem same_keys {kvs kvs' : List (MV × MV)} {f : KF} {ks ks' : List Int} (h : Dk kvs f ks) (h' : Dk kvs' f ks') : srtI ks = srtI ks' ∧ ks.length = ks'.length := by
  have p := perm_of_mem h.nd h'.nd fun k => (h.mem k).trans (h'.mem k).symm
  exact ⟨srt_eq ((srtI_perm ks).trans p) (srtI_sorted ks), p.length_eq⟩

/-! cuts -/
def pdP (p : Pc) : PyData := .tuple [.int p.1, .str ⟨p.2.toArray⟩]
theorem pds_P : ∀ P : List Pc, pds (P.map mvP) = some (P.map pdP)
  | [] => rfl
  | p :: P => by
    show (match pd (mvP p), pds (P.map mvP) with | some d, some ds => some (d :: ds) | _, _ => none) = _
    rw [pds_P P]
    rfl
theorem canLay_P : ∀ P : List Pc, (∀ p ∈ P, Low p.2) → PyData.canLayAll0 (P.map pdP) = true
  | [], _ => rfl
  | p :: P, h => by
    have h1 := strOk_low (h p (List.mem_cons_self ..))
    have h2 := canLay_P P fun q hq => h q (List.mem_cons_of_mem _ hq)
    simp [pdP, PyData.canLayAll0, PyData.canLay0, h1] at h2 ⊢
    exact h2
theorem depth_P : ∀ P : List Pc, PyData.depthAll (P.map pdP) ≤ 5
  | [] => by simp [PyData.depthAll]
  | p :: P => by
    have h2 := depth_P P
    simp [pdP, PyData.depthAll, PyData.depth] at h2 ⊢
    exact Nat.max_le.mpr ⟨by decide, h2⟩
theorem show_P (M : Nat) (hM : M ≤ 100000) : ∀ P : List Pc, (∀ p ∈ P, 0 ≤ p.1 ∧ p.1 < M) → PyData.showableAll (P.map pdP) = true
  | [], _ => rfl
  | p :: P, h => by
    have h1 := h p (List.mem_cons_self ..)
    have h2 := show_P M hM P fun q hq => h q (List.mem_cons_of_mem _ hq)
    have h3 : p.1.natAbs.log2 < 1920 := by
      have a : p.1.natAbs < 2 ^ 1920 := Nat.lt_of_lt_of_le (by omega : p.1.natAbs < 100000) (by decide)
      by_cases z : p.1.natAbs = 0
      · rw [z]; decide
      · exact (Nat.log2_lt z).mpr a
    simp [pdP, PyData.showableAll, PyData.showable, h3] at h2 ⊢
    exact h2
theorem cost_P (M : Nat) : ∀ P : List Pc, (∀ p ∈ P, p.2.length ≤ M) → shCostAll (P.map pdP) ≤ (2100 + 10 * M) * P.length
  | [], _ => Nat.le_refl _
  | p :: P, h => by
    have h1 := h p (List.mem_cons_self ..)
    have h2 := cost_P M P fun q hq => h q (List.mem_cons_of_mem _ hq)
    have e : (⟨p.2.toArray⟩ : Str).length = p.2.length := by simp [Str.length]
    simp only [List.map_cons, shCostAll, pdP, shCost, e, List.length_cons, Nat.mul_add]
    omega
theorem shaped_P (P : List Pc) (h : ∀ p ∈ P, Low p.2) : SeqAt.shaped (.list (P.map pdP)) = true := by
  have h1 := canLay_P P h
  have h2 := depth_P P
  unfold SeqAt.shaped
  rw [Bool.and_eq_true]
  refine ⟨by simpa [PyData.canLay0] using h1, ?_⟩
  rw [decide_eq_true_eq]
  show PyData.depthAll (P.map pdP) + 1 ≤ 64
  omega
theorem runs_low (f : KF) (hf : ∀ k c, f k = some c → 97 ≤ c ∧ c ≤ 122) : ∀ (ks : List Int) (acc : List Pc), (∀ p ∈ acc, Low p.2) → ∀ p ∈ ks.foldl (stepR f) acc, Low p.2
  | [], acc, h => h
  | k :: ks, acc, h => by
    refine runs_low f hf ks _ fun p hp => ?_
    have hs : Low (sg f k) := fun c hc => by
      unfold sg at hc
      cases q : f k with
      | none => rw [q] at hc; cases hc
      | some d => rw [q] at hc; simp at hc; subst hc; exact hf k c q
    unfold stepR at hp
    split at hp
    · rcases last_cases acc with e | ⟨A, q, e⟩
      · subst e; simp at hp
      · subst e
        simp only [List.getLast?_append, List.getLast?_singleton, Option.some_or, List.dropLast_concat] at hp
        rcases List.mem_append.mp hp with z | z
        · exact h p (List.mem_append_left _ z)
        · simp at z
          subst z
          intro c hc
          rcases List.mem_append.mp hc with y | y
          · exact h q (by simp) c y
          · exact hs c y
    · rcases List.mem_append.mp hp with z | z
      · exact h p z
      · simp at z; subst z; exact hs
/-! dicts of numbers and signs, as lists -/
abbrev KL := List (Int × Nat)
def KD (L : KL) : List (MV × MV) := L.map fun p => (.int p.1, .str [p.2])
def lk : KL → Int → Option Nat
  | [], _ => none
  | (a, c) :: r, k => if a = k then some c else lk r k
abbrev ks (L : KL) : List Int := L.map (·.1)
@[simp] theorem KD_nil : KD [] = [] := rfl
@[simp] theorem KD_len {L : KL} : (KD L).length = L.length := by simp [KD]
@[simp] theorem KD_items {L : KL} : (KD L).map (fun q => MV.tup [q.1, q.2]) = L.map fun p => .tup [.int p.1, .str [p.2]] := by simp [KD, Function.comp_def]
theorem KD_keys {L : KL} : (KD L).map (fun q => q.1) = L.map fun p => .int p.1 := by simp [KD, Function.comp_def]
theorem getK_KD (L : KL) (k : Int) : getK (KD L) (.int k) = (lk L k).map fun c => .str [c] := by
  induction L with
  | nil => rfl
  | cons p r ih =>
    obtain ⟨a, c⟩ := p
    simp only [KD, List.map_cons, getK, lk, eqK_int, decide_eq_true_eq]
    split
    · rfl
    · exact ih
theorem lk_mem {L : KL} {k : Int} : (lk L k).isSome = true ↔ k ∈ ks L := by
  induction L with
  | nil => simp [lk]
  | cons p r ih =>
    obtain ⟨a, c⟩ := p
    simp only [lk, List.map_cons, List.mem_cons]
    split
    · rename_i e; simp [e]
    · rename_i e; rw [ih]; exact ⟨.inr, fun z => z.elim (fun q => absurd q.symm e) id⟩
theorem lk_none {L : KL} {k : Int} : lk L k = none ↔ k ∉ ks L := by
  rw [← lk_mem]; cases lk L k <;> simp
theorem lk_in {L : KL} {k : Int} {c : Nat} (h : lk L k = some c) : (k, c) ∈ L := by
  induction L with
  | nil => cases h
  | cons p r ih =>
    obtain ⟨a, d⟩ := p
    simp only [lk] at h
    split at h
    · rename_i e; cases h; subst e; exact List.mem_cons_self ..
    · exact List.mem_cons_of_mem _ (ih h)
theorem lk_uniq {L : KL} {p : Int × Nat} {c : Nat} (h : (ks L).Nodup) (hp : p ∈ L) (e : lk L p.1 = some c) : c = p.2 := by
  induction L with
  | nil => cases hp
  | cons q r ih =>
    obtain ⟨a, d⟩ := q
    simp only [ks, List.map_cons, List.nodup_cons] at h
    rcases List.mem_cons.mp hp with rfl | hp
    · simp [lk] at e; exact e.symm
    · have : a ≠ p.1 := fun z => h.1 (z ▸ List.mem_map_of_mem hp)
      simp only [lk, if_neg this] at e
      exact ih h.2 hp e
theorem lk_app {L M : KL} {k : Int} : lk (L ++ M) k = (lk L k).or (lk M k) := by
  induction L with
  | nil => rfl
  | cons p r ih =>
    obtain ⟨a, c⟩ := p
    simp only [List.cons_append, lk]
    split
    · rfl
    · exact ih
theorem lk_filter {L : KL} {k : Int} (P : Int → Bool) : lk (L.filter fun p => P p.1) k = if P k = true then lk L k else none := by
  induction L with
  | nil => simp [lk]
  | cons p r ih =>
    obtain ⟨a, c⟩ := p
    simp only [List.filter_cons]
    by_cases h : a = k
    · subst h
      cases q : P a with
      | true => simp [lk]
      | false => simp [q] at ih ⊢; exact ih
    · cases q : P a with
      | true => simp only [if_true, lk, if_neg h]; exact ih
      | false => simp only [Bool.false_eq_true, if_false, lk, if_neg h]; exact ih
theorem setK_new {L : KL} {k : Int} {c : Nat} (h : lk L k = none) : setK (KD L) (.int k) (.str [c]) = KD (L ++ [(k, c)]) := by
  have ha : ((KD L).any fun p => eqK p.1 (.int k)) = false := by
    rw [lk_none] at h
    simp only [KD, List.any_map, List.any_eq_false, Function.comp, eqK_int, decide_eq_true_eq]
    exact fun p hp e => h (by rw [← e]; exact List.mem_map_of_mem hp)
  unfold setK
  rw [ha]
  simp [KD]
theorem fold_set : ∀ (M L : KL), (ks (L ++ M)).Nodup → M.foldl (fun acc p => setK acc (.int p.1) (.str [p.2])) (KD L) = KD (L ++ M)
  | [], L, _ => by simp
  | (k, c) :: M, L, h => by
    have hk : lk L k = none := by
      rw [lk_none]
      simp only [ks, List.map_append, List.map_cons, List.nodup_append] at h
      exact fun z => h.2.2 k z k (by simp) rfl
    simp only [List.foldl_cons, setK_new hk]
    rw [fold_set M (L ++ [(k, c)]) (by simpa using h)]
    simp
theorem merge_KD {L M : KL} (h : (ks (L ++ M)).Nodup) : mergeM (KD L) (KD M) = KD (L ++ M) := by
  rw [← fold_set M L h]
  unfold mergeM KD
  rw [List.foldl_map]
theorem Dk_KD {L : KL} (h : (ks L).Nodup) : Dk (KD L) (lk L) (ks L) := ⟨by simp [KD, ks], h, getK_KD L, fun k => lk_mem.symm⟩
/-- pieces of one sign each, joined -/
theorem put1_none {f : KF} {k : Int} {c : Nat} (h : f k = none) : put1 f k c = fun j => if k = j then some c else f j := by
  funext j; unfold put1; rw [h]; rfl
theorem putP_one : ∀ (M L : KL), (ks (L ++ M)).Nodup → putP (lk L) (M.map fun p => (p.1, [p.2])) = lk (L ++ M) ∧ keysP (ks L) (M.map fun p => (p.1, [p.2])) = ks (L ++ M)
  | [], L, _ => by simp [putP, keysP]
  | (k, c) :: M, L, h => by
    have hk : k ∉ ks L := by
      simp only [ks, List.map_append, List.map_cons, List.nodup_append] at h
      exact fun z => h.2.2 k z k (by simp) rfl
    have e1 : putZ (lk L) k [c] = lk (L ++ [(k, c)]) := by
      funext j
      simp only [putZ, put1, lk_app, lk_none.mpr hk, Option.getD_none, lk]
      by_cases e : k = j
      · subst e; simp [lk_none.mpr hk]
      · simp [e]
    have e2 : keysZ (ks L) k [c] = ks (L ++ [(k, c)]) := by simp only [keysZ, addK, if_neg hk, ks, List.map_append]; rfl
    obtain ⟨i1, i2⟩ := putP_one M (L ++ [(k, c)]) (by simpa using h)
    constructor
    · simp only [List.map_cons, putP, e1, i1, List.append_assoc, List.singleton_append]
    · simp only [List.map_cons, keysP]; rw [e2, i2]; simp
/-- how far all is known -/
structure Far (L : KL) (f : Int) : Prop where
  f0 : 0 ≤ f
  all : ∀ k, 0 ≤ k → k < f → k ∈ ks L
  no : f ∉ ks L
theorem Far.uniq {L : KL} {f g : Int} (a : Far L f) (b : Far L g) : f = g := by
  rcases Int.lt_trichotomy f g with h | h | h
  · exact absurd (b.all f a.f0 h) a.no
  · exact h
  · exact absurd (a.all g b.f0 h) b.no
theorem far_ex {L : KL} (B : Nat) (hB : ∀ k ∈ ks L, k < B) : ∃ f, Far L f ∧ f ≤ B := by
  have key : ∀ (n : Nat) (i : Int), 0 ≤ i → i + n = B → (∀ k, 0 ≤ k → k < i → k ∈ ks L) → ∃ f, Far L f ∧ f ≤ B := by
    intro n
    induction n with
    | zero => intro i h0 e h; exact ⟨i, ⟨h0, h, fun z => by have := hB i z; omega⟩, by omega⟩
    | succ n ih =>
      intro i h0 e h
      by_cases z : i ∈ ks L
      · exact ih (i + 1) (by omega) (by omega) fun k a b => by
          by_cases q : k = i
          · rw [q]; exact z
          · exact h k a (by omega)
      · exact ⟨i, ⟨h0, h, z⟩, by omega⟩
  exact key B 0 (Int.le_refl _) (by omega) fun k a b => by omega
/-- the signs of the numbers from a on -/
def rdyT (L : KL) (a f : Int) : List Nat := (List.range (f - a).toNat).map fun i : Nat => (lk L (a + i)).getD 0
theorem rdy_low {L : KL} {a f : Int} (hl : ∀ p ∈ L, 97 ≤ p.2 ∧ p.2 ≤ 122) (ha : ∀ k, a ≤ k → k < f → k ∈ ks L) : Low (rdyT L a f) := by
  intro c hc
  obtain ⟨i, hi, e⟩ := List.mem_map.mp hc
  have hi' := List.mem_range.mp hi
  have hm := ha (a + i) (by omega) (by omega)
  obtain ⟨d, hd⟩ := Option.isSome_iff_exists.mp (lk_mem.mpr hm)
  rw [hd] at e
  simp at e
  subst e
  exact hl _ (lk_in hd)
/-- a piece's signs with their numbers -/
def pcs (a : Int) : List Nat → KL
  | [] => []
  | c :: z => (a, c) :: pcs (a + 1) z
theorem pcs_len : ∀ (z : List Nat) (a : Int), (pcs a z).length = z.length
  | [], _ => rfl
  | _ :: z, a => by simp [pcs, pcs_len z]
theorem pcs_ks : ∀ (z : List Nat) (a k : Int), k ∈ ks (pcs a z) → a ≤ k ∧ k < a + z.length
  | [], _, k, h => by simp [pcs] at h
  | c :: z, a, k, h => by
    simp only [pcs, List.map_cons, List.mem_cons] at h
    simp only [List.length_cons]
    rcases h with rfl | h
    · omega
    · have := pcs_ks z (a + 1) k h; omega
theorem pcs_nd : ∀ (z : List Nat) (a : Int), (ks (pcs a z)).Nodup
  | [], _ => by simp [pcs]
  | c :: z, a => by
    simp only [pcs, List.map_cons, List.nodup_cons]
    exact ⟨fun h => by have := pcs_ks z _ _ h; omega, pcs_nd z _⟩
theorem pcs_zip : ∀ (z : List Nat) (a : Int) (m : Nat), (z.zipIdx m).map (fun p => (a + (p.2 : Int), p.1)) = pcs (a + m) z
  | [], _, _ => rfl
  | c :: z, a, m => by
    have := pcs_zip z a (m + 1)
    simp only [List.zipIdx_cons, List.map_cons, pcs, this]
    congr 2
    omega
theorem pcs_low : ∀ (z : List Nat) (a : Int), Low z → ∀ p ∈ pcs a z, 97 ≤ p.2 ∧ p.2 ≤ 122
  | [], _, _, p, h => by simp [pcs] at h
  | c :: z, a, hz, p, h => by
    rcases List.mem_cons.mp h with rfl | h
    · exact hz _ (List.mem_cons_self ..)
    · exact pcs_low z _ (fun d hd => hz d (List.mem_cons_of_mem _ hd)) p h
/-! told as a text -/
structure Gd (ds : List PyData) : Prop where
  lay : (PyData.list ds).canLay0 = true
  shw : (PyData.list ds).showable = true
  dep : (PyData.list ds).depth ≤ 60
  cst : shCost (.list ds) ≤ 16000000
noncomputable def txt (ds : List PyData) : List Nat := (PyData.list ds).shown.cps.toList
theorem Gd.repr {ds : List PyData} (h : Gd ds) {s : MS} {r : RV} (hr : rpd s r = some (.list ds)) : pReprD [r] s = .ok (.v (.str (txt ds))) s :=
  (e_reprL hr h.lay h.shw (Nat.le_trans h.dep (by decide)) (Nat.le_trans h.cst (by rw [szl]; decide))).1
theorem Gd.all {ds : List PyData} (h : Gd ds) {xs : List MV} (hx : pds xs = some ds) : (txt ds).all (· < 0x110000) = true :=
  (e_reprL (s := ⟨[], [], 0⟩) (r := .v (.lst xs)) (by show (pds xs).map PyData.list = _; rw [hx]; rfl) h.lay h.shw (Nat.le_trans h.dep (by decide)) (Nat.le_trans h.cst (by rw [szl]; decide))).2
theorem small_int {i : Int} (h : -100000 ≤ i ∧ i ≤ 100000) : i.natAbs.log2 < 1920 := by
  have a : i.natAbs < 2 ^ 1920 := Nat.lt_of_lt_of_le (by omega : i.natAbs < 100001) (by decide)
  by_cases z : i.natAbs = 0
  · rw [z]; decide
  · exact (Nat.log2_lt z).mpr a
theorem set_same {hp : List MO} {n : Nat} {o : MO} (h : hp[n]? = some o) : hp.set n o = hp := by
  apply List.ext_getElem?; intro i
  by_cases e : n = i
  · subst e
    obtain ⟨hl, q⟩ := List.getElem?_eq_some_iff.mp h
    simp [hl, q]
  · rw [List.getElem?_set_ne e]
theorem set_at {hp : List MO} {n : Nat} {o o' : MO} (h : hp[n]? = some o) : (hp.set n o')[n]? = some o' := by
  have := (List.getElem?_eq_some_iff.mp h).1
  simp [this]
def enV : Option Int → MV
  | none => .non
  | some e => .int e
@[simp] theorem enV_n : enV none = .non := rfl
@[simp] theorem enV_s {e : Int} : enV (some e) = .int e := rfl
theorem runs_bd (f : KF) (S : Int → Prop) : ∀ (l : List Int) (acc : List Pc) (n : Nat), (∀ k ∈ l, S k) → acc.length ≤ n → (∀ p ∈ acc, p.2.length ≤ n ∧ S p.1) → (l.foldl (stepR f) acc).length ≤ n + l.length ∧ ∀ p ∈ l.foldl (stepR f) acc, p.2.length ≤ n + l.length ∧ S p.1
  | [], acc, n, _, h1, h2 => ⟨h1, h2⟩
  | k :: l, acc, n, hl, h1, h2 => by
    have hg : (sg f k).length ≤ 1 := by unfold sg; split <;> simp
    have step : (stepR f acc k).length ≤ n + 1 ∧ ∀ p ∈ stepR f acc k, p.2.length ≤ n + 1 ∧ S p.1 := by
      unfold stepR
      split
      · rcases last_cases acc with e | ⟨A, q, e⟩
        · subst e; simp
        · subst e
          simp only [List.getLast?_append, List.getLast?_singleton, Option.some_or, List.dropLast_concat]
          refine ⟨by simp at h1 ⊢; omega, fun p hp => ?_⟩
          rcases List.mem_append.mp hp with z | z
          · have := h2 p (List.mem_append_left _ z); exact ⟨by omega, this.2⟩
          · simp at z
            have := h2 q (List.mem_append_right _ (by simp))
            rw [z]; exact ⟨by simp; omega, this.2⟩
      · refine ⟨by simp; omega, fun p hp => ?_⟩
        rcases List.mem_append.mp hp with z | z
        · have := h2 p z; exact ⟨by omega, this.2⟩
        · simp at z
          rw [z]; exact ⟨by simp; omega, hl k (List.mem_cons_self ..)⟩
    have := runs_bd f S l (stepR f acc k) (n + 1) (fun j hj => hl j (List.mem_cons_of_mem _ hj)) step.1 step.2
    simp only [List.foldl_cons, List.length_cons]
    rwa [show n + (l.length + 1) = n + 1 + l.length by omega]
/-! what joiners tell -/
def toldV (kn : Int) (rdy : List Nat) (rs : List Pc) (held lim : Int) (en : Option Int) (ov : Bool) : List MV := [.int kn, .str rdy, .lst (rs.map mvP), .int held, .int lim, enV en, .bl ov]
def enD : Option Int → PyData
  | none => .none
  | some e => .int e
def toldD (kn : Int) (rdy : List Nat) (rs : List Pc) (held lim : Int) (en : Option Int) (ov : Bool) : List PyData := [.int kn, .str ⟨rdy.toArray⟩, .list (rs.map pdP), .int held, .int lim, enD en, .bool ov]
theorem told_pd {kn : Int} {rdy : List Nat} {rs : List Pc} {held lim : Int} {en : Option Int} {ov : Bool} : pds (toldV kn rdy rs held lim en ov) = some (toldD kn rdy rs held lim en ov) := by
  have h : pd (.lst (rs.map mvP)) = some (.list (rs.map pdP)) := by show (pds (rs.map mvP)).map PyData.list = _; rw [pds_P]; rfl
  have h2 : pd (enV en) = some (enD en) := by cases en <;> rfl
  simp [toldV, toldD, pds, pd, pds_P, h2]
theorem told_gd {kn : Int} {rdy : List Nat} {rs : List Pc} {held lim : Int} {en : Option Int} {ov : Bool} (h1 : -100000 ≤ kn ∧ kn ≤ 100000) (h2 : Low rdy) (h3 : rdy.length ≤ 100000) (h4 : ∀ p ∈ rs, Low p.2 ∧ p.2.length ≤ 1000 ∧ 0 ≤ p.1 ∧ p.1 < 100000) (h5 : rs.length ≤ 1000)
    (h6 : -100000 ≤ held ∧ held ≤ 100000) (h7 : -100000 ≤ lim ∧ lim ≤ 100000) (h8 : ∀ e, en = some e → -100000 ≤ e ∧ e ≤ 100000) : Gd (toldD kn rdy rs held lim en ov) := by
  have c1 := canLay_P rs fun p hp => (h4 p hp).1
  have c2 := show_P 100000 (by decide) rs fun p hp => (h4 p hp).2.2
  have c3 := depth_P rs
  have c4 := cost_P 1000 rs fun p hp => (h4 p hp).2.1
  have e1 : (enD en).canLay0 = true := by cases en <;> rfl
  have e2 : (enD en).showable = true := by
    cases en with
    | none => rfl
    | some e => simp [enD, PyData.showable, small_int (h8 e rfl)]
  have e3 : (enD en).depth ≤ 5 := by cases en <;> simp [enD, PyData.depth]
  have e4 : shCost (enD en) ≤ 2000 := by cases en <;> simp [enD, shCost]
  have e5 : (⟨rdy.toArray⟩ : Str).length = rdy.length := by simp [Str.length]
  refine ⟨?_, ?_, ?_, ?_⟩
  · simp [toldD, PyData.canLay0, PyData.canLayAll0, c1, e1, strOk_low h2]
  · simp [toldD, PyData.showable, PyData.showableAll, c2, e2, small_int h1, small_int h6, small_int h7]
  · simp [toldD, PyData.depth, PyData.depthAll]; omega
  · simp only [toldD, shCost, shCostAll, e5]; omega
theorem rpd_loc {s : MS} {i : Nat} {xs : List MV} (h : s.env[i]? = some (some (.own (.lst xs)))) : rpd s (.loc i) = (pds xs).map .list := by
  show (match cont s (.loc i) with | some (.lst xs) => (pds xs).map PyData.list | _ => none) = _
  rw [cont_loc, h]
theorem rpd_own {s : MS} {xs : List MV} : rpd s (.own (.lst xs)) = (pds xs).map .list := rfl
theorem forRange {j : Nat} {body : MSt} (n : Nat) (P : Nat → MS → Prop) (s : MS) (h0 : P 0 s) (h : ∀ i, i < n → ∀ s, P i s → ∃ s1, gN j (.int (i : Nat)) s = some s1 ∧ Ok (body s1) fun fl s2 => fl = .next ∧ P (i + 1) s2) :
    Ok (forGo (fun _ => True) (gN j) body ((List.range n).map fun i : Nat => .int i) s) fun fl s2 => fl = .next ∧ P n s2 := by
  have key := forGo_ix (chk := fun _ => True) (tg := gN j) (body := body) P (fun _ _ _ => trivial) ((List.range n).map fun i : Nat => .int i) 0 s h0 fun i x hx s hs => by
    obtain ⟨hl, e⟩ := List.getElem?_eq_some_iff.mp hx
    simp at hl e
    subst e
    rw [Nat.zero_add] at *
    exact h i hl s hs
  simpa using key
theorem says_of {n : Nat} {fb : MSt} {ns : List Int} (h : Ok (fb ⟨env0 n [.lst (ns.map .int)], [], 0⟩) fun fl _ => fl = .ret (.v (.bl true))) : Says (runOf n fb) ns := by
  obtain ⟨fl, s, e, rfl⟩ := h.get
  exact ⟨s.hp, by unfold runOf; simp only [List.length_nil]; rw [e]⟩
end Mi
set_option Elab.async false
set_option linter.all false
set_option maxRecDepth 100000
set_option maxHeartbeats 4000000
namespace Mi
open PySem PySem.Spec PyProof.Rows L2
/-! lays: four numbers -/
abbrev Ly := Int × Int × Int × Int
abbrev lyL (l : Ly) : List Int := [l.1, l.2.1, l.2.2.1, l.2.2.2]
abbrev mvL (l : Ly) : MV := .tup [.int l.1, .int l.2.1, .int l.2.2.1, .int l.2.2.2]
theorem mvL_tup (l : Ly) : tupI (lyL l) = mvL l := rfl
theorem lyL_inj {a b : Ly} (h : lyL a = lyL b) : a = b := by
  obtain ⟨a1, a2, a3, a4⟩ := a
  obtain ⟨b1, b2, b3, b4⟩ := b
  simp [lyL] at h
  simp [h]
@[simp] theorem keyT_mvL (l : Ly) : keyT (mvL l) = some [.inl l.1, .inl l.2.1, .inl l.2.2.1, .inl l.2.2.2] := rfl
@[simp] theorem eqT_mvL (a b : Ly) : eqT (mvL a) (mvL b) = decide (a = b) := by
  unfold eqT
  rw [keyT_mvL, keyT_mvL]
  refine decide_eq_decide.mpr ⟨fun h => ?_, fun h => by rw [h]⟩
  simp at h
  exact lyL_inj (by simp [lyL, h])
abbrev LB := List (Ly × Bool)
def LD (Y : LB) : List (MV × MV) := Y.map fun p => (mvL p.1, .bl p.2)
def lf : LB → Ly → Option Bool
  | [], _ => none
  | (a, b) :: r, l => if a = l then some b else lf r l
abbrev lys (Y : LB) : List Ly := Y.map (·.1)
@[simp] theorem LD_len {Y : LB} : (LD Y).length = Y.length := by simp [LD]
theorem getT_LD (Y : LB) (l : Ly) : getT (LD Y) (mvL l) = (lf Y l).map MV.bl := by
  induction Y with
  | nil => rfl
  | cons p r ih =>
    obtain ⟨a, b⟩ := p
    simp only [LD, List.map_cons, getT, lf, eqT_mvL, decide_eq_true_eq]
    split
    · rfl
    · exact ih
theorem lf_mem {Y : LB} {l : Ly} : (lf Y l).isSome = true ↔ l ∈ lys Y := by
  induction Y with
  | nil => simp [lf]
  | cons p r ih =>
    obtain ⟨a, b⟩ := p
    simp only [lf, List.map_cons, List.mem_cons]
    split
    · rename_i e; simp [e]
    · rename_i e; rw [ih]; exact ⟨.inr, fun z => z.elim (fun q => absurd q.symm e) id⟩
theorem lf_none {Y : LB} {l : Ly} : lf Y l = none ↔ l ∉ lys Y := by
  rw [← lf_mem]; cases lf Y l <;> simp
theorem lf_in {Y : LB} {l : Ly} {b : Bool} (h : lf Y l = some b) : (l, b) ∈ Y := by
  induction Y with
  | nil => cases h
  | cons p r ih =>
    obtain ⟨a, d⟩ := p
    simp only [lf] at h
    split at h
    · rename_i e; cases h; subst e; exact List.mem_cons_self ..
    · exact List.mem_cons_of_mem _ (ih h)
theorem lf_uniq {Y : LB} {p : Ly × Bool} {b : Bool} (h : (lys Y).Nodup) (hp : p ∈ Y) (e : lf Y p.1 = some b) : b = p.2 := by
  induction Y with
  | nil => cases hp
  | cons q r ih =>
    obtain ⟨a, d⟩ := q
    simp only [lys, List.map_cons, List.nodup_cons] at h
    rcases List.mem_cons.mp hp with rfl | hp
    · simp [lf] at e; exact e.symm
    · have : a ≠ p.1 := fun z => h.1 (z ▸ List.mem_map_of_mem hp)
      simp only [lf, if_neg this] at e
      exact ih h.2 hp e
/-- a lay's mark set -/
def mk (Y : LB) (l : Ly) : LB := Y.map fun p => if p.1 = l then (p.1, true) else p
@[simp] theorem lys_mk (Y : LB) (l : Ly) : lys (mk Y l) = lys Y := by
  simp only [lys, mk, List.map_map]
  exact List.map_congr_left fun p _ => by simp only [Function.comp]; split <;> rfl
theorem lf_mk (Y : LB) (l k : Ly) : lf (mk Y l) k = if k = l then (lf Y l).map fun _ => true else lf Y k := by
  induction Y with
  | nil => simp [mk, lf]
  | cons p r ih =>
    obtain ⟨a, b⟩ := p
    simp only [mk, List.map_cons] at ih ⊢
    by_cases e : a = l
    · subst e
      simp only [if_true, lf]
      by_cases e2 : k = a
      · subst e2; simp
      · rw [if_neg (Ne.symm e2), if_neg (Ne.symm e2), ih, if_neg e2]; simp [e2]
    · simp only [if_neg e, lf]
      by_cases e2 : a = k
      · subst e2; simp [e]
      · rw [if_neg e2, if_neg e2, ih]
theorem setT_LD {Y : LB} {l : Ly} (h : l ∈ lys Y) : setT (LD Y) (mvL l) (.bl true) = LD (mk Y l) := by
  have ha : ((LD Y).any fun p => eqT p.1 (mvL l)) = true := by
    obtain ⟨p, hp, e⟩ := List.mem_map.mp h
    simp only [LD, List.any_map, List.any_eq_true, Function.comp, eqT_mvL, decide_eq_true_eq]
    exact ⟨p, hp, e⟩
  unfold setT
  rw [ha, if_pos rfl]
  simp only [LD, mk, List.map_map]
  refine List.map_congr_left fun p _ => ?_
  simp only [Function.comp, eqT_mvL, decide_eq_true_eq]
  split <;> rfl
/-- a lay put in, when it is new -/
def adY (Y : LB) (l : Ly) : LB := if l ∈ lys Y then Y else Y ++ [(l, false)]
theorem setT_new {Y : LB} {l : Ly} (h : l ∉ lys Y) : setT (LD Y) (mvL l) (.bl false) = LD (Y ++ [(l, false)]) := by
  have ha : ((LD Y).any fun p => eqT p.1 (mvL l)) = false := by
    simp only [LD, List.any_map, List.any_eq_false, Function.comp, eqT_mvL, decide_eq_true_eq]
    exact fun p hp e => h (by rw [← e]; exact List.mem_map_of_mem hp)
  unfold setT
  rw [ha]
  simp [LD]
/-! sorted lays -/
def insY (a : Ly) : List Ly → List Ly
  | [] => [a]
  | b :: r => if ltL (lyL b) (lyL a) = true then b :: insY a r else a :: b :: r
def srtY : List Ly → List Ly
  | [] => []
  | a :: r => insY a (srtY r)
theorem insY_L (a : Ly) : ∀ l : List Ly, insL (lyL a) (l.map lyL) = (insY a l).map lyL
  | [] => rfl
  | b :: r => by
    simp only [List.map_cons, insL, insY]
    split
    · rw [insY_L a r]; rfl
    · rfl
theorem srtY_L : ∀ l : List Ly, srtL (l.map lyL) = (srtY l).map lyL
  | [] => rfl
  | a :: r => by rw [List.map_cons, srtL, srtY_L r, insY_L]; rfl
theorem insY_perm (a : Ly) : ∀ l, (insY a l).Perm (a :: l)
  | [] => .refl _
  | b :: r => by
    unfold insY
    split
    · exact ((insY_perm a r).cons b).trans (.swap a b r)
    · exact .refl _
theorem srtY_perm : ∀ l, (srtY l).Perm l
  | [] => .refl _
  | a :: r => (insY_perm a (srtY r)).trans ((srtY_perm r).cons a)
theorem tups_mvL : ∀ L : List Ly, tupsOf (L.map mvL) = some (L.map lyL)
  | [] => rfl
  | l :: r => by
    rw [List.map_cons, tupsOf, tups_mvL r]
    rfl
theorem out_mvL (L : List Ly) : (srtL (L.map lyL)).map tupI = (srtY L).map mvL := by
  rw [srtY_L, List.map_map]; rfl
section
variable {n i c j : Nat} {s : MS} {Y : LB} {L : List Ly} {l : Bool} {env : List (Option SV)} {hp : List MO} {b : Nat} {pk fe fo fi fd fa fb : ME} {f : MSt} {kvs : List (MV × MV)} {r : RV} {q x : MV}
@[simp] theorem e_DNewT : mDNewT s = .ok (.v (.ref s.hp.length)) { s with hp := s.hp ++ [.dt false []] } := rfl
@[simp] theorem dtOf_ref : dtOf s (.v (.ref n)) = match s.hp[n]? with | some (.dt _ kvs) => some kvs | _ => none := rfl
@[simp] theorem e_opIxT : opIxT r (.v q) s = match dtOf s r with
  | some kvs => match keyT q with
    | some _ => (match getT kvs q with | some x => .ok (.v x) s | none => .bad)
    | none => .bad
  | none => .bad := by
  unfold opIxT
  cases dtOf s r <;> rfl
@[simp] theorem e_setT : setIxT (.v (.ref n)) (.v q) x s = match s.hp[n]? with
  | some (.dt false kvs) => match keyT q with
    | some _ => if kvs.length < sizeLine then .ok .next { s with hp := s.hp.set n (.dt false (setT kvs q x)) } else .bad
    | none => .bad
  | _ => .bad := rfl
@[simp] theorem e_SetIxT : mSetIxT fe fo fi s = (fe s).bind fun r0 s0 => (share r0 s0).bind fun x s1 => (fo s1).bind fun r s2 => (fi s2).bind fun i s3 => setIxT r i x s3 := by
  show ((fe s).bind fun r s1 => share r s1).bind _ = _
  cases fe s <;> rfl
@[simp] theorem e_ListRg : mListRg fa fb s = (fa s).bind fun r1 s1 => (fb s1).bind fun r2 s2 => match r1, r2 with
  | .v (.int a), .v (.int b) => if RgOk a b then .ok (.own (.lst ((List.range (b - a).toNat).map fun i : Nat => .int (a + i)))) s2 else .bad
  | _, _ => .bad := rfl
@[simp] theorem e_KeysT : mKeysT fo s = (fo s).bind fun r s1 => match r with
  | .v (.ref n) => match s1.hp[n]? with
    | some (.dt true kvs) => .ok ⟨kvs.map (·.1), fun _ => True⟩ s1
    | _ => .bad
  | _ => .bad := rfl
@[simp] theorem e_LkT : mLkT pk fe s = match pk s with
  | .ok (.v (.ref n)) _ => match s.hp[n]? with
    | some (.dt false kvs) => match fe { s with hp := s.hp.set n (.dt true kvs) } with
      | .ok v s2 => match s2.hp[n]? with
        | some (.dt true _) => .ok v { s2 with hp := s2.hp.set n (.dt false kvs) }
        | _ => .bad
      | _ => .bad
    | _ => .bad
  | _ => .bad := rfl
@[simp] theorem e_LkS : mLkS pk f s = match pk s with
  | .ok (.v (.ref n)) _ => match s.hp[n]? with
    | some (.dt false kvs) => match f { s with hp := s.hp.set n (.dt true kvs) } with
      | .ok .next s2 => match s2.hp[n]? with
        | some (.dt true _) => .ok .next { s2 with hp := s2.hp.set n (.dt false kvs) }
        | _ => .bad
      | _ => .bad
    | _ => .bad
  | _ => .bad := rfl
theorem sortT_dt (h : hp[n]? = some (.dt l (LD Y))) : pSortT [.v (.ref n)] ⟨env, hp, b⟩ = .ok (.own (.lst ((srtY (lys Y)).map mvL))) ⟨env, hp, b⟩ := by
  have e : srcT ⟨env, hp, b⟩ (.v (.ref n)) = some ((lys Y).map mvL) := by
    unfold srcT
    simp only [dtOf_ref, h, LD, List.map_map]
    rfl
  unfold pSortT
  simp only [e, Option.bind_some, tups_mvL, out_mvL]
theorem sortT_box (h : hp[n]? = some (.box (.lst (L.map mvL)))) : pSortT [.v (.ref n)] ⟨env, hp, b⟩ = .ok (.own (.lst ((srtY L).map mvL))) ⟨env, hp, b⟩ := by
  have e : srcT ⟨env, hp, b⟩ (.v (.ref n)) = some (L.map mvL) := by
    unfold srcT
    simp [h]
  unfold pSortT
  simp only [e, Option.bind_some, tups_mvL, out_mvL]
/-- d.setdefault(lay, False) -/
theorem e_SetdT (ho : fo s = .ok (.v (.ref n)) s) (he : fe s = .ok (.v (mvL (a : Ly))) s) (hd : fd s = .ok (.v (.bl false)) s) (h : s.hp[n]? = some (.dt false (LD Y))) (hz : Y.length < 16777216) :
    ∃ v, mSetdT fo fe fd s = .ok v { s with hp := s.hp.set n (.dt false (LD (adY Y a))) } := by
  have hz2 : Y.length < sizeLine := by rw [szl]; exact hz
  unfold mSetdT
  simp only [ho, Out.bind_ok, dtOf_ref, h, mSh, he, e_shV, hd, keyT_mvL, LD_len, hz2, if_true, getT_LD]
  unfold adY
  cases q : lf Y a with
  | some x =>
    rw [if_pos (lf_mem.mp (by rw [q]; rfl))]
    refine ⟨.v (.bl x), ?_⟩
    simp only [Option.map_some, set_same h]
  | none =>
    have := lf_none.mp q
    rw [if_neg this]
    exact ⟨.v (.bl false), by simp only [Option.map_none, setT_new this]⟩
end
/-! lays as data -/
abbrev pdL (l : Ly) : PyData := .tuple [.int l.1, .int l.2.1, .int l.2.2.1, .int l.2.2.2]
theorem pds_L (L : List Ly) : pds (L.map mvL) = some (L.map pdL) := pds_map L fun _ _ => rfl
theorem eqv_L (a b : Ly) : PyData.eqv (pdL a) (pdL b) = decide (a = b) := by
  obtain ⟨a1, a2, a3, a4⟩ := a
  obtain ⟨b1, b2, b3, b4⟩ := b
  simp only [pdL, PyData.eqv, PyData.eqvAll]
  by_cases h1 : a1 = b1 <;> by_cases h2 : a2 = b2 <;> by_cases h3 : a3 = b3 <;> by_cases h4 : a4 = b4 <;> simp [h1, h2, h3, h4]
theorem shaped_L (L : List Ly) : SeqAt.shaped (.list (L.map pdL)) = true := shaped_map L fun a _ => ⟨by simp [PyData.canLay0, PyData.canLayAll0], by simp [PyData.depth, PyData.depthAll]⟩
theorem shaped_l (l : Ly) : SeqAt.shaped (pdL l) = true := rfl
theorem any_L (L : List Ly) (a : Ly) : ((L.map pdL).any fun z => PyData.eqv z (pdL a)) = decide (a ∈ L) := by
  induction L with
  | nil => rfl
  | cons b r ih =>
    rw [List.map_cons, List.any_cons, ih, eqv_L]
    by_cases e : b = a
    · subst e; simp
    · simp [e, Ne.symm e]
theorem inD_box {n : Nat} {env : List (Option SV)} {hp : List MO} {b : Nat} {L : List Ly} {neg : Bool} (h : hp[n]? = some (.box (.lst (L.map mvL)))) (a : Ly) : opInD neg (.v (mvL a)) (.v (.ref n)) ⟨env, hp, b⟩ = .ok (.v (.bl (neg ^^ decide (a ∈ L)))) ⟨env, hp, b⟩ := by
  have e1 : rpd ⟨env, hp, b⟩ (.v (mvL a)) = some (pdL a) := rfl
  have e2 : rpd ⟨env, hp, b⟩ (.v (.ref n)) = some (.list (L.map pdL)) := by
    unfold rpd
    simp only [cont_ref, h, pds_L, Option.map_some]
  unfold opInD
  simp only [e1, e2, shaped_L, shaped_l, and_self, if_true, any_L]
theorem inD_lst {s : MS} {L : List Ly} {neg : Bool} (a : Ly) : opInD neg (.v (mvL a)) (.v (.lst (L.map mvL))) s = .ok (.v (.bl (neg ^^ decide (a ∈ L)))) s := by
  have e1 : rpd s (.v (mvL a)) = some (pdL a) := rfl
  have e2 : rpd s (.v (.lst (L.map mvL))) = some (.list (L.map pdL)) := by
    show (pds (L.map mvL)).map PyData.list = _
    rw [pds_L]; rfl
  unfold opInD
  simp only [e1, e2, shaped_L, shaped_l, and_self, if_true, any_L]
theorem inD_loc {s : MS} {i : Nat} {L : List Ly} {neg : Bool} (h : s.env[i]? = some (some (.own (.lst (L.map mvL))))) (a : Ly) : opInD neg (.v (mvL a)) (.loc i) s = .ok (.v (.bl (neg ^^ decide (a ∈ L)))) s := by
  have e1 : rpd s (.v (mvL a)) = some (pdL a) := rfl
  have e2 : rpd s (.loc i) = some (.list (L.map pdL)) := by rw [rpd_loc h, pds_L]; rfl
  unfold opInD
  simp only [e1, e2, shaped_L, shaped_l, and_self, if_true, any_L]
/-! what lays have -/
def lnum (l : Ly) : List Int := (List.range l.2.2.1.toNat).map fun i : Nat => l.1 + (i : Int)
def whole (L : KL) (l : Ly) : Bool := (lnum l).all fun k => (lk L k).isSome
def body (L : KL) (l : Ly) : List Nat := (lnum l).map fun k => (lk L k).getD 0
def has (l : Ly) (k : Int) : Bool := decide (l.1 ≤ k) && decide (k < l.1 + l.2.2.1)
theorem has_num {l : Ly} {k : Int} : has l k = true ↔ k ∈ lnum l := by
  unfold has lnum
  simp only [Bool.and_eq_true, decide_eq_true_eq, List.mem_map, List.mem_range]
  constructor
  · rintro ⟨a, b⟩
    exact ⟨(k - l.1).toNat, by omega, by omega⟩
  · rintro ⟨i, hi, rfl⟩
    omega
theorem lnum_nd (l : Ly) : (lnum l).Nodup := by
  unfold lnum
  refine List.Pairwise.map _ (fun a b h => ?_) List.nodup_range
  omega
theorem lnum_len (l : Ly) : (lnum l).length = l.2.2.1.toNat := by simp [lnum]
/-- of numbers within n -/
theorem nd_sub_len {α : Type} [DecidableEq α] : ∀ {l m : List α}, l.Nodup → (∀ k ∈ l, k ∈ m) → l.length ≤ m.length
  | [], _, _, _ => Nat.zero_le _
  | a :: r, m, h, hs => by
    rw [List.nodup_cons] at h
    have := nd_sub_len (l := r) (m := m.erase a) h.2 fun k hk => (List.mem_erase_of_ne (fun z => h.1 (by rw [z] at hk; exact hk))).mpr (hs k (List.mem_cons_of_mem _ hk))
    have h2 := List.length_erase_of_mem (hs a (List.mem_cons_self ..))
    have h3 : 0 < m.length := List.length_pos_of_mem (hs a (List.mem_cons_self ..))
    simp only [List.length_cons]
    omega
theorem whole_len {L : KL} {l : Ly} (h : whole L l = true) : l.2.2.1 ≤ L.length := by
  have : (lnum l).length ≤ (ks L).length := nd_sub_len (lnum_nd l) fun k hk => lk_mem.mp (List.all_eq_true.mp h k hk)
  rw [lnum_len, List.length_map] at this
  omega
def sgO (L : KL) (l : Ly) : Option (List Nat) := if whole L l = true then some (body L l) else none
def soV : Option (List Nat) → MV
  | none => .non
  | some z => .str z
theorem body_low {L : KL} {l : Ly} (hl : ∀ p ∈ L, 97 ≤ p.2 ∧ p.2 ≤ 122) (h : whole L l = true) : Low (body L l) := by
  intro c hc
  obtain ⟨k, hk, e⟩ := List.mem_map.mp hc
  obtain ⟨d, hd⟩ := Option.isSome_iff_exists.mp (List.all_eq_true.mp h k hk)
  rw [hd] at e
  simp at e
  subst e
  exact hl _ (lk_in hd)
theorem body_len (L : KL) (l : Ly) : (body L l).length = l.2.2.1.toNat := by simp [body, lnum]
/-! signs put in, those that were there staying -/
def putN (L : KL) (k : Int) (c : Nat) : KL := if (lk L k).isSome = true then L else L ++ [(k, c)]
def addS (L : KL) (a : Int) : List Nat → KL
  | [] => L
  | c :: z => addS (putN L a c) (a + 1) z
theorem putN_ks {L : KL} {k j : Int} {c : Nat} : j ∈ ks (putN L k c) ↔ j ∈ ks L ∨ j = k := by
  unfold putN
  split
  · rename_i h
    have := lk_mem.mp h
    exact ⟨.inl, fun z => z.elim id fun e => e ▸ this⟩
  · simp
theorem putN_nd {L : KL} {k : Int} {c : Nat} (h : (ks L).Nodup) : (ks (putN L k c)).Nodup := by
  unfold putN
  split
  · exact h
  · rename_i hk
    have hk : k ∉ ks L := fun z => hk (lk_mem.mpr z)
    rw [ks, List.map_append, List.nodup_append]
    exact ⟨h, by simp, fun a ha b hb e => by simp at hb; rw [e, hb] at ha; exact hk ha⟩
theorem putN_lk {L : KL} {k j : Int} {c : Nat} {d : Nat} (h : lk L j = some d) : lk (putN L k c) j = some d := by
  unfold putN
  split
  · exact h
  · rw [lk_app, h]; rfl
theorem addS_ks : ∀ (z : List Nat) (L : KL) (a j : Int), j ∈ ks (addS L a z) ↔ j ∈ ks L ∨ (a ≤ j ∧ j < a + z.length)
  | [], L, a, j => by simp [addS]; omega
  | c :: z, L, a, j => by
    rw [addS, addS_ks z, putN_ks, List.length_cons]
    constructor
    · rintro ((h | h) | h)
      · exact .inl h
      · exact .inr (by omega)
      · exact .inr (by omega)
    · rintro (h | h)
      · exact .inl (.inl h)
      · by_cases e : j = a
        · exact .inl (.inr e)
        · exact .inr (by omega)
theorem addS_nd : ∀ (z : List Nat) (L : KL) (a : Int), (ks L).Nodup → (ks (addS L a z)).Nodup
  | [], _, _, h => h
  | c :: z, L, a, h => addS_nd z _ _ (putN_nd h)
theorem addS_lk : ∀ (z : List Nat) (L : KL) (a j : Int) (d : Nat), lk L j = some d → lk (addS L a z) j = some d
  | [], _, _, _, _, h => h
  | c :: z, L, a, j, d, h => addS_lk z _ _ _ _ (putN_lk h)
theorem addS_low : ∀ (z : List Nat) (L : KL) (a : Int), Low z → (∀ p ∈ L, 97 ≤ p.2 ∧ p.2 ≤ 122) → ∀ p ∈ addS L a z, 97 ≤ p.2 ∧ p.2 ≤ 122
  | [], _, _, _, h => h
  | c :: z, L, a, hz, h => addS_low z _ _ (fun d hd => hz d (List.mem_cons_of_mem _ hd)) fun p hp => by
    unfold putN at hp
    split at hp
    · exact h p hp
    · rcases List.mem_append.mp hp with q | q
      · exact h p q
      · simp at q; rw [q]; exact hz c (List.mem_cons_self ..)
theorem addS_len : ∀ (z : List Nat) (L : KL) (a : Int), (addS L a z).length ≤ L.length + z.length
  | [], _, _ => Nat.le_refl _
  | c :: z, L, a => by
    have := addS_len z (putN L a c) (a + 1)
    have h2 : (putN L a c).length ≤ L.length + 1 := by unfold putN; split <;> simp
    simp only [addS, List.length_cons]; omega
theorem whole_add {L : KL} {l : Ly} {a : Int} {z : List Nat} (h : whole L l = true) : whole (addS L a z) l = true := by
  unfold whole at h ⊢
  rw [List.all_eq_true] at h ⊢
  intro k hk
  obtain ⟨d, hd⟩ := Option.isSome_iff_exists.mp (h k hk)
  rw [addS_lk z L a k d hd]; rfl
theorem setK_same {L : KL} {k : Int} {c : Nat} (hd : (ks L).Nodup) (h : lk L k = some c) : setK (KD L) (.int k) (.str [c]) = KD L := by
  have ha : ((KD L).any fun p => eqK p.1 (.int k)) = true := by
    have := lk_in h
    simp only [KD, List.any_map, List.any_eq_true, Function.comp, eqK_int, decide_eq_true_eq]
    exact ⟨_, this, rfl⟩
  unfold setK
  rw [ha, if_pos rfl]
  simp only [KD, List.map_map]
  refine List.map_congr_left fun p hp => ?_
  simp only [Function.comp, eqK_int, decide_eq_true_eq]
  split
  · rename_i e
    have := lk_uniq hd hp (by rw [e]; exact h)
    rw [this]
  · rfl
theorem setK_putN {L : KL} {k : Int} {c : Nat} (hd : (ks L).Nodup) : setK (KD L) (.int k) (.str [(lk L k).getD c]) = KD (putN L k c) := by
  unfold putN
  cases q : lk L k with
  | some d => simp only [Option.getD_some, Option.isSome_some, if_true]; exact setK_same hd q
  | none => simp only [Option.getD_none, Option.isSome_none, Bool.false_eq_true, if_false]; exact setK_new q
/-! lays put in -/
def addY : LB → List Ly → LB
  | Y, [] => Y
  | Y, l :: r => addY (adY Y l) r
def addL : List Ly → List Ly → List Ly
  | L, [] => L
  | L, l :: r => addL (if l ∈ L then L else L ++ [l]) r
theorem lys_adY (Y : LB) (l : Ly) : lys (adY Y l) = if l ∈ lys Y then lys Y else lys Y ++ [l] := by
  unfold adY; split <;> simp
theorem lys_addY : ∀ (ls : List Ly) (Y : LB), lys (addY Y ls) = addL (lys Y) ls
  | [], _ => rfl
  | l :: r, Y => by rw [addY, lys_addY r, lys_adY, addL]
theorem adY_nd {Y : LB} {l : Ly} (h : (lys Y).Nodup) : (lys (adY Y l)).Nodup := by
  rw [lys_adY]
  split
  · exact h
  · rename_i q
    rw [List.nodup_append]
    exact ⟨h, by simp, fun a ha b hb e => by simp at hb; rw [e, hb] at ha; exact q ha⟩
theorem addY_nd : ∀ (ls : List Ly) (Y : LB), (lys Y).Nodup → (lys (addY Y ls)).Nodup
  | [], _, h => h
  | l :: r, Y, h => addY_nd r _ (adY_nd h)
theorem adY_mem {Y : LB} {l k : Ly} : k ∈ lys (adY Y l) ↔ k ∈ lys Y ∨ k = l := by
  rw [lys_adY]
  split
  · rename_i h; exact ⟨.inl, fun z => z.elim id fun e => e ▸ h⟩
  · simp
theorem addY_mem : ∀ (ls : List Ly) (Y : LB) (k : Ly), k ∈ lys (addY Y ls) ↔ k ∈ lys Y ∨ k ∈ ls
  | [], Y, k => by simp [addY]
  | l :: r, Y, k => by
    rw [addY, addY_mem r, adY_mem, List.mem_cons]
    constructor
    · rintro ((h | h) | h)
      · exact .inl h
      · exact .inr (.inl h)
      · exact .inr (.inr h)
    · rintro (h | h | h)
      · exact .inl (.inl h)
      · exact .inl (.inr h)
      · exact .inr h
theorem adY_lf {Y : LB} {l k : Ly} : lf (adY Y l) k = some true ↔ lf Y k = some true := by
  unfold adY
  split
  · exact Iff.rfl
  · rename_i h
    have app : ∀ Y : LB, lf (Y ++ [(l, false)]) k = (lf Y k).or (if l = k then some false else none) := by
      intro Y
      induction Y with
      | nil => simp [lf]
      | cons p r ih => obtain ⟨a, b⟩ := p; simp only [List.cons_append, lf]; split; · rfl
                       · exact ih
    rw [app]
    cases q : lf Y k with
    | some b => simp
    | none => simp only [Option.none_or]; split <;> simp
theorem addY_lf : ∀ (ls : List Ly) (Y : LB) (k : Ly), lf (addY Y ls) k = some true ↔ lf Y k = some true
  | [], Y, k => Iff.rfl
  | l :: r, Y, k => by rw [addY, addY_lf r, adY_lf]
theorem adY_len {Y : LB} {l : Ly} : (adY Y l).length ≤ Y.length + 1 := by unfold adY; split <;> simp
end Mi
set_option Elab.async false
set_option linter.all false
set_option maxRecDepth 100000
set_option maxHeartbeats 4000000
namespace Mi
open PySem PySem.Spec PyProof.Rows L2
section
variable {s : MS} {n : Nat} {k : Int} {xs : List MV}
@[simp] theorem e_rep : opRep (.own (.lst xs)) (.v (.int k)) s = if -(2 ^ 63) ≤ k ∧ k < 2 ^ 63 ∧ xs.length * k.toNat ≤ sizeLine then .ok (.own (.lst (List.replicate k.toNat xs).flatten)) s else .bad := rfl
@[simp] theorem e_neD0 : opNeD0 (.v (.ref n)) (.own (.dict [])) s = match s.hp[n]? with | some (.dt _ kvs) => .ok (.v (.bl (decide (kvs.length ≠ 0)))) s | _ => .bad := by
  rcases h : s.hp[n]? with _ | o
  · simp [opNeD0, dtOf, h]
  · cases o <;> simp [opNeD0, dtOf, h]
@[simp] theorem e_fsIx {fo fi : ME} {u : List MV → MS → Option MS} {x : MV} {r : List MV} : fsIx fo fi u (x :: r) s = match fo s with
    | .ok ro s1 => match fi s1 with
      | .ok ri s2 => match setIxA ro ri x s2 with
        | .ok .next s3 => u r s3
        | _ => none
      | _ => none
    | _ => none := rfl
@[simp] theorem e_eqvT_lo {neg : Bool} {i : Nat} {c : C} : opEqvT neg (.loc i) (.own c) s = opEqv neg (.loc i) (.own c) s := rfl
@[simp] theorem e_addS' {r1 r2 : RV} : opAddS r1 r2 s = match lstOf s r1, lstOf s r2 with
    | some a, some b => if a.length + b.length ≤ sizeLine then .ok (.own (.lst (a ++ b))) s else .bad
    | _, _ => .bad := rfl
theorem eT_gen {neg : Bool} {r1 r2 : RV} {s : MS} {d1 d2 : PyData} (h1 : rpdT s r1 = some d1) (h2 : rpdT s r2 = some d2) (hs : SeqAt.shaped d1 = true) (hs2 : SeqAt.shaped d2 = true) : opEqvT neg r1 r2 s = .ok (.v (.bl (neg ^^ PyData.eqv d1 d2))) s := by
  unfold opEqvT
  simp only [h1, h2, hs, hs2, and_self, if_true]
theorem eT_same {neg : Bool} {r1 r2 : RV} {s : MS} {d : PyData} (h1 : rpdT s r1 = some d) (h2 : rpdT s r2 = some d) (hs : SeqAt.shaped d = true) : opEqvT neg r1 r2 s = .ok (.v (.bl (neg ^^ true))) s := by
  have : d.canLay0 = true := by unfold SeqAt.shaped at hs; exact (Bool.and_eq_true .. ▸ hs).1
  rw [eT_gen h1 h2 hs hs, eqv_self d this]
end
end Mi
set_option Elab.async false
set_option linter.all false
set_option maxRecDepth 100000
set_option maxHeartbeats 4000000
-- exceptions NoRoom=0 NoRule=1
-- classes Writer=0
namespace L_k33
open PySem PySem.Spec PyProof.Rows L2 Mi
def top (i : Nat) : Stmt := PySem.Challenge.pw_roadbundle_k33_rules_looked_at.main.body.getD i (.Pass ⟨0, 0, 0, 0⟩)
def km0 (c : Nat) : Option Bool := if c = 1 then some false else none
def cm1 (c : Nat) : Option Bool := if c = 1 then some true else none
def kb_ValueError (c : Nat) : Option Bool := if c = 1 then some true else none
/-- is_rule -/
abbrev s0 : Stmt := top 9
noncomputable def b0 : MSt := (mRet (mAnd (mIsi "str" (mVar 0)) (mInG false [[102, 105, 114, 115, 116], [102, 101, 119], [116, 117, 114, 110, 115]] (mVar 0))))
noncomputable def r0 : Fn := runOf 1 b0
theorem sc0 : FnScope ["thing"] ["thing"] (defScope s0) := ⟨rfl, rfl, rfl, by decide +kernel, rfl, by decide +kernel, by decide +kernel⟩
/-- Writer.init -/
abbrev s1 : Stmt := inClass (top 20) 0
noncomputable def b1 : MSt := (mSeq (mIf (mNotT (mTest (mCall r0 1 (mConsS (mVar 1) (fun s => .ok [] s))))) (mRaise 1) mNext) (mSeq (mSetFld 0 0 (mVar 1) (mVar 0)) (mSeq (mSetFld 0 1 (mC (.str [])) (mVar 0)) (mSeq (mSetFld 0 2 (mC (.bl false)) (mVar 0)) (mSeq (mSetFld 0 3 (mC (.int 0)) (mVar 0)) (mSeq (mSetFld 0 4 (mC (.int 0)) (mVar 0)) (mSeq (mSetFld 0 5 (mC (.str [110, 111, 110, 101])) (mVar 0)) (mSeq (mSetFld 0 6 (mC (.bl false)) (mVar 0)) (mSeq (mSetFld 0 7 mDict0 (mVar 0)) (mSeq (mSetFld 0 8 (mC .non) (mVar 0)) (mSeq (mSetFld 0 9 (mC .non) (mVar 0)) (mSeq (mSetFld 0 10 (mC (.int 0)) (mVar 0)) (mSetFld 0 11 (mLst (fun s => .ok [] s)) (mVar 0))))))))))))))
noncomputable def r1 : Fn := runOf 2 b1
theorem sc1 : FnScope ["self", "rule"] ["self", "rule"] (defScope s1) := ⟨rfl, rfl, rfl, by decide +kernel, rfl, by decide +kernel, by decide +kernel⟩
/-- Writer.mode -/
abbrev s2 : Stmt := inClass (top 20) 26
noncomputable def b2 : MSt := (mRet (mFld 0 5 (mVar 0)))
noncomputable def r2 : Fn := runOf 1 b2
theorem sc2 : FnScope ["self"] ["self"] (defScope s2) := ⟨rfl, rfl, rfl, by decide +kernel, rfl, by decide +kernel, by decide +kernel⟩
/-- by_rule -/
abbrev s3 : Stmt := top 10
noncomputable def b3 : MSt := (mSeq (mIf (mTestB (mBin (opEqv false) (mVar 0) (mC (.str [102, 105, 114, 115, 116])))) (mRet (mBin opIxA (mVar 1) (mC (.int 0)))) mNext) (mSeq (mIf (mTestB (mBin (opEqv false) (mVar 0) (mC (.str [102, 101, 119])))) (mRet (mMinKey 2 (mVar 1))) mNext) (mSeq (mSet 4 (mLc [5] (mIt (mVar 1)) (gN 5) (mAndT (mTestB (mBin (opIs true) (mVar 3) (mC .non))) (mTestB (mBin opGt2 (mVar 5) (mVar 3)))) (mVar 5))) (mRet (mBin opIxA (mBin opAddS (mVar 4) (mVar 1)) (mC (.int 0)))))))
noncomputable def r3 : Fn := runOf 6 b3
theorem sc3 : FnScope ["rule", "names", "roads", "last", "later", "name"] ["rule", "names", "roads", "last"] (defScope s3) := ⟨rfl, rfl, rfl, by decide +kernel, rfl, by decide +kernel, by decide +kernel⟩
/-- chosen -/
abbrev s4 : Stmt := top 11
noncomputable def b4 : MSt := (mSeq (mIf (mNotT (mTest (mCall r0 1 (mConsS (mVar 0) (fun s => .ok [] s))))) (mRaise 1) mNext) (mSeq (mSet 3 (mCallB pSortS (mCons (mLk (mVar 1) (mLc [4, 5, 6, 7] (mItems (mVar 1)) (gT 2 (gsCons (gN 4) (gsCons (gT 3 (gsCons (gN 5) (gsCons (gN 6) (gsCons (gN 7) gsNil)))) gsNil))) (mNotT (mTest (mVar 7))) (mVar 4))) (fun s => .ok [] s)))) (mSeq (mSet 8 (mOr (mLc [4] (mIt (mVar 3)) (gN 4) (mNotT (mTest (mBin opIxA (mBin opIxA (mVar 1) (mVar 4)) (mC (.int 1))))) (mVar 4)) (mVar 3))) (mSeq (mIf (mTestB (mBin (opEqv false) (mVar 8) (mLst (fun s => .ok [] s)))) (mRet (mC .non)) mNext) (mRet (mCall r3 4 (mConsS (mVar 0) (mConsS (mVar 8) (mConsS (mVar 1) (mConsS (mVar 2) (fun s => .ok [] s)))))))))))
noncomputable def r4 : Fn := runOf 9 b4
theorem sc4 : FnScope ["rule", "roads", "last", "moving", "name", "unsure", "spare", "still", "names"] ["rule", "roads", "last"] (defScope s4) := ⟨rfl, rfl, rfl, by decide +kernel, rfl, by decide +kernel, by decide +kernel⟩
/-- refused -/
abbrev s5 : Stmt := top 22
noncomputable def b5 : MSt := (mSeq (mTryH cm1 3 (mIf (mTestB (mBin (opEqv false) (mVar 1) (mC (.int 0)))) (mExpr (mCall r4 3 (mConsS (mVar 0) (mConsS (mVar 2) (mConsS (mC .non) (fun s => .ok [] s)))))) (mExpr (mMakeK 0 12 r1 2 1 [0, 1] (mConsS (mVar 0) (fun s => .ok [] s))))) (mRet (mAnd (mIsX kb_ValueError (mVar 3)) (mNot (mIsX km0 (mVar 3)))))) (mRet (mC (.bl false))))
noncomputable def r5 : Fn := runOf 4 b5
theorem sc5 : FnScope ["_law_thing", "_law_door", "_law_menu", "e"] ["_law_thing", "_law_door", "_law_menu"] (defScope s5) := ⟨rfl, rfl, rfl, by decide +kernel, rfl, by decide +kernel, by decide +kernel⟩
/-- the law -/
abbrev s6 : Stmt := top 23
noncomputable def b6f0 : MSt := (mIf (mOrT (mTestB (mBin (opIs true) (mCall r0 1 (mConsS (mVar 4) (fun s => .ok [] s))) (mC (.bl true)))) (mOrT (mTestB (mBin (opEqv true) (mCall r4 3 (mConsS (mVar 4) (mConsS (mVar 3) (mConsS (mC .non) (fun s => .ok [] s))))) (mC (.str [97])))) (mTestB (mBin (opEqv true) (mMeth 0 r2 1 (mMakeK 0 12 r1 2 1 [0, 1] (mConsS (mVar 4) (fun s => .ok [] s))) (fun s => .ok [] s)) (mC (.str [110, 111, 110, 101])))))) (mRet (mC (.bl false))) mNext)
noncomputable def b6f1 : MSt := (mIf (mOrT (mTestB (mBin (opIs true) (mCall r0 1 (mConsS (mVar 5) (fun s => .ok [] s))) (mC (.bl false)))) (mOrT (mNotT (mTest (mCall r5 3 (mConsS (mVar 5) (mConsS (mC (.int 0)) (mConsS (mVar 3) (fun s => .ok [] s))))))) (mNotT (mTest (mCall r5 3 (mConsS (mVar 5) (mConsS (mC (.int 1)) (mConsS (mVar 3) (fun s => .ok [] s))))))))) (mRet (mC (.bl false))) mNext)
noncomputable def b6f2 : MSt := (mSeq (mSet 2 (mBin opMod (mCallB pAbs (mCons (mBin opIxA (mBin opAddS (mVar 0) (mLst (mConsS (mC (.int 0)) (fun s => .ok [] s)))) (mBin opMod (mVar 1) (mCallB pMax (mCons (mC (.int 1)) (mCons (mCallB pLen (mCons (mVar 0) (fun s => .ok [] s))) (fun s => .ok [] s)))))) (fun s => .ok [] s))) (mBin opPow (mC (.int 10)) (mC (.int 9))))) (mSeq (mSet 3 (mBox (mDisp (mPairs (mC (.str [97])) (mTup (mConsS (mBin opMod (mVar 2) (mC (.int 9))) (mConsS (mC (.bl false)) (mConsS (mC (.bl false)) (fun s => .ok [] s))))) (fun s => .ok [] s))))) (mSeq (mFor (mIt (mLst (mConsS (mC (.str [102, 105, 114, 115, 116])) (mConsS (mC (.str [102, 101, 119])) (mConsS (mC (.str [116, 117, 114, 110, 115])) (fun s => .ok [] s)))))) (gN 4) b6f0) (mSeq (mFor (mIt (mLst (mConsS (mC (.str [])) (mConsS (mC (.str [70, 105, 114, 115, 116])) (mConsS (mC (.str [108, 101, 97, 115, 116])) (mConsS (mC (.str [116, 117, 114, 110])) (mConsS (mC (.str [102, 101, 119, 32])) (mConsS (mC .non) (mConsS (mC (.int 0)) (mConsS (mC (.bl true)) (mConsS (mLst (mConsS (mC (.str [102, 101, 119])) (fun s => .ok [] s))) (mConsS (mTup (mConsS (mC (.str [102, 105, 114, 115, 116])) (fun s => .ok [] s))) (mConsS mDict0 (mConsS (mDisp (mPairs (mC (.str [102, 101, 119])) (mC (.int 1)) (fun s => .ok [] s))) (fun s => .ok [] s))))))))))))))) (gN 5) b6f1) (mIf (mNotT (mTest (mCall r5 3 (mConsS (mC (.str [110, 111, 110, 101])) (mConsS (mC (.int 0)) (mConsS (mBox mDict0) (fun s => .ok [] s))))))) (mRet (mC (.bl false))) mNext)))))
noncomputable def b6 : MSt := (mSeq (mFor (mRange1 (mCons (mCallB pMax (mCons (mC (.int 1)) (mCons (mCallB pMin (mCons (mCallB pLen (mCons (mVar 0) (fun s => .ok [] s))) (mCons (mC (.int 6)) (fun s => .ok [] s)))) (fun s => .ok [] s)))) (fun s => .ok [] s))) (gN 1) b6f2) (mRet (mBin (opEqv false) (mMeth 0 r2 1 (mMakeD 0 12 r1 2 [.str [102, 105, 114, 115, 116]]) (fun s => .ok [] s)) (mC (.str [110, 111, 110, 101])))))
noncomputable def r6 : Fn := runOf 6 b6
theorem sc6 : FnScope ["_law_script", "_law_k", "_law_digits", "_law_menu", "_law_word", "_law_thing"] ["_law_script"] (defScope s6) := ⟨rfl, rfl, rfl, by decide +kernel, rfl, by decide +kernel, by decide +kernel⟩
abbrev RK (K : PySem.W.Frag) (C0 : Addr) (E0 : Addr) (E1 : Addr) (lc : Addr) (lP : Addr) : RC := ⟨K, fun c => match c with | 0 => C0 | _ => 0, fun c => match c with | 0 => ["own_rule", "own_signs", "was_ended", "own_known", "own_limit", "own_mode", "was_over", "own_roads", "first_road", "last_road", "own_next", "own_anew"] | _ => [], fun c => match c with | 0 => E0 | 1 => E1 | _ => 0, fun _ => [], [(lP, (envOfC "by_rule" (defScope s3) 0 0 .none).qual ++ "<lambda>")]⟩
theorem nd0 : (["own_rule", "own_signs", "was_ended", "own_known", "own_limit", "own_mode", "was_over", "own_roads", "first_road", "last_road", "own_next", "own_anew"] : List Str).Nodup := by decide +kernel
theorem hl0 : (["own_rule", "own_signs", "was_ended", "own_known", "own_limit", "own_mode", "was_over", "own_roads", "first_road", "last_road", "own_next", "own_anew"] : List Str).length < 1000 := by decide +kernel
theorem nm1 : ("__init__" : Str) ∉ (["own_rule", "own_signs", "was_ended", "own_known", "own_limit", "own_mode", "was_over", "own_roads", "first_road", "last_road", "own_next", "own_anew"] : List Str) := by decide +kernel
theorem nm2 : ("mode" : Str) ∉ (["own_rule", "own_signs", "was_ended", "own_known", "own_limit", "own_mode", "was_over", "own_roads", "first_road", "last_road", "own_next", "own_anew"] : List Str) := by decide +kernel
abbrev es0 : Stmt := inClass (top 2) 0
theorem esc0 : FnScope ["self"] ["self"] (defScope es0) := ⟨rfl, rfl, rfl, by decide +kernel, rfl, by decide +kernel, by decide +kernel⟩
abbrev es1 : Stmt := inClass (top 4) 0
theorem esc1 : FnScope ["self"] ["self"] (defScope es1) := ⟨rfl, rfl, rfl, by decide +kernel, rfl, by decide +kernel, by decide +kernel⟩
structure Txt (K : PySem.W.Frag) (mg : Str → Option Value) (a0 a1 a2 a3 a4 a5 a6 C0 E0 E1 lc lP ea1 : Addr) (d0 d1 d2 d3 d4 d5 d6 ed1 : FuncData) : Prop where
  F0 : Fun K "is_rule" "is_rule" s0 a0 d0
  m0 : mg "is_rule" = some (.ref a0)
  k0 : PySem.W.keepIn K (.ref a0) = true
  b0 : Binds K d0 ["thing"] []
  F1 : Fun K "__init__" "Writer.__init__" s1 a1 d1
  mk0 : Mk K C0 a1
  k1 : PySem.W.keepIn K (.ref a1) = true
  F2 : Fun K "mode" "Writer.mode" s2 a2 d2
  me2 : Meth K C0 "mode" a2
  k2 : PySem.W.keepIn K (.ref a2) = true
  b2 : Binds K d2 ["self"] []
  F3 : Fun K "by_rule" "by_rule" s3 a3 d3
  m3 : mg "by_rule" = some (.ref a3)
  k3 : PySem.W.keepIn K (.ref a3) = true
  lcd : d3.code = .ref lc
  b3 : Binds K d3 ["rule", "names", "roads", "last"] []
  F4 : Fun K "chosen" "chosen" s4 a4 d4
  m4 : mg "chosen" = some (.ref a4)
  k4 : PySem.W.keepIn K (.ref a4) = true
  b4 : Binds K d4 ["rule", "roads", "last"] []
  F5 : Fun K "_law_refused" "_law_refused" s5 a5 d5
  m5 : mg "_law_refused" = some (.ref a5)
  k5 : PySem.W.keepIn K (.ref a5) = true
  b5 : Binds K d5 ["_law_thing", "_law_door", "_law_menu"] []
  F6 : Fun K "law" "law" s6 a6 d6
  m6 : mg "law" = some (.ref a6)
  k6 : PySem.W.keepIn K (.ref a6) = true
  b6 : Binds K d6 ["_law_script"] []
  kb0 : KB d1 ["self", "rule"] ["rule"] 1 [0, 1]
  bd1 : ∃ ds, Vals [.str ⟨List.toArray [102, 105, 114, 115, 116]⟩] ds ∧ Binds K d1 ["self", "rule"] ds
  cl0 : Cls K C0
  mc0 : mg "Writer" = some (.ref C0)
  na0_0 : NoAttr K C0 "own_rule"
  na0_1 : NoAttr K C0 "own_signs"
  na0_2 : NoAttr K C0 "was_ended"
  na0_3 : NoAttr K C0 "own_known"
  na0_4 : NoAttr K C0 "own_limit"
  na0_5 : NoAttr K C0 "own_mode"
  na0_6 : NoAttr K C0 "was_over"
  na0_7 : NoAttr K C0 "own_roads"
  na0_8 : NoAttr K C0 "first_road"
  na0_9 : NoAttr K C0 "last_road"
  na0_10 : NoAttr K C0 "own_next"
  na0_11 : NoAttr K C0 "own_anew"
  em0 : mg "NoRoom" = some (.ref E0)
  ix0 : IsX (RK K C0 E0 E1 lc lP) K (.ref E0) km0
  em1 : mg "NoRule" = some (.ref E1)
  oe1 : OexC K E1
  oi1 : PySem.W.findIn K (.ref E1) "__init__" = some (some (.ref ea1))
  ot1 : PySem.W.typeIn K (.ref ea1) = some (.type "function")
  oF1 : Fun K "__init__" "NoRule.__init__" es1 ea1 ed1
  ob1 : Binds K ed1 ["self"] []
  xm1 : ∀ c b, cm1 c = some b → PySem.W.exmOne K (.ref ((RK K C0 E0 E1 lc lP).exA c)) (.ref E1) = some b
  ib_ValueError : IsX (RK K C0 E0 E1 lc lP) K (.type "ValueError") kb_ValueError
  vV : PySem.W.findCls K (.type "ValueError") (.type "type") "__init__" = some (.val (.builtin "ValueError.__init__"))
  z_ValueError : mg "ValueError" = none
  z_abs : mg "abs" = none
  z_isinstance : mg "isinstance" = none
  z_len : mg "len" = none
  z_max : mg "max" = none
  z_min : mg "min" = none
  z_range : mg "range" = none
  z_sorted : mg "sorted" = none
  z_str : mg "str" = none
  g_RULES : GTupS K mg "RULES" [[102, 105, 114, 115, 116], [102, 101, 119], [116, 117, 114, 110, 115]]
section
variable {P : Program} {w : World} {K : PySem.W.Frag} {mg : Str → Option Value} {base : Heap} {a0 a1 a2 a3 a4 a5 a6 C0 E0 E1 lc lP ea1 : Addr} {d0 d1 d2 d3 d4 d5 d6 ed1 : FuncData}
theorem oke1 (T : Txt K mg a0 a1 a2 a3 a4 a5 a6 C0 E0 E1 lc lP ea1 d0 d1 d2 d3 d4 d5 d6 ed1) : Mi.FnOk P w K mg base (L2.CX P w) (0 + 1) ea1 ed1 ["self"] (spI E1) := by
  refine fn_body T.oF1 esc1 (fun vs H Q E h => by obtain ⟨a, rfl, _⟩ := h; rfl) fun cdv A outer s H vs Q E hr h => ?_
  exact ⟨_, pss_one (ps_expr (pe_veinit rfl T.z_ValueError T.vV (pa_cons (pe_var (i := 0) rfl (.inl rfl)) (pa_cons pe_str pa_nil)))), exc_wish T.oe1 h⟩
theorem ok0 (T : Txt K mg a0 a1 a2 a3 a4 a5 a6 C0 E0 E1 lc lP ea1 d0 d1 d2 d3 d4 d5 d6 ed1) (TB : LamX.TabB base mg lc lP) : Mi.FnOk P w K mg base (L2.CX P w) 1 a0 d0 ["thing"] (spF (RK K C0 E0 E1 lc lP) 1 r0) := by
  refine fn_def T.F0 sc0 rfl (by decide) fun cdv A outer s H E hr tk hp => ?_
  have hN := sc0.nd
  exact (jb_one (js_ret (je_and (je_isi (se_var 0) T.z_isinstance T.z_str boot_str') (je_one (je_inG T.g_RULES (se_var 0))))))
theorem ok1 (T : Txt K mg a0 a1 a2 a3 a4 a5 a6 C0 E0 E1 lc lP ea1 d0 d1 d2 d3 d4 d5 d6 ed1) (TB : LamX.TabB base mg lc lP) : Mi.FnOk P w K mg base (L2.CX P w) 3 a1 d1 ["self", "rule"] (spF (RK K C0 E0 E1 lc lP) 2 r1) := by
  have G0 := ok0 (P := P) (w := w) (base := base) T TB
  refine fn_def T.F1 sc1 rfl (by decide) fun cdv A outer s H E hr tk hp => ?_
  have hN := sc1.nd
  exact (jb_cons (js_if (jt_not (jt_plain (je_call G0 tk (hr.mono (by decide)) T.m0 T.k0 T.b0 (jas_cons (se_var 1) jas_nil)))) (jb_one (js_raise0 1 rfl T.oe1 T.oi1 T.ot1 (oke1 T) tk (hr.mono (by decide)) T.ob1 T.em1)) jb_nil) (jb_cons (js_fld 0 0 T.cl0 T.na0_0 (se_var 1) (se_var 0) (nd := nd0) (hl := hl0)) (jb_cons (js_fld 0 1 T.cl0 T.na0_1 se_str (se_var 0) (nd := nd0) (hl := hl0)) (jb_cons (js_fld 0 2 T.cl0 T.na0_2 se_bl (se_var 0) (nd := nd0) (hl := hl0)) (jb_cons (js_fld 0 3 T.cl0 T.na0_3 se_int (se_var 0) (nd := nd0) (hl := hl0)) (jb_cons (js_fld 0 4 T.cl0 T.na0_4 se_int (se_var 0) (nd := nd0) (hl := hl0)) (jb_cons (js_fld 0 5 T.cl0 T.na0_5 se_str (se_var 0) (nd := nd0) (hl := hl0)) (jb_cons (js_fld 0 6 T.cl0 T.na0_6 se_bl (se_var 0) (nd := nd0) (hl := hl0)) (jb_cons (js_fld 0 7 T.cl0 T.na0_7 je_dict0 (se_var 0) (nd := nd0) (hl := hl0)) (jb_cons (js_fld 0 8 T.cl0 T.na0_8 se_non (se_var 0) (nd := nd0) (hl := hl0)) (jb_cons (js_fld 0 9 T.cl0 T.na0_9 se_non (se_var 0) (nd := nd0) (hl := hl0)) (jb_cons (js_fld 0 10 T.cl0 T.na0_10 se_int (se_var 0) (nd := nd0) (hl := hl0)) (jb_one (js_fld 0 11 T.cl0 T.na0_11 (je_lst jas_nil) (se_var 0) (nd := nd0) (hl := hl0)))))))))))))))
theorem ok2 (T : Txt K mg a0 a1 a2 a3 a4 a5 a6 C0 E0 E1 lc lP ea1 d0 d1 d2 d3 d4 d5 d6 ed1) (TB : LamX.TabB base mg lc lP) : Mi.FnOk P w K mg base (L2.CX P w) 1 a2 d2 ["self"] (spF (RK K C0 E0 E1 lc lP) 1 r2) := by
  refine fn_def T.F2 sc2 rfl (by decide) fun cdv A outer s H E hr tk hp => ?_
  have hN := sc2.nd
  exact (jb_one (js_ret (je_fld 0 5 T.cl0 T.na0_5 (se_var 0))))
theorem ok3 (T : Txt K mg a0 a1 a2 a3 a4 a5 a6 C0 E0 E1 lc lP ea1 d0 d1 d2 d3 d4 d5 d6 ed1) (TB : LamX.TabB base mg lc lP) : Mi.FnOk P w K mg base (L2.CX P w) 3 a3 d3 ["rule", "names", "roads", "last"] (spF (RK K C0 E0 E1 lc lP) 4 r3) := by
  refine fn_defC T.F3 T.lcd sc3 rfl (by decide) fun cdv hcd A outer s H E hr tk hp => ?_
  have hN := sc3.nd
  exact (jb_cons (js_if (jt_eq hr (se_var 0) se_str) (jb_one (js_ret (je_ixA hr (se_var 1) se_int))) jb_nil) (jb_cons (js_if (jt_eq hr (se_var 0) se_str) (jb_one (js_ret (je_minKey (nm := "name") (rd := "roads") (k := 0) 2 TB hcd (hr.mono (by decide)) rfl T.z_min (by rfl) (by rfl) rfl (fun _ _ _ _ _ _ => rfl) (se_var 1)))) jb_nil) (jb_cons (js_setLc (i := 4) (own := [("name", 5)]) rfl hN (ji_any (se_var 1)) (blkOk_by (by rfl)) (fun _ _ _ _ _ => (jg_name (i := 5) hN)) (fun _ _ _ _ _ => (jts_one (jt_w (jw_and (jt_isnot (se_var 3) se_non) (jw_and1 (jt_gt2 (se_var 5) (se_var 3))))))) (fun _ _ _ _ _ => (se_var 5))) (jb_one (js_ret (je_ixA hr (je_addS (se_var 4) (se_var 1)) se_int))))))
theorem ok4 (T : Txt K mg a0 a1 a2 a3 a4 a5 a6 C0 E0 E1 lc lP ea1 d0 d1 d2 d3 d4 d5 d6 ed1) (TB : LamX.TabB base mg lc lP) : Mi.FnOk P w K mg base (L2.CX P w) 4 a4 d4 ["rule", "roads", "last"] (spF (RK K C0 E0 E1 lc lP) 3 r4) := by
  have G3 := ok3 (P := P) (w := w) (base := base) T TB
  have G0 := ok0 (P := P) (w := w) (base := base) T TB
  refine fn_def T.F4 sc4 rfl (by decide) fun cdv A outer s H E hr tk hp => ?_
  have hN := sc4.nd
  exact (jb_cons (js_if (jt_not (jt_plain (je_call G0 tk (hr.mono (by decide)) T.m0 T.k0 T.b0 (jas_cons (se_var 0) jas_nil)))) (jb_one (js_raise0 1 rfl T.oe1 T.oi1 T.ot1 (oke1 T) tk (hr.mono (by decide)) T.ob1 T.em1)) jb_nil) (jb_cons (js_set (i := 3) hN (je_sortedS (ja_cons (je_lk (pk := (mVar 1)) (je_lc (own := [("name", 4), ("unsure", 5), ("spare", 6), ("still", 7)]) rfl hN (ji_items (se_var 1)) (blkOk_by (by rfl)) (fun _ _ _ _ _ => (jg_tup rfl (jgs_cons (jg_name (i := 4) hN) (jgs_cons (jg_tup rfl (jgs_cons (jg_name (i := 5) hN) (jgs_cons (jg_name (i := 6) hN) (jgs_cons (jg_name (i := 7) hN) jgs_nil)))) jgs_nil)))) (fun _ _ _ _ _ => (jts_one (jt_not (jt_plain (se_var 7))))) (fun _ _ _ _ _ => (se_var 4)))) ja_nil) (hm := T.z_sorted))) (jb_cons (js_set (i := 8) hN (je_or (je_lc (own := [("name", 4)]) rfl hN (ji_any (se_var 3)) (blkOk_by (by rfl)) (fun _ _ _ _ _ => (jg_name (i := 4) hN)) (fun _ _ _ _ _ => (jts_one (jt_not (jt_plain (je_ixA hr (je_ixA hr (se_var 1) (se_var 4)) se_int))))) (fun _ _ _ _ _ => (se_var 4))) (je_one (se_var 3)))) (jb_cons (js_if (jt_eq hr (se_var 8) (je_lst jas_nil)) (jb_one (js_ret se_non)) jb_nil) (jb_one (js_ret (je_call G3 tk (hr.mono (by decide)) T.m3 T.k3 T.b3 (jas_cons (se_var 0) (jas_cons (se_var 8) (jas_cons (se_var 1) (jas_cons (se_var 2) jas_nil)))))))))))
theorem ok5 (T : Txt K mg a0 a1 a2 a3 a4 a5 a6 C0 E0 E1 lc lP ea1 d0 d1 d2 d3 d4 d5 d6 ed1) (TB : LamX.TabB base mg lc lP) : Mi.FnOk P w K mg base (L2.CX P w) 5 a5 d5 ["_law_thing", "_law_door", "_law_menu"] (spF (RK K C0 E0 E1 lc lP) 3 r5) := by
  have G1 := ok1 (P := P) (w := w) (base := base) T TB
  have G4 := ok4 (P := P) (w := w) (base := base) T TB
  refine fn_def T.F5 sc5 rfl (by decide) fun cdv A outer s H E hr tk hp => ?_
  have hN := sc5.nd
  exact (jb_cons (js_tryH (i := 3) (cm := cm1) (fb := (mIf (mTestB (mBin (opEqv false) (mVar 1) (mC (.int 0)))) (mExpr (mCall r4 3 (mConsS (mVar 0) (mConsS (mVar 2) (mConsS (mC .non) (fun s => .ok [] s)))))) (mExpr (mMakeK 0 12 r1 2 1 [0, 1] (mConsS (mVar 0) (fun s => .ok [] s)))))) (fh := (mRet (mAnd (mIsX kb_ValueError (mVar 3)) (mNot (mIsX km0 (mVar 3)))))) hN (names_own T.em1) tk rfl (fun _ => T.xm1) (by intro W1 pn1 xe1 tk hp; exact (jb_one (js_if (jt_eq hr (se_var 1) se_int) (jb_one (js_expr (je_call G4 tk (hr.mono (by decide)) T.m4 T.k4 T.b4 (jas_cons (se_var 0) (jas_cons (se_var 2) (jas_cons se_non jas_nil)))))) (jb_one (js_expr (je_makeK0 (R := (RK K C0 E0 E1 lc lP)) 0 T.mk0 G1 tk (hr.mono (by decide)) T.mc0 T.kb0 (jks_cons (se_var 0) jks_nil))))))) (fun a9 pn9 => (jb_one (js_ret (je_and (je_isXb (se_var 3) T.z_isinstance T.z_ValueError boot_ValueError T.ib_ValueError) (je_one (je_not (je_isX (se_var 3) T.z_isinstance T.em0 T.ix0)))))))) (jb_one (js_ret se_bl)))
theorem ok6 (T : Txt K mg a0 a1 a2 a3 a4 a5 a6 C0 E0 E1 lc lP ea1 d0 d1 d2 d3 d4 d5 d6 ed1) (TB : LamX.TabB base mg lc lP) : Mi.FnOk P w K mg base (L2.CX P w) 6 a6 d6 ["_law_script"] (spF (RK K C0 E0 E1 lc lP) 1 r6) := by
  have G1 := ok1 (P := P) (w := w) (base := base) T TB
  have G2 := ok2 (P := P) (w := w) (base := base) T TB
  have G5 := ok5 (P := P) (w := w) (base := base) T TB
  have G4 := ok4 (P := P) (w := w) (base := base) T TB
  have G0 := ok0 (P := P) (w := w) (base := base) T TB
  refine fn_def T.F6 sc6 rfl (by decide) fun cdv A outer s H E hr tk hp => ?_
  have hN := sc6.nd
  exact (jb_cons (js_for hp rfl (ji_range1 T.z_range (ja_cons (je_max (ja_cons se_int (ja_cons (je_min (ja_cons (je_len (ja_cons (se_var 0) ja_nil) rfl rfl T.z_len) (ja_cons se_int ja_nil)) rfl rfl T.z_min) ja_nil)) rfl rfl T.z_max) ja_nil)) (jg_name (i := 1) hN) (fb := b6f2) (jb_cons (js_set (i := 2) hN (je_mod (je_abs (ja_cons (je_ixA hr (je_addS (se_var 0) (je_lst (jas_cons se_int jas_nil))) (je_mod (se_var 1) (je_max (ja_cons se_int (ja_cons (je_len (ja_cons (se_var 0) ja_nil) rfl rfl T.z_len) ja_nil)) rfl rfl T.z_max))) ja_nil) rfl rfl T.z_abs) (je_pow se_int se_int))) (jb_cons (js_set (i := 3) hN (je_box (je_disp (jp_cons se_str (je_tup (jas_cons (je_mod (se_var 2) se_int) (jas_cons se_bl (jas_cons se_bl jas_nil)))) jp_nil)))) (jb_cons (js_for hp rfl (ji_any (je_lst (jas_cons se_str (jas_cons se_str (jas_cons se_str jas_nil))))) (jg_name (i := 4) hN) (fb := b6f0) (jb_one (js_if (jt_w (jw_or (jt_isnot (je_call G0 tk (hr.mono (by decide)) T.m0 T.k0 T.b0 (jas_cons (se_var 4) jas_nil)) se_bl) (jw_or (jt_ne hr (je_call G4 tk (hr.mono (by decide)) T.m4 T.k4 T.b4 (jas_cons (se_var 4) (jas_cons (se_var 3) (jas_cons se_non jas_nil)))) se_str) (jw_or1 (jt_ne hr (je_meth0 0 T.cl0 T.me2 G2 tk (hr.mono (by decide)) T.b2 (je_makeK0 (R := (RK K C0 E0 E1 lc lP)) 0 T.mk0 G1 tk (hr.mono (by decide)) T.mc0 T.kb0 (jks_cons (se_var 4) jks_nil)) (hnm := nm2)) se_str))))) (jb_one (js_ret se_bl)) jb_nil))) (jb_cons (js_for hp rfl (ji_any (je_lst (jas_cons se_str (jas_cons se_str (jas_cons se_str (jas_cons se_str (jas_cons se_str (jas_cons se_non (jas_cons se_int (jas_cons se_bl (jas_cons (je_lst (jas_cons se_str jas_nil)) (jas_cons (je_tup (jas_cons se_str jas_nil)) (jas_cons je_dict0 (jas_cons (je_disp (jp_cons se_str se_int jp_nil)) jas_nil)))))))))))))) (jg_name (i := 5) hN) (fb := b6f1) (jb_one (js_if (jt_w (jw_or (jt_isnot (je_call G0 tk (hr.mono (by decide)) T.m0 T.k0 T.b0 (jas_cons (se_var 5) jas_nil)) se_bl) (jw_or (jt_not (jt_plain (je_call G5 tk (hr.mono (by decide)) T.m5 T.k5 T.b5 (jas_cons (se_var 5) (jas_cons se_int (jas_cons (se_var 3) jas_nil)))))) (jw_or1 (jt_not (jt_plain (je_call G5 tk (hr.mono (by decide)) T.m5 T.k5 T.b5 (jas_cons (se_var 5) (jas_cons se_int (jas_cons (se_var 3) jas_nil)))))))))) (jb_one (js_ret se_bl)) jb_nil))) (jb_one (js_if (jt_not (jt_plain (je_call G5 tk (hr.mono (by decide)) T.m5 T.k5 T.b5 (jas_cons se_str (jas_cons se_int (jas_cons (je_box je_dict0) jas_nil)))))) (jb_one (js_ret se_bl)) jb_nil))))))) (jb_one (js_ret (je_eq hr (je_meth0 0 T.cl0 T.me2 G2 tk (hr.mono (by decide)) T.b2 (je_makeD (R := (RK K C0 E0 E1 lc lP)) 0 (dm := [.str [102, 105, 114, 115, 116]]) (dvs := [.str ⟨List.toArray [102, 105, 114, 115, 116]⟩]) T.mk0 G1 tk (hr.mono (by decide)) T.mc0 T.bd1 vr_str) (hnm := nm2)) se_str))))
end
theorem all_mk {l : PySem.W.OpenLaw} {w : World} {K : PySem.W.Frag} {h : Heap} {mg : Str → Option Value} {fa a0 a1 a2 a3 a4 a5 a6 C0 E0 E1 lc lP ea1 : Addr} (X : K.In h) (G : h.Ns mainGlobals mg) (hfa : mg "law" = some (.ref fa)) (lt : ∀ ns : List Int, ns.length ≤ 63 → Says r6 ns) (tn : K.lookup lP = none) (th : PySem.W.codeHdIn K lc lP = true) (tb : h.get? lP = some tabO)
    {od0 an0 od1 an1 od2 an2 od3 an3 od4 an4 od5 an5 od6 an6 : Option Addr} {sl0 sl1 sl2 sl3 sl4 sl5 sl6 : Array (Option Value)} {oc0 kV0 dc0 pm0 cd0 ct0 oc1 kV1 dc1 pm1 cd1 ct1 oc2 kV2 dc2 pm2 cd2 ct2 oc3 kV3 dc3 pm3 cd3 ct3 oc4 kV4 dc4 pm4 cd4 ct4 oc5 kV5 dc5 pm5 cd5 ct5 oc6 kV6 dc6 pm6 cd6 ct6 : Value}
    {nmE1 qE1 : Str} {NE1 : Addr} {bsE1 : List Value} {snE1 : List Str} {subE1 : List Value} {abE1 : Bool} {colE1 : Option Bool} {ddE1 : Option Addr} {m0E1 m1E1 m2E1 m3E1 m5E1 : Option Value} {eodE1 eanE1 : Option Addr} {eslE1 : Array (Option Value)} {eocE1 ekVE1 edcE1 epmE1 ecdE1 ectE1 : Value}
    (x0 : PySem.W.nsIn K mainGlobals "is_rule" = some (some (.ref a0)))
    (l0 : K.lookup a0 = some ⟨oc0, od0, .func (PySem.W.fnOf "is_rule" "is_rule" (defArgs s0) (defBody s0) (defScope s0) .none kV0 dc0 pm0 an0 cd0 ct0), sl0⟩) (c0 : PySem.W.codeIn K cd0 "is_rule" = true) (k0 : PySem.W.keepIn K (.ref a0) = true)
    (x1 : PySem.W.findIn K (.ref C0) "__init__" = some (some (.ref a1))) (i1 : PySem.W.isFn K (.ref a1) = true)
    (l1 : K.lookup a1 = some ⟨oc1, od1, .func (PySem.W.fnOf "__init__" "Writer.__init__" (defArgs s1) (defBody s1) (defScope s1) .none kV1 dc1 pm1 an1 cd1 ct1), sl1⟩) (c1 : PySem.W.codeIn K cd1 "Writer.__init__" = true) (k1 : PySem.W.keepIn K (.ref a1) = true)
    (x2 : PySem.W.findIn K (.ref C0) "mode" = some (some (.ref a2))) (i2 : PySem.W.isFn K (.ref a2) = true)
    (l2 : K.lookup a2 = some ⟨oc2, od2, .func (PySem.W.fnOf "mode" "Writer.mode" (defArgs s2) (defBody s2) (defScope s2) .none kV2 dc2 pm2 an2 cd2 ct2), sl2⟩) (c2 : PySem.W.codeIn K cd2 "Writer.mode" = true) (k2 : PySem.W.keepIn K (.ref a2) = true)
    (x3 : PySem.W.nsIn K mainGlobals "by_rule" = some (some (.ref a3)))
    (l3 : K.lookup a3 = some ⟨oc3, od3, .func (PySem.W.fnOf "by_rule" "by_rule" (defArgs s3) (defBody s3) (defScope s3) .none kV3 dc3 pm3 an3 cd3 ct3), sl3⟩) (c3 : PySem.W.codeIn K cd3 "by_rule" = true) (k3 : PySem.W.keepIn K (.ref a3) = true)
    (x4 : PySem.W.nsIn K mainGlobals "chosen" = some (some (.ref a4)))
    (l4 : K.lookup a4 = some ⟨oc4, od4, .func (PySem.W.fnOf "chosen" "chosen" (defArgs s4) (defBody s4) (defScope s4) .none kV4 dc4 pm4 an4 cd4 ct4), sl4⟩) (c4 : PySem.W.codeIn K cd4 "chosen" = true) (k4 : PySem.W.keepIn K (.ref a4) = true)
    (x5 : PySem.W.nsIn K mainGlobals "_law_refused" = some (some (.ref a5)))
    (l5 : K.lookup a5 = some ⟨oc5, od5, .func (PySem.W.fnOf "_law_refused" "_law_refused" (defArgs s5) (defBody s5) (defScope s5) .none kV5 dc5 pm5 an5 cd5 ct5), sl5⟩) (c5 : PySem.W.codeIn K cd5 "_law_refused" = true) (k5 : PySem.W.keepIn K (.ref a5) = true)
    (x6 : PySem.W.nsIn K mainGlobals "law" = some (some (.ref a6)))
    (l6 : K.lookup a6 = some ⟨oc6, od6, .func (PySem.W.fnOf "law" "law" (defArgs s6) (defBody s6) (defScope s6) .none kV6 dc6 pm6 an6 cd6 ct6), sl6⟩) (c6 : PySem.W.codeIn K cd6 "law" = true) (k6 : PySem.W.keepIn K (.ref a6) = true)
    (tc : cd3 = .ref lc) {ocL : Value} {odL : Option Addr} {vsL : Array Value} {slL : Array (Option Value)} (tl : K.lookup lc = some ⟨ocL, odL, .fields vsL, slL⟩) (tp : vsL[11]? = some (.ref lP))
    {D1 : Addr} {tD1 : Tok} (kd1 : kV1 = .ref D1) (kn1 : PySem.W.nsIn K D1 "rule" = some (some (.str "first" tD1)))
    (aC0 : PySem.W.nsIn K mainGlobals "Writer" = some (some (.ref C0))) (pg0 : PySem.W.plainGet K C0 Str.empty = true) (hd0 : PySem.W.hasDictIn K C0 = true) (po0 : PySem.W.plainOver K C0 = true) (sa0 : PySem.W.findIn K (.ref C0) "__setattr__" = some (some (.builtin "object.__setattr__"))) (mK0 : PySem.W.makesIn K C0 = true) (kc0 : PySem.W.keepIn K (.ref C0) = true)
    (na0_0 : PySem.W.findIn K (.ref C0) "own_rule" = some none)
    (na0_1 : PySem.W.findIn K (.ref C0) "own_signs" = some none)
    (na0_2 : PySem.W.findIn K (.ref C0) "was_ended" = some none)
    (na0_3 : PySem.W.findIn K (.ref C0) "own_known" = some none)
    (na0_4 : PySem.W.findIn K (.ref C0) "own_limit" = some none)
    (na0_5 : PySem.W.findIn K (.ref C0) "own_mode" = some none)
    (na0_6 : PySem.W.findIn K (.ref C0) "was_over" = some none)
    (na0_7 : PySem.W.findIn K (.ref C0) "own_roads" = some none)
    (na0_8 : PySem.W.findIn K (.ref C0) "first_road" = some none)
    (na0_9 : PySem.W.findIn K (.ref C0) "last_road" = some none)
    (na0_10 : PySem.W.findIn K (.ref C0) "own_next" = some none)
    (na0_11 : PySem.W.findIn K (.ref C0) "own_anew" = some none)
    (xa0 : PySem.W.nsIn K mainGlobals "NoRoom" = some (some (.ref E0)))
    (xe0 : PySem.W.subIn K (.ref E0) (.type "BaseException") = some true)
    (xy0 : PySem.W.typeIn K (.ref E0) = some (.type "type"))
    (xh0 : PySem.W.hasDictIn K E0 = true)
    (xa1 : PySem.W.nsIn K mainGlobals "NoRule" = some (some (.ref E1)))
    (xL1 : K.lookup E1 = some (excClassObj nmE1 qE1 E1 NE1 bsE1 [.type "ValueError", .type "Exception", .type "BaseException", .type "object"] true snE1 subE1 abE1 colE1 ddE1 m0E1 m1E1 m2E1 m3E1 m5E1 "ValueError.__new__"))
    (xs1 : PySem.W.findIn K (.ref E1) "__setattr__" = some (some (.builtin "object.__setattr__")))
    (xi1 : PySem.W.findIn K (.ref E1) "__init__" = some (some (.ref ea1)))
    (xt1 : PySem.W.typeIn K (.ref ea1) = some (.type "function"))
    (xl1 : K.lookup ea1 = some ⟨eocE1, eodE1, .func (PySem.W.fnOf "__init__" "NoRule.__init__" (defArgs es1) (defBody es1) (defScope es1) .none ekVE1 edcE1 epmE1 eanE1 ecdE1 ectE1), eslE1⟩)
    (xc1 : PySem.W.codeIn K ecdE1 "NoRule.__init__" = true)
    (xp1 : PySem.W.keepIn K (.ref ea1) = true)
    (xk1 : PySem.W.keepIn K (.ref E1) = true)
    (xe1 : PySem.W.subIn K (.ref E1) (.type "BaseException") = some true)
    (xy1 : PySem.W.typeIn K (.ref E1) = some (.type "type"))
    (xh1 : PySem.W.hasDictIn K E1 = true)
    (xf1 : PySem.W.subIn K (.ref E1) (.ref E1) = some true)
    (xg1 : PySem.W.findIn K (.ref E1) "__getattribute__" = some (some (.builtin "BaseException.__getattribute__")))
    (xG1 : PySem.W.findIn K (.ref E1) "__getattr__" = some none)
    (xC1 : PySem.W.findIn K (.ref E1) "__class__" = some (some (.builtin "object.__class__")))
    (xm1 : PySem.W.mroIn K E1 (.type "object") = some true)
    (kx_0_1 : PySem.W.kitOne K (.ref E1) (.ref E0) = some false)
    (kt_ValueError_1 : PySem.W.kitOne K (.ref E1) (.type "ValueError") = some true)
    (xhn : PySem.W.specialIn K (.builtin "object.__class__") "__get__" = some (some (.builtin "getset_descriptor.__get__"))) (xht : PySem.W.takesIn K (.builtin "object.__class__") = some true)
    (vV : PySem.W.findCls K (.type "ValueError") (.type "type") "__init__" = some (.val (.builtin "ValueError.__init__")))
    (z_ValueError : PySem.W.nsIn K mainGlobals "ValueError" = some none)
    (z_abs : PySem.W.nsIn K mainGlobals "abs" = some none)
    (z_isinstance : PySem.W.nsIn K mainGlobals "isinstance" = some none)
    (z_len : PySem.W.nsIn K mainGlobals "len" = some none)
    (z_max : PySem.W.nsIn K mainGlobals "max" = some none)
    (z_min : PySem.W.nsIn K mainGlobals "min" = some none)
    (z_range : PySem.W.nsIn K mainGlobals "range" = some none)
    (z_sorted : PySem.W.nsIn K mainGlobals "sorted" = some none)
    (z_str : PySem.W.nsIn K mainGlobals "str" = some none)
    {A_RULES : Addr} {N_RULES : Nat} {O_RULES : Option Addr} {I_RULES : Array Value} {S_RULES : Array (Option Value)} (aCg_RULES : PySem.W.nsIn K mainGlobals "RULES" = some (some (.ref A_RULES))) (lg_RULES : K.lookup A_RULES = some ⟨.type "tuple", O_RULES, .seq I_RULES N_RULES, S_RULES⟩) (ig_RULES : LitT I_RULES.toList [[102, 105, 114, 115, 116], [102, 101, 119], [116, 117, 114, 110, 115]])
    : ∃ (fd : FuncData) (cs : List (Addr × Addr)) (sp : Sp), (∀ p ∈ cs, h.get? p.2 = some tabO) ∧ (∀ p ∈ cs, K.lookup p.2 = none) ∧ (∀ p ∈ cs, PySem.W.CodeHd h p.1 p.2) ∧ (∀ (s : Shared) (u : Value), BindsTo s fd ⟨[u], []⟩ [("_law_script", u)]) ∧ (∀ (T : Hp) (a : Addr) (ns : List Int), ns.length ≤ 63 → (∀ p ∈ cs, T p.2 = some (.tbl #[])) → SqL K T a (ns.map V.int) → sp [.ref a] T (fun v _ => v = .bl true) fun _ _ _ => False) ∧ ∀ base : Heap, K.In base → base.Ns mainGlobals mg → (∀ p ∈ cs, LamX.TabB base mg p.1 p.2) → Mi.FnOk l.prog w K mg base (L2.CX l.prog w) 6 fa fd ["_law_script"] sp := by
  have e := hfa.symm.trans (PySem.W.mg_of X G x6)
  cases e
  have F0 := fun_mk (st := s0) l0 c0 k0
  have F1 := fun_mk (st := s1) l1 c1 k1
  have F2 := fun_mk (st := s2) l2 c2 k2
  have F3 := fun_mk (st := s3) l3 c3 k3
  have F4 := fun_mk (st := s4) l4 c4 k4
  have F5 := fun_mk (st := s5) l5 c5 k5
  have F6 := fun_mk (st := s6) l6 c6 k6
  have FE1 := fun_mk (st := es1) xl1 xc1 xp1
  have T : Txt K mg _ _ _ _ _ _ _ _ _ _ lc lP _ _ _ _ _ _ _ _ _ := {
    F0 := F0
    m0 := PySem.W.mg_of X G x0
    k0 := k0
    b0 := F0.binds (ps := ["thing"]) fun _ _ _ _ _ _ us hl => match us, hl with | [_], _ => rfl
    F1 := F1
    mk0 := ⟨mK0, x1, i1, kc0⟩
    k1 := k1
    F2 := F2
    me2 := ⟨x2, i2, k2⟩
    k2 := k2
    b2 := F2.binds (ps := ["self"]) fun _ _ _ _ _ _ us hl => match us, hl with | [_], _ => rfl
    F3 := F3
    m3 := PySem.W.mg_of X G x3
    k3 := k3
    lcd := tc
    b3 := F3.binds (ps := ["rule", "names", "roads", "last"]) fun _ _ _ _ _ _ us hl => match us, hl with | [_, _, _, _], _ => rfl
    F4 := F4
    m4 := PySem.W.mg_of X G x4
    k4 := k4
    b4 := F4.binds (ps := ["rule", "roads", "last"]) fun _ _ _ _ _ _ us hl => match us, hl with | [_, _, _], _ => rfl
    F5 := F5
    m5 := PySem.W.mg_of X G x5
    k5 := k5
    b5 := F5.binds (ps := ["_law_thing", "_law_door", "_law_menu"]) fun _ _ _ _ _ _ us hl => match us, hl with | [_, _, _], _ => rfl
    F6 := F6
    m6 := PySem.W.mg_of X G x6
    k6 := k6
    b6 := F6.binds (ps := ["_law_script"]) fun _ _ _ _ _ _ us hl => match us, hl with | [_], _ => rfl
    kb0 := fun s us ws h1 h2 => match us, ws, h1, h2 with | [_], [_], _, _ => .of_eq rfl
    bd1 := dflt_str (n := 1) (ps := ["self", "rule"]) l1 c1 k1 kd1 kn1 fun _ _ _ _ _ _ us u h => match us, h with | [_], _ => ⟨_, _, _, _, _, _, rfl, rfl, rfl⟩
    cl0 := ⟨pg0, hd0, po0, sa0⟩
    mc0 := PySem.W.mg_of X G aC0
    na0_0 := na0_0
    na0_1 := na0_1
    na0_2 := na0_2
    na0_3 := na0_3
    na0_4 := na0_4
    na0_5 := na0_5
    na0_6 := na0_6
    na0_7 := na0_7
    na0_8 := na0_8
    na0_9 := na0_9
    na0_10 := na0_10
    na0_11 := na0_11
    em0 := PySem.W.mg_of X G xa0
    ix0 := ⟨fun c b h => by unfold km0 at h; (by_cases z : c = 1; · subst z; simp at h; subst h; exact ⟨⟨xg1, xG1, xe1, xh1, xC1, xhn, xht, xm1⟩, kx_0_1⟩); simp_all⟩
    em1 := PySem.W.mg_of X G xa1
    oe1 := ⟨⟨_, _, _, _, _, _, _, _, _, _, _, _, _, _, _, xL1, by decide +kernel⟩, xs1, xe1, xy1, xk1⟩
    oi1 := xi1
    ot1 := xt1
    oF1 := FE1
    ob1 := FE1.binds (ps := ["self"]) fun _ _ _ _ _ _ us hl => match us, hl with | [_], _ => rfl
    xm1 := fun c b h => by unfold cm1 at h; split at h <;> cases h; rename_i z; subst z; exact PySem.W.exm_ref xe1 xh1 xy1 xf1
    ib_ValueError := ⟨fun c b h => by unfold kb_ValueError at h; (by_cases z : c = 1; · subst z; simp at h; subst h; exact ⟨⟨xg1, xG1, xe1, xh1, xC1, xhn, xht, xm1⟩, kt_ValueError_1⟩); simp_all⟩
    vV := vV
    z_ValueError := PySem.W.mg_none_of X G z_ValueError
    z_abs := PySem.W.mg_none_of X G z_abs
    z_isinstance := PySem.W.mg_none_of X G z_isinstance
    z_len := PySem.W.mg_none_of X G z_len
    z_max := PySem.W.mg_none_of X G z_max
    z_min := PySem.W.mg_none_of X G z_min
    z_range := PySem.W.mg_none_of X G z_range
    z_sorted := PySem.W.mg_none_of X G z_sorted
    z_str := PySem.W.mg_none_of X G z_str
    g_RULES := gtup_mk (PySem.W.mg_of X G aCg_RULES) lg_RULES ig_RULES (by decide)
  }
  exact ⟨_, [(lc, lP)], _, (fun p hp => by simp at hp; subst hp; exact tb), (fun p hp => by simp at hp; subst hp; exact tn), (fun p hp => by simp at hp; subst hp; exact PySem.W.codeHd_of_K X th), fun s v => .of_eq rfl, fun T a ns hl hT hS => start_lawT (R := (RK K C0 E0 E1 lc lP)) (fun p hp => by simp at hp; subst hp; exact hT (lc, lP) (by simp)) hS (lt ns hl), fun base _ _ TB => ok6 T (TB (lc, lP) (by simp))⟩
end L_k33
set_option Elab.async false
set_option linter.all false
set_option maxRecDepth 100000
set_option maxHeartbeats 4000000
namespace L_k33
open PySem PySem.Spec PyProof.Rows L2 Mi
abbrev Row := Tx × Int × Bool × Bool
def tp (q : Int × Bool × Bool) : MV := .tup [.int q.1, .bl q.2.1, .bl q.2.2]
def kv (r : Row) : MV × MV := (.str r.1, tp r.2)
def kvs (M : List Row) : List (MV × MV) := M.map kv
def nms (M : List Row) : List Tx := M.map (·.1)
def look : List Row → Tx → Option (Int × Bool × Bool)
  | [], _ => none
  | r :: M, z => if r.1 = z then some r.2 else look M z
theorem getK_kvs : ∀ (M : List Row) (z : Tx), getK (kvs M) (.str z) = (look M z).map tp
  | [], _ => rfl
  | r :: M, z => by
    show (if eqK (.str r.1) (.str z) = true then some (tp r.2) else getK (kvs M) (.str z)) = _
    rw [getK_kvs M z]
    show _ = Option.map tp (if r.1 = z then some r.2 else look M z)
    by_cases h : r.1 = z
    · rw [if_pos (by simp [eqK, h]), if_pos h]; rfl
    · rw [if_neg (by simp [eqK, h]), if_neg h]
theorem look_some : ∀ {M : List Row} {z : Tx}, z ∈ nms M → ∃ q, look M z = some q
  | r :: M, z, h => by
    unfold look
    by_cases e : r.1 = z
    · exact ⟨_, if_pos e⟩
    · rw [if_neg e]
      refine look_some (M := M) ?_
      rcases List.mem_cons.mp h with h | h
      · exact absurd h.symm e
      · exact h
theorem look_mem : ∀ {M : List Row} (nd : (nms M).Nodup) {r : Row}, r ∈ M → look M r.1 = some r.2
  | r' :: M, nd, r, h => by
    unfold look
    have nd' := List.nodup_cons.mp nd
    rcases List.mem_cons.mp h with rfl | h
    · exact if_pos rfl
    · rw [if_neg fun z : r'.1 = r.1 => nd'.1 (show r'.1 ∈ _ by rw [z]; exact List.mem_map.mpr ⟨r, h, rfl⟩)]
      exact look_mem nd'.2 h
def stl (M : List Row) (z : Tx) : Bool := ((look M z).map (·.2.2)).getD false
def spr (M : List Row) (z : Tx) : Bool := ((look M z).map (·.2.1)).getD false
def nmv (M : List Row) : List Tx := (nms M).filter fun z => !stl M z
def may (M : List Row) (l : List Tx) : List Tx := if (l.filter fun z => !spr M z) = [] then l else l.filter fun z => !spr M z
theorem nmv_rows {M : List Row} (nd : (nms M).Nodup) : (M.filter fun r => !r.2.2.2).map (·.1) = nmv M := by
  unfold nmv nms
  rw [List.filter_map]
  congr 1
  refine List.filter_congr fun r hr => ?_
  show _ = !stl M r.1
  unfold stl
  rw [look_mem nd hr]; rfl
theorem set_back {hp : List MO} {n : Nat} {x y : MO} (h : hp[n]? = some x) : (hp.set n y).set n x = hp := by
  rw [List.set_set]
  refine List.ext_getElem? fun i => ?_
  by_cases z : i = n
  · subst z
    rw [List.getElem?_set_self (List.getElem?_eq_some_iff.mp h).1, h]
  · rw [List.getElem?_set_ne (Ne.symm z)]
theorem set_at {hp : List MO} {n : Nat} {x y : MO} (h : hp[n]? = some x) : (hp.set n y)[n]? = some y := List.getElem?_set_self (List.getElem?_eq_some_iff.mp h).1
/-- a menu in the heap -/
structure At (M : List Row) (n : Nat) (hp : List MO) : Prop where
  h : hp[n]? = some (.box (.dict (kvs M)))
theorem ix_kvs {M : List Row} {n : Nat} {hp : List MO} (a : At M n hp) {z : Tx} {q : Int × Bool × Bool} (h : look M z = some q) (env : List (Option SV)) (b : Nat) : opIxA (.v (.ref n)) (.v (.str z)) ⟨env, hp, b⟩ = .ok (.v (tp q)) ⟨env, hp, b⟩ := by
  simp [a.h, Mi.keyOf, getK_kvs, h]
theorem ix_lock {M : List Row} {n : Nat} {hp : List MO} (a : At M n hp) {z : Tx} {q : Int × Bool × Bool} (h : look M z = some q) (env : List (Option SV)) (b : Nat) : opIxA (.v (.ref n)) (.v (.str z)) ⟨env, hp.set n (.box (.lock (kvs M))), b⟩ = .ok (.v (tp q)) ⟨env, hp.set n (.box (.lock (kvs M))), b⟩ := by
  simp [set_at a.h, Mi.keyOf, getK_kvs, h]
theorem tp0 (q : Int × Bool × Bool) (s : MS) : opIxA (.v (tp q)) (.v (.int 0)) s = .ok (.v (.int q.1)) s := rfl
theorem tp1 (q : Int × Bool × Bool) (s : MS) : opIxA (.v (tp q)) (.v (.int 1)) s = .ok (.v (.bl q.2.1)) s := rfl
theorem tp2 (q : Int × Bool × Bool) (s : MS) : opIxA (.v (tp q)) (.v (.int 2)) s = .ok (.v (.bl q.2.2)) s := rfl
theorem spr_of {M : List Row} {z : Tx} {q : Int × Bool × Bool} (h : look M z = some q) : spr M z = q.2.1 := by unfold spr; rw [h]; rfl
theorem stl_of {M : List Row} {z : Tx} {q : Int × Bool × Bool} (h : look M z = some q) : stl M z = q.2.2 := by unfold stl; rw [h]; rfl
theorem eqv_nil (L : List PyData) : PyData.eqv (.list L) (.list []) = L.isEmpty := by
  cases L <;> rfl
/-- texts that are data -/
def okT (z : Tx) : Prop := ∀ c ∈ z, c < 200
theorem shaped_txs (zs : List Tx) (h : ∀ z ∈ zs, okT z) : SeqAt.shaped (.list (zs.map fun z => PyData.str ⟨z.toArray⟩)) = true :=
  shaped_map zs fun z hz => ⟨by have := h z hz; simp [PyData.canLay0, PyData.strOk]; intro x hx; have := this x hx; omega, by simp [PyData.depth]⟩
theorem pd_txs (zs : List Tx) : pds (zs.map MV.str) = some (zs.map fun z => PyData.str ⟨z.toArray⟩) := pds_map (g := fun z : Tx => PyData.str ⟨z.toArray⟩) _ fun z _ => rfl
theorem eqvL_nil {neg : Bool} {zs : List Tx} (h : ∀ z ∈ zs, okT z) {r : RV} {s : MS} (hr : rpd s r = some (.list (zs.map fun z => PyData.str ⟨z.toArray⟩))) : opEqv neg r (.own (.lst [])) s = .ok (.v (.bl (neg ^^ zs.isEmpty))) s := by
  rw [e_eqGen hr rfl (shaped_txs zs h) (by decide), eqv_nil]
  congr 3
  simp

abbrev FIRST : Tx := [102, 105, 114, 115, 116]
abbrev FEW : Tx := [102, 101, 119]
abbrev TURNS : Tx := [116, 117, 114, 110, 115]
abbrev WORDS : List Tx := [FIRST, FEW, TURNS]
theorem r0_ok {w : Tx} (h : w ∈ WORDS) (hp : List MO) : r0 [.str w] hp = .ok (.v (.bl true)) hp := by
  simp only [List.mem_cons, List.not_mem_nil, or_false] at h
  unfold r0 b0 runOf env0
  rcases h with rfl | rfl | rfl <;> simp [mInG] <;> rfl
def size (M : List Row) : Prop := M.length ≤ 100
theorem nms_len (M : List Row) : (nms M).length = M.length := by unfold nms; rw [List.length_map]
theorem flt_len {l : List Tx} {p : Tx → Bool} {k : Nat} (h : l.length ≤ k) : (l.filter p).length ≤ k := Nat.le_trans (List.length_filter_le _ _) h
theorem mem_nms {M : List Row} {z : Tx} (h : z ∈ nmv M) : z ∈ nms M := (List.mem_filter.mp h).1

def lastMV : Option Tx → MV
  | none => .non
  | some z => .str z
def aft : Option Tx → Tx → Bool
  | none, _ => false
  | some l, z => ltT l z
def byR (w : Tx) (M : List Row) (N : List Tx) (last : Option Tx) : Option Tx := if w = FIRST then N.head? else if w = FEW then leastM (kvs M) N else ((N.filter fun z => aft last z) ++ N).head?
theorem strsM_map : ∀ N : List Tx, strsM (N.map MV.str) = some N
  | [] => rfl
  | z :: N => by
    show (strsM (N.map MV.str)).map (z :: ·) = _
    rw [strsM_map N]; rfl
theorem txsM_map : ∀ N : List Tx, txsM (N.map MV.str) = some N
  | [] => rfl
  | z :: N => by
    show (txsM (N.map MV.str)).map (z :: ·) = _
    rw [txsM_map N]; rfl
theorem txt_ok {z : Tx} (h : okT z) : z.all (· < 0x110000) = true := by
  simp only [List.all_eq_true, decide_eq_true_eq]
  intro c hc
  have := h c hc
  omega
theorem at_head {l : List Tx} {z : Tx} (h : l.head? = some z) : atI (l.map MV.str) 0 = some (.str z) := by
  cases l with
  | nil => cases h
  | cons a r => cases h; simp [atI, ixN]
theorem is_last {last : Option Tx} {s : MS} : opIs true (.v (lastMV last)) (.v .non) s = .ok (.v (.bl last.isSome)) s := by
  cases last <;> simp [lastMV]
theorem e_MinKey {i : Nat} {fe : ME} {s : MS} : mMinKey i fe s = (fe s).bind fun r s1 => match lstOf s1 r, mVar i s1 with
  | some xs, .ok rd _ => match dictOf s1 rd, strsM xs with
    | some kvs, some zs => match leastM kvs zs with
      | some z => .ok (.v (.str z)) s1
      | none => .bad
    | _, _ => .bad
  | _, _ => .bad := rfl
theorem e_addS2 {r0 r4 : RV} {s : MS} : opAddS r0 r4 s = match lstOf s r0, lstOf s r4 with
  | some a, some b => if a.length + b.length ≤ sizeLine then .ok (.own (.lst (a ++ b))) s else .bad
  | _, _ => .bad := rfl
theorem gt_tx {a b : Tx} {s : MS} : opGt2 (.v (.str a)) (.v (.str b)) s = .ok (.v (.bl (ltT b a))) s := rfl
theorem r3_ok {M : List Row} {n : Nat} {hp : List MO} (a : At M n hp) {w : Tx} (hw : w ∈ WORDS) {N : List Tx} (hN : N.length ≤ 100) (last : Option Tx) {z : Tx} (h : byR w M N last = some z) :
    r3 [.str w, .lst (N.map .str), .ref n, lastMV last] hp = .ok (.v (.str z)) hp := by
  simp only [List.mem_cons, List.not_mem_nil, or_false] at hw
  unfold byR at h
  have q1 : ∀ s : MS, opEqv false (.v (.str FIRST)) (.v (.str FIRST)) s = .ok (.v (.bl true)) s := fun s => by rw [e_eqS (by decide) (by decide)]; rfl
  have q2 : ∀ s : MS, opEqv false (.v (.str FEW)) (.v (.str FIRST)) s = .ok (.v (.bl false)) s := fun s => by rw [e_eqS (by decide) (by decide)]; rfl
  have q3 : ∀ s : MS, opEqv false (.v (.str FEW)) (.v (.str FEW)) s = .ok (.v (.bl true)) s := fun s => by rw [e_eqS (by decide) (by decide)]; rfl
  have q4 : ∀ s : MS, opEqv false (.v (.str TURNS)) (.v (.str FIRST)) s = .ok (.v (.bl false)) s := fun s => by rw [e_eqS (by decide) (by decide)]; rfl
  have q5 : ∀ s : MS, opEqv false (.v (.str TURNS)) (.v (.str FEW)) s = .ok (.v (.bl false)) s := fun s => by rw [e_eqS (by decide) (by decide)]; rfl
  rcases hw with rfl | rfl | rfl
  · rw [if_pos rfl] at h
    unfold r3 b3 runOf env0
    simp only [FIRST] at q1
    simp [q1, at_head h]
  · rw [if_neg (by decide), if_pos rfl] at h
    unfold r3 b3 runOf env0
    simp only [FIRST, FEW] at q2 q3
    simp [q2, q3, e_MinKey, a.h, strsM_map, h]
  · rw [if_neg (by decide), if_neg (by decide)] at h
    have k := lcGo_filt (vs := [5]) (chk := fun _ => True) (tg := gN 5) (tt := mAndT (mTestB (mBin (opIs true) (mVar 3) (mC .non))) (mTestB (mBin opGt2 (mVar 5) (mVar 3)))) (te := mVar 5)
      MV.str MV.str (fun z : Tx => aft last z) ⟨[some (.v (.str TURNS)), some (.v (.lst (N.map .str))), some (.v (.ref n)), some (.v (lastMV last)), none, none], hp, hp.length⟩ trivial N [] (line1000 (by simp only [List.length_nil]; omega)) (fun z hz => by
        refine ⟨_, ⟨[some (.v (.str TURNS)), some (.v (.lst (N.map .str))), some (.v (.ref n)), some (.v (lastMV last)), none, some (.v (.str z))], hp, hp.length⟩, rfl, ?_, fun _ => by simp [wipeM], fun _ => ⟨_, by simp; rfl, by simp [wipeM]⟩⟩
        simp only [e_AndT, e_TestB, e_Bin, e_Var, e_C, List.length_cons, List.getElem?_cons_zero, List.getElem?_cons_succ, Out.bind_ok, List.set, is_last]
        cases last with
        | none => simp [aft]
        | some l => simp [lastMV, aft, gt_tx])
    have hs : (N.filter fun z => aft last z).length + N.length ≤ sizeLine := line1000 (by
      have : (N.filter fun z => aft last z).length ≤ 100 := flt_len hN
      omega)
    unfold r3 b3 runOf env0
    simp only [FIRST, FEW, TURNS, List.nil_append] at q4 q5 k
    have hh := at_head h
    rw [List.map_append] at hh
    simp [q4, q5, e_Lc, e_Mt, wipeM, k, backEnv, e_addS2, hs, hh]

def Ns (M : List Row) : List Tx := may M (srtT (nmv M))
def chs (w : Tx) (M : List Row) (last : Option Tx) : Option Tx := if Ns M = [] then none else byR w M (Ns M) last
theorem may_len (M : List Row) (l : List Tx) : (may M l).length ≤ l.length := by
  unfold may
  split
  · exact Nat.le_refl _
  · exact List.length_filter_le _ _
theorem may_mem {M : List Row} {l : List Tx} {z : Tx} (h : z ∈ may M l) : z ∈ l := by
  unfold may at h
  split at h
  · exact h
  · exact (List.mem_filter.mp h).1
theorem srt_mem {l : List Tx} {z : Tx} : z ∈ srtT l ↔ z ∈ l := (srtT_perm l).mem_iff
theorem nmv_len (M : List Row) : (nmv M).length ≤ M.length := by rw [← nms_len]; exact List.length_filter_le _ _
theorem Ns_mem {M : List Row} {z : Tx} (h : z ∈ Ns M) : z ∈ nms M := mem_nms (srt_mem.mp (may_mem h))
theorem r4_ok {M : List Row} {n : Nat} {hp : List MO} (a : At M n hp) (hz : M.length ≤ 100) (nd : (nms M).Nodup) (ok : ∀ z ∈ nms M, okT z) {w : Tx} (hw : w ∈ WORDS) (last : Option Tx) (hb : Ns M ≠ [] → ∃ z, byR w M (Ns M) last = some z) :
    r4 [.str w, .ref n, lastMV last] hp = .ok (.v (lastMV (chs w M last))) hp := by
  have l1 : (nms M).length ≤ 100 := by rw [nms_len]; exact hz
  have l2 : (nmv M).length ≤ 100 := Nat.le_trans (nmv_len M) hz
  have l3 : (srtT (nmv M)).length ≤ 100 := by rw [(srtT_perm _).length_eq]; exact l2
  have k1 := lcGo_filt (vs := [4, 5, 6, 7]) (chk := fun _ => True) (tg := gT 2 (gsCons (gN 4) (gsCons (gT 3 (gsCons (gN 5) (gsCons (gN 6) (gsCons (gN 7) gsNil)))) gsNil))) (tt := mNotT (mTest (mVar 7))) (te := mVar 4)
    (fun r : Row => .tup [.str r.1, tp r.2]) (fun r => .str r.1) (fun r => !r.2.2.2) ⟨[some (.v (.str w)), some (.v (.ref n)), some (.v (lastMV last)), none, none, none, none, none, none], hp.set n (.box (.lock (kvs M))), hp.length⟩ trivial M [] (line1000 (by simp only [List.length_nil]; omega)) (fun r hr => by
      refine ⟨_, ⟨[some (.v (.str w)), some (.v (.ref n)), some (.v (lastMV last)), none, some (.v (.str r.1)), some (.v (.int r.2.1)), some (.v (.bl r.2.2.1)), some (.v (.bl r.2.2.2)), none], hp.set n (.box (.lock (kvs M))), hp.length⟩, rfl, by simp [tp], fun _ => by simp [wipeM], fun _ => ⟨_, by simp; rfl, by simp [wipeM]⟩⟩)
  have em : (M.filter fun r => !r.2.2.2).map (fun r => MV.str r.1) = (nmv M).map MV.str := by rw [← nmv_rows nd, List.map_map]; rfl
  rw [em, List.nil_append] at k1
  have k2 := lcGo_filt (vs := [4]) (chk := fun _ => True) (tg := gN 4) (tt := mNotT (mTest (mBin opIxA (mBin opIxA (mVar 1) (mVar 4)) (mC (.int 1))))) (te := mVar 4)
    MV.str MV.str (fun z : Tx => !spr M z) ⟨[some (.v (.str w)), some (.v (.ref n)), some (.v (lastMV last)), some (.v (.lst ((srtT (nmv M)).map .str))), none, none, none, none, none], hp, hp.length⟩ trivial (srtT (nmv M)) [] (line1000 (by simp only [List.length_nil]; omega)) (fun z hz => by
      obtain ⟨q, hq⟩ := look_some (mem_nms (srt_mem.mp hz))
      refine ⟨_, ⟨[some (.v (.str w)), some (.v (.ref n)), some (.v (lastMV last)), some (.v (.lst ((srtT (nmv M)).map .str))), some (.v (.str z)), none, none, none, none], hp, hp.length⟩, rfl, ?_, fun _ => by simp [wipeM], fun _ => ⟨_, by simp; rfl, by simp [wipeM]⟩⟩
      have e1 := ix_kvs a hq [some (.v (.str w)), some (.v (.ref n)), some (.v (lastMV last)), some (.v (.lst ((srtT (nmv M)).map .str))), some (.v (.str z)), none, none, none, none] hp.length
      simp only [e_NotT, e_Test, e_Bin, e_Var, e_C, List.length_cons, List.getElem?_cons_zero, List.getElem?_cons_succ, Out.bind_ok, List.set]
      rw [e1]
      simp only [Out.bind_ok, tp1, e_truthB, spr_of hq])
  rw [List.nil_append] at k2
  have ei : (kvs M).map (fun q => MV.tup [q.1, q.2]) = M.map fun r : Row => MV.tup [.str r.1, tp r.2] := by unfold kvs; rw [List.map_map]; rfl
  have e1 := r0_ok hw hp
  have okN : ∀ z ∈ Ns M, okT z := fun z hz => ok z (Ns_mem hz)
  have ee := fun (r : RV) (s : MS) (h : rpd s r = some (.list ((Ns M).map fun z => PyData.str ⟨z.toArray⟩))) => eqvL_nil (neg := false) (s := s) okN h
  have lN : (Ns M).length ≤ 100 := Nat.le_trans (may_len _ _) l3
  have e0 : Ns M ≠ [] → ∀ z, byR w M (Ns M) last = some z → r3 [.str w, .lst ((Ns M).map .str), .ref n, lastMV last] hp = .ok (.v (.str z)) hp := fun _ z h => r3_ok a hw lN last h
  unfold chs
  unfold Ns may at *
  generalize (srtT (nmv M)).filter (fun z => !spr M z) = pl at *
  generalize hS : srtT (nmv M) = S at *
  unfold r4 b4 runOf env0
  simp [e_mRun, e1, e_Lc, e_Mt, a.h, set_at a.h, wipeM, ei, k1, k2, backEnv, set_back a.h, cont_ref, pSortS, txsM_map, hS]
  have tO : ∀ (s : MS) (xs : List MV), truth s (.own (.lst xs)) = some (!xs.isEmpty) := fun s xs => rfl
  rcases pl with _ | ⟨p, ps⟩
  · simp only [if_true] at e0 ee hb ⊢
    rcases S with _ | ⟨q, qs⟩
    · simp [tO]
      rw [ee _ _ (by simp [rpd, pd_txs, cont_lst]; rfl)]
      simp [lastMV]
    · obtain ⟨z, hz⟩ := hb (by simp)
      have e00 := e0 (by simp) z hz
      simp [tO]
      rw [ee _ _ (by show (pds ((q :: qs).map MV.str)).map PyData.list = _; rw [pd_txs]; rfl)]
      simp only [List.map_cons] at e00
      simp [e00, hz]
      rfl
  · simp only [reduceCtorEq, if_false] at e0 ee hb ⊢
    obtain ⟨z, hz⟩ := hb (by simp)
    have e00 := e0 (by simp) z hz
    simp [tO]
    rw [ee _ _ (by have := pd_txs (p :: ps); simp only [List.map_cons] at this; simp [rpd, this, cont_loc])]
    simp only [List.map_cons] at e00
    simp [e00, hz]
    rfl

theorem numM_look {M : List Row} {z : Tx} {q : Int × Bool × Bool} (h : look M z = some q) : numM (kvs M) z = some q.1 := by
  unfold numM
  rw [getK_kvs, h]; rfl
theorem keysM_some {M : List Row} : ∀ {N : List Tx}, (∀ z ∈ N, z ∈ nms M) → ∃ ks, keysM (kvs M) N = some ks
  | [], _ => ⟨[], rfl⟩
  | z :: N, h => by
    obtain ⟨q, hq⟩ := look_some (h z (List.mem_cons_self ..))
    obtain ⟨ks, hk⟩ := keysM_some (N := N) fun y hy => h y (List.mem_cons_of_mem _ hy)
    exact ⟨(q.1, z) :: ks, by unfold keysM; rw [numM_look hq, hk]⟩
theorem fold_min : ∀ (r : List Pr) (p : Pr), r.foldl stepP p ∈ p :: r ∧ ∀ y ∈ p :: r, ltP y (r.foldl stepP p) = false
  | [], p => ⟨List.mem_cons_self .., fun y hy => by
    simp at hy; subst hy
    show ltP y y = false
    cases q : ltP y y with
    | false => rfl
    | true => rw [← ltP_asym _ _ q]; exact q.symm⟩
  | x :: r, p => by
    obtain ⟨h1, h2⟩ := fold_min r (stepP p x)
    have hs : stepP p x = p ∨ stepP p x = x := by unfold stepP; split <;> simp
    refine ⟨?_, fun y hy => ?_⟩
    · show r.foldl stepP (stepP p x) ∈ _
      rcases List.mem_cons.mp h1 with e | e
      · rw [e]; rcases hs with e | e <;> rw [e] <;> simp
      · exact List.mem_cons_of_mem _ (List.mem_cons_of_mem _ e)
    · show ltP y (r.foldl stepP (stepP p x)) = false
      have h0 := h2 (stepP p x) (List.mem_cons_self ..)
      have low : ∀ u, ltP u (stepP p x) = false → ltP u (r.foldl stepP (stepP p x)) = false := fun u hu => ltP_tr _ _ _ h0 hu
      rcases List.mem_cons.mp hy with rfl | hy
      · refine low _ ?_
        unfold stepP
        split
        · rename_i q; exact ltP_asym _ _ q
        · cases q : ltP y y with
          | false => rfl
          | true => rw [← ltP_asym _ _ q]; exact q.symm
      · rcases List.mem_cons.mp hy with rfl | hy
        · refine low _ ?_
          unfold stepP
          split
          · cases q : ltP y y with
            | false => rfl
            | true => rw [← ltP_asym _ _ q]; exact q.symm
          · rename_i q; simpa using q
        · exact h2 y (List.mem_cons_of_mem _ hy)
theorem least_ok {M : List Row} {N : List Tx} (h : ∀ z ∈ N, z ∈ nms M) (ne : N ≠ []) : ∃ z q, leastM (kvs M) N = some z ∧ z ∈ N ∧ look M z = some q ∧ ∀ y ∈ N, ∀ q', look M y = some q' → q.1 ≤ q'.1 := by
  obtain ⟨ks, hk⟩ := keysM_some h
  obtain ⟨m1, m2⟩ := keysM_len hk
  rcases ks with _ | ⟨p, r⟩
  · exact absurd m1.symm ne
  · obtain ⟨f1, f2⟩ := fold_min r p
    have hz : (r.foldl stepP p).2 ∈ N := by rw [← m1]; exact List.mem_map.mpr ⟨_, f1, rfl⟩
    obtain ⟨q, hq⟩ := look_some (h _ hz)
    have e1 : q.1 = (r.foldl stepP p).1 := by
      have a := m2 _ f1
      rw [numM_look hq] at a
      exact Option.some.inj a
    refine ⟨_, q, by unfold leastM; rw [hk], hz, hq, fun y hy q' hq' => ?_⟩
    rw [← m1] at hy
    obtain ⟨u, hu, rfl⟩ := List.mem_map.mp hy
    have a := m2 _ hu
    rw [numM_look hq'] at a
    have a := Option.some.inj a
    have b := f2 u hu
    rw [e1, a]
    unfold Mi.ltP at b
    split at b
    · omega
    · have := of_decide_eq_false b; omega
theorem byR_ok {M : List Row} {N : List Tx} (h : ∀ z ∈ N, z ∈ nms M) (ne : N ≠ []) (w : Tx) (last : Option Tx) : ∃ z, byR w M N last = some z ∧ z ∈ N := by
  unfold byR
  have hd : ∀ l : List Tx, (∀ z ∈ l, z ∈ N) → l ≠ [] → ∃ z, l.head? = some z ∧ z ∈ N := fun l hl hne => by
    cases l with
    | nil => exact absurd rfl hne
    | cons z r => exact ⟨z, rfl, hl z (List.mem_cons_self ..)⟩
  split
  · exact hd N (fun _ h => h) ne
  · split
    · obtain ⟨z, q, e, hz, _⟩ := least_ok h ne
      exact ⟨z, e, hz⟩
    · refine hd _ (fun z hz => ?_) (by simp [ne])
      rcases List.mem_append.mp hz with hz | hz
      · exact (List.mem_filter.mp hz).1
      · exact hz
theorem r4_all {M : List Row} {n : Nat} {hp : List MO} (a : At M n hp) (hz : M.length ≤ 100) (nd : (nms M).Nodup) (ok : ∀ z ∈ nms M, okT z) {w : Tx} (hw : w ∈ WORDS) (last : Option Tx) : r4 [.str w, .ref n, lastMV last] hp = .ok (.v (lastMV (chs w M last))) hp :=
  r4_ok a hz nd ok hw last fun ne => by
    obtain ⟨z, e, _⟩ := byR_ok (N := Ns M) (fun z hz => Ns_mem hz) ne w last
    exact ⟨z, e⟩
theorem chs_mem {w : Tx} {M : List Row} {last : Option Tx} : (Ns M = [] ∧ chs w M last = none) ∨ ∃ z, chs w M last = some z ∧ z ∈ Ns M := by
  unfold chs
  by_cases h : Ns M = []
  · exact .inl ⟨h, if_pos h⟩
  · rw [if_neg h]
    exact .inr (byR_ok (fun z hz => Ns_mem hz) h w last)

@[simp] theorem e_TryH {cm : Nat → Option Bool} {i : Nat} {fb fh : MSt} {s : MS} : mTryH cm i fb fh s = match fb s with
  | .exc c xs s1 => (match cm c with
    | some true => if xs = [] ∧ i < s1.env.length then (match fh { s1 with hp := s1.hp ++ [.exc c], env := s1.env.set i (some (.v (.ref s1.hp.length))) } with
      | .ok .next s2 => .ok .next { s2 with env := s2.env.set i none }
      | .ok (.ret r) s2 => .ok (.ret r) s2
      | _ => .bad) else .bad
    | some false => .exc c xs s1
    | none => .bad)
  | o => o := by
  unfold mTryH
  cases fb s <;> rfl
/-- what is no rule -/
def NOT : List MV := [.str [], .str [70, 105, 114, 115, 116], .str [108, 101, 97, 115, 116], .str [116, 117, 114, 110], .str [102, 101, 119, 32], .non, .int 0, .bl true, .lst [.str [102, 101, 119]], .tup [.str [102, 105, 114, 115, 116]], .dct [] [], .dct [.str [102, 101, 119]] [.int 1], .str [110, 111, 110, 101]]
theorem r0_no {v : MV} (h : v ∈ NOT) (hp : List MO) : r0 [v] hp = .ok (.v (.bl false)) hp := by
  have nf : ∀ x, x ∈ NOT → nref x := by
    intro x hx
    simp only [NOT, List.mem_cons, List.not_mem_nil, or_false] at hx
    rcases hx with rfl | rfl | rfl | rfl | rfl | rfl | rfl | rfl | rfl | rfl | rfl | rfl | rfl <;> first | trivial | rfl
  have e2 := fun s => isi_S (s := s) (nf v h)
  simp only [NOT, List.mem_cons, List.not_mem_nil, or_false] at h
  unfold r0 b0 runOf env0
  rcases h with rfl | rfl | rfl | rfl | rfl | rfl | rfl | rfl | rfl | rfl | rfl | rfl | rfl <;> simp [e2, isS, mInG, flatOf] <;> first | rfl | (simp [inV, eqV]; done) | skip
/-- an instance that is made -/
def WR (w : Tx) : MO := .inst 0 [some (.v (.str w)), some (.v (.str [])), some (.v (.bl false)), some (.v (.int 0)), some (.v (.int 0)), some (.v (.str [110, 111, 110, 101])), some (.v (.bl false)), some (.own (.dict [])), some (.v .non), some (.v .non), some (.v (.int 0)), some (.own (.lst []))]
theorem r1_ok {w : Tx} (hw : w ∈ WORDS) (hp : List MO) : r1 [.ref hp.length, .str w] (hp ++ [.inst 0 (List.replicate 12 none)]) = .ok (.v .non) (hp ++ [WR w]) := by
  have e0 := fun hp' => r0_ok hw hp'
  have h0 : 0 ≤ sizeLine := by decide
  unfold r1 b1 runOf env0 WR
  simp [e_mRun, e0, h0]
theorem r1_no {v : MV} (h : v ∈ NOT) (m : Nat) (hp : List MO) : r1 [.ref m, v] hp = .exc 1 [] hp := by
  have e0 := fun hp' => r0_no h hp'
  unfold r1 b1 runOf env0
  simp [e_mRun, e0, mRaise]
theorem r4_no {v : MV} (h : v ∈ NOT) (x y : MV) (hp : List MO) : r4 [v, x, y] hp = .exc 1 [] hp := by
  have e0 := fun hp' => r0_no h hp'
  unfold r4 b4 runOf env0
  simp [e_mRun, e0, mRaise]
theorem r5_zero {v : MV} (h : v ∈ NOT) (x : MV) (hp : List MO) : r5 [v, .int 0, x] hp = .ok (.v (.bl true)) (hp ++ [.exc 1]) := by
  have e4 := fun x y hp' => r4_no h x y hp'
  unfold r5 b5 runOf env0
  simp [e_mRun, e4, cm1, mIsX, pIsX, kb_ValueError, km0]
theorem r5_one {v : MV} (h : v ∈ NOT) (x : MV) (hp : List MO) : r5 [v, .int 1, x] hp = .ok (.v (.bl true)) (hp ++ [.inst 0 (List.replicate 12 none), .exc 1]) := by
  have e1 := fun m hp' => r1_no h m hp'
  have s1 : 1 ≤ sizeLine := by decide
  unfold r5 b5 runOf env0
  simp [e_mRun, e1, cm1, mIsX, pIsX, kb_ValueError, km0, mMakeK, permL]

def MA (u : Int) : List Row := [([97], u, false, false)]
theorem ma_chs (u : Int) {w : Tx} (hw : w ∈ WORDS) : chs w (MA u) none = some [97] := by
  simp only [List.mem_cons, List.not_mem_nil, or_false] at hw
  rcases hw with rfl | rfl | rfl <;> rfl
theorem ma_ok (u : Int) : (nms (MA u)).Nodup ∧ ∀ z ∈ nms (MA u), okT z := by
  have : nms (MA u) = [[97]] := rfl
  rw [this]
  refine ⟨by decide, fun z hz => ?_⟩
  simp at hz; subst hz; unfold okT; decide
theorem r2_at {w : Tx} {hp : List MO} : r2 [.ref hp.length] (hp ++ [WR w]) = .ok (.v (.str [110, 111, 110, 101])) (hp ++ [WR w]) := by
  unfold r2 b2 runOf env0 WR
  simp
theorem f0_ok (u : Int) {m : Nat} {hp : List MO} (a : At (MA u) m hp) {w : Tx} (hw : w ∈ WORDS) (e0 e1 e2 : SV) (x5 : Option SV) (b : Nat) :
    ∃ hp', b6f0 ⟨[some e0, some e1, some e2, some (.v (.ref m)), some (.v (.str w)), x5], hp, b⟩ = .ok .next ⟨[some e0, some e1, some e2, some (.v (.ref m)), some (.v (.str w)), x5], hp', b⟩ ∧ At (MA u) m hp' := by
  have hm : m < hp.length := (List.getElem?_eq_some_iff.mp a.h).1
  have q0 := r0_ok hw hp
  have q4 := r4_all a (by show 1 ≤ 100; decide) (ma_ok u).1 (ma_ok u).2 hw none
  rw [ma_chs u hw] at q4
  have q4' : r4 [.str w, .ref m, .non] hp = .ok (.v (.str [97])) hp := q4
  have q1 := r1_ok hw hp
  have q2 := r2_at (w := w) (hp := hp)
  have h1 : ∀ s : MS, opIs true (.v (.bl true)) (.v (.bl true)) s = .ok (.v (.bl false)) s := fun s => rfl
  have h2 : ∀ s : MS, opEqv true (.v (.str [97])) (.v (.str [97])) s = .ok (.v (.bl false)) s := fun s => by rw [e_eqS (by decide) (by decide)]; rfl
  have h3 : ∀ s : MS, opEqv true (.v (.str [110, 111, 110, 101])) (.v (.str [110, 111, 110, 101])) s = .ok (.v (.bl false)) s := fun s => by rw [e_eqS (by decide) (by decide)]; rfl
  refine ⟨hp ++ [WR w], ?_, ⟨by rw [List.getElem?_append_left hm]; exact a.h⟩⟩
  have q1' : r1 [.ref hp.length, .str w] (hp ++ [.inst 0 [none, none, none, none, none, none, none, none, none, none, none, none]]) = .ok (.v .non) (hp ++ [WR w]) := q1
  have hW : WR w = .inst 0 [some (.v (.str w)), some (.v (.str [])), some (.v (.bl false)), some (.v (.int 0)), some (.v (.int 0)), some (.v (.str [110, 111, 110, 101])), some (.v (.bl false)), some (.own (.dict [])), some (.v .non), some (.v .non), some (.v (.int 0)), some (.own (.lst []))] := rfl
  unfold b6f0
  simp [e_mRun, q0, h1, q4', h2, mMakeK, permL, q1', q2, h3]
  simp [hW, h3]
theorem f1_ok (u : Int) {m : Nat} {hp : List MO} (a : At (MA u) m hp) {v : MV} (hv : v ∈ NOT) (e0 e1 e2 : SV) (x4 : Option SV) (b : Nat) :
    ∃ hp', b6f1 ⟨[some e0, some e1, some e2, some (.v (.ref m)), x4, some (.v v)], hp, b⟩ = .ok .next ⟨[some e0, some e1, some e2, some (.v (.ref m)), x4, some (.v v)], hp', b⟩ ∧ At (MA u) m hp' := by
  have hm : m < hp.length := (List.getElem?_eq_some_iff.mp a.h).1
  have q0 := fun hp => r0_no hv hp
  have q5 := fun x hp => r5_zero hv x hp
  have q6 := fun x hp => r5_one hv x hp
  have h1 : ∀ s : MS, opIs true (.v (.bl false)) (.v (.bl false)) s = .ok (.v (.bl false)) s := fun s => rfl
  refine ⟨hp ++ [.exc 1] ++ [.inst 0 (List.replicate 12 none), .exc 1], ?_, ⟨by rw [List.append_assoc, List.getElem?_append_left hm]; exact a.h⟩⟩
  unfold b6f1
  simp [e_mRun, q0, h1, q5, q6]
theorem f2_ok (ns : List Int) (hn : ns.length ≤ 63) (i : Nat) (x2 x3 x4 x5 : Option SV) (hp : List MO) (b : Nat) : ∃ (y2 y3 y4 y5 : Option SV) (hp' : List MO), b6f2 ⟨[some (.v (.lst (ns.map .int))), some (.v (.int i)), x2, x3, x4, x5], hp, b⟩ =
    .ok .next ⟨[some (.v (.lst (ns.map .int))), some (.v (.int i)), y2, y3, y4, y5], hp', b⟩ := by
  obtain ⟨m, hm⟩ : ∃ m : Int, m = (ns.length : Int) := ⟨_, rfl⟩
  have eL : ∀ s : MS, pLen [.v (.lst (ns.map MV.int))] s = .ok (.v (.int m)) s := fun s => by rw [hm, e_lenL, List.length_map]
  obtain ⟨q, hq⟩ : ∃ q : Int, q = (if 1 < m then m else 1) := ⟨_, rfl⟩
  have q1 : 1 ≤ q := by subst hq; split <;> omega
  have q2 : q ≤ m + 1 := by subst hq; split <;> omega
  have hd : CDiv (i : Int) q ∨ True := .inr trivial
  obtain ⟨j, hj⟩ : ∃ j : Int, j = (i : Int) % q := ⟨_, rfl⟩
  have j0 : 0 ≤ j := by subst hj; exact Int.emod_nonneg _ (by omega)
  have j1 : j < q := by subst hj; exact Int.emod_lt_of_pos _ (by omega)
  obtain ⟨c, hc⟩ : ∃ c : Int, atI (ns.map MV.int ++ [.int 0]) j = some (.int c) := by
    obtain ⟨x, hx, hmem⟩ := at_mem (xs := ns.map MV.int ++ [.int 0]) (v := j) j0 (by rw [List.length_append, List.length_map]; simp; omega)
    rcases List.mem_append.mp hmem with h | h
    · obtain ⟨c, _, rfl⟩ := List.mem_map.mp h
      exact ⟨c, hx⟩
    · simp at h; subst h; exact ⟨0, hx⟩
  obtain ⟨d, hdd⟩ : ∃ d : Int, d = (if c < 0 then -c else c) % 1000000000 := ⟨_, rfl⟩
  obtain ⟨u, hu⟩ : ∃ u : Int, u = d % 9 := ⟨_, rfl⟩
  have hs : (ns.map MV.int).length + 1 ≤ sizeLine := line1000 (by rw [List.length_map]; omega)
  have a0 : At (MA u) hp.length (hp ++ [.box (.dict (kvs (MA u)))]) := ⟨by simp⟩
  have k1 := forGo_ok (chk := fun _ => True) (tg := gN 4) (body := b6f0)
    (P := fun s => ∃ x4 hp1, s = ⟨[some (.v (.lst (ns.map .int))), some (.v (.int i)), some (.v (.int d)), some (.v (.ref hp.length)), x4, x5], hp1, b⟩ ∧ At (MA u) hp.length hp1) (fun _ _ => trivial)
    [.str [102, 105, 114, 115, 116], .str [102, 101, 119], .str [116, 117, 114, 110, 115]] ⟨[some (.v (.lst (ns.map .int))), some (.v (.int i)), some (.v (.int d)), some (.v (.ref hp.length)), x4, x5], hp ++ [.box (.dict (kvs (MA u)))], b⟩ ⟨_, _, rfl, a0⟩
    (fun x hx s ⟨x4, hp1, es, h2⟩ => by
      subst es
      have : ∃ w, w ∈ WORDS ∧ x = .str w := by
        simp only [List.mem_cons, List.not_mem_nil, or_false] at hx
        rcases hx with rfl | rfl | rfl
        · exact ⟨_, by simp, rfl⟩
        · exact ⟨_, by simp, rfl⟩
        · exact ⟨_, by simp, rfl⟩
      obtain ⟨w, hw, rfl⟩ := this
      obtain ⟨hp', e, a'⟩ := f0_ok u h2 hw (.v (.lst (ns.map .int))) (.v (.int i)) (.v (.int d)) x5 b
      refine ⟨_, rfl, ?_⟩
      show Ok (b6f0 ⟨[some (.v (.lst (ns.map .int))), some (.v (.int i)), some (.v (.int d)), some (.v (.ref hp.length)), some (.v (.str w)), x5], hp1, b⟩) _
      rw [e]
      exact ⟨rfl, _, _, rfl, a'⟩)
  obtain ⟨fl, s', e1, rfl, y4, hp1, rfl, a1⟩ := k1.get
  have k2 := forGo_ok (chk := fun _ => True) (tg := gN 5) (body := b6f1)
    (P := fun s => ∃ x5 hp1, s = ⟨[some (.v (.lst (ns.map .int))), some (.v (.int i)), some (.v (.int d)), some (.v (.ref hp.length)), y4, x5], hp1, b⟩ ∧ At (MA u) hp.length hp1) (fun _ _ => trivial)
    [.str [], .str [70, 105, 114, 115, 116], .str [108, 101, 97, 115, 116], .str [116, 117, 114, 110], .str [102, 101, 119, 32], .non, .int 0, .bl true, .lst [.str [102, 101, 119]], .tup [.str [102, 105, 114, 115, 116]], .dct [] [], .dct [.str [102, 101, 119]] [.int 1]] ⟨[some (.v (.lst (ns.map .int))), some (.v (.int i)), some (.v (.int d)), some (.v (.ref hp.length)), y4, x5], hp1, b⟩ ⟨_, _, rfl, a1⟩
    (fun x hx s ⟨x5, hp1, es, h2⟩ => by
      subst es
      have hv : x ∈ NOT := by
        simp only [List.mem_cons, List.not_mem_nil, or_false] at hx
        simp only [NOT, List.mem_cons, List.not_mem_nil, or_false]
        rcases hx with h | h | h | h | h | h | h | h | h | h | h | h <;> simp [h]
      obtain ⟨hp', e, a'⟩ := f1_ok u h2 hv (.v (.lst (ns.map .int))) (.v (.int i)) (.v (.int d)) y4 b
      refine ⟨_, rfl, ?_⟩
      show Ok (b6f1 ⟨[some (.v (.lst (ns.map .int))), some (.v (.int i)), some (.v (.int d)), some (.v (.ref hp.length)), y4, some (.v x)], hp1, b⟩) _
      rw [e]
      exact ⟨rfl, _, _, rfl, a'⟩)
  obtain ⟨fl, s', e2, rfl, y5, hp2, rfl, a2⟩ := k2.get
  have q5 := fun x hp => r5_zero (v := .str [110, 111, 110, 101]) (by simp [NOT]) x hp
  have s3 : 3 ≤ sizeLine := by decide
  have s1 : 1 ≤ sizeLine := by decide
  have s12 : 12 ≤ sizeLine := by decide
  have em : mergeM [] [(MV.str [97], MV.tup [.int u, .bl false, .bl false])] = kvs (MA u) := rfl
  have ko : keysOk [(MV.str [97], MV.tup [.int u, .bl false, .bl false])] = true := rfl
  refine ⟨some (.v (.int d)), some (.v (.ref hp.length)), y4, y5, hp2 ++ [.box (.dict []), .exc 1], ?_⟩
  unfold b6f2
  have hs' : ns.length + 1 ≤ sizeLine := by simpa using hs
  have q0 : 0 < q := by omega
  have cp : CPow 10 9 := ⟨by decide, by decide, by decide⟩
  have em2 : mergeM [] [(MV.str [102, 101, 119], MV.int 1)] = [(MV.str [102, 101, 119], MV.int 1)] := rfl
  have ko2 : keysOk [(MV.str [102, 101, 119], MV.int 1)] = true := rfl
  simp [-e_lenL, -e_lenLo, eL, ← hq, e_addS2, hs', ← hj, s1, q0, hc, cp, ← hdd, ← hu, s3, em, ko]
  simp [e_For, e_Mt, s3]
  rw [e1]
  simp [e_For, e_Mt, s12, s1, em2, ko2]
  rw [e2]
  simp [e_mRun, q5]
theorem law_true (ns : List Int) (hn : ns.length ≤ 63) : Says r6 ns := by
  obtain ⟨m, hm⟩ : ∃ m : Int, m = (if (if (6 : Int) < (ns.length : Int) then 6 else (ns.length : Int)) > 1 then (if (6 : Int) < (ns.length : Int) then 6 else (ns.length : Int)) else 1) := ⟨_, rfl⟩
  have hm2 : -4611686018427387904 ≤ m ∧ m < 4611686018427387904 := by subst hm; split <;> split <;> omega
  have key := forGo_ok (chk := fun _ => True) (tg := gN 1) (body := b6f2)
    (P := fun s => ∃ x1 x2 x3 x4 x5 hp1, s = ⟨[some (.v (.lst (ns.map .int))), x1, x2, x3, x4, x5], hp1, 0⟩) (fun _ _ => trivial)
    ((List.range m.toNat).map fun i : Nat => .int i) ⟨[some (.v (.lst (ns.map .int))), none, none, none, none, none], [], 0⟩ ⟨_, _, _, _, _, _, rfl⟩
    (fun x hx s ⟨x1, x2, x3, x4, x5, hp1, es⟩ => by
      subst es
      obtain ⟨i, hi, rfl⟩ := List.mem_map.mp hx
      obtain ⟨y2, y3, y4, y5, hp', e⟩ := f2_ok ns hn i x2 x3 x4 x5 hp1 0
      refine ⟨_, rfl, ?_⟩
      show Ok (b6f2 ⟨[some (.v (.lst (ns.map .int))), some (.v (.int i)), x2, x3, x4, x5], hp1, 0⟩) _
      rw [e]
      exact ⟨rfl, _, _, _, _, _, _, rfl⟩)
  obtain ⟨fl, s', e, rfl, x1, x2, x3, x4, x5, hp', rfl⟩ := key.get
  have q1 := r1_ok (w := FIRST) (by simp) hp'
  have q1' : r1 [.ref hp'.length, .str [102, 105, 114, 115, 116]] (hp' ++ [.inst 0 [none, none, none, none, none, none, none, none, none, none, none, none]]) = .ok (.v .non) (hp' ++ [WR FIRST]) := q1
  have q2 := r2_at (w := FIRST) (hp := hp')
  have hW : WR FIRST = .inst 0 [some (.v (.str FIRST)), some (.v (.str [])), some (.v (.bl false)), some (.v (.int 0)), some (.v (.int 0)), some (.v (.str [110, 111, 110, 101])), some (.v (.bl false)), some (.own (.dict [])), some (.v .non), some (.v .non), some (.v (.int 0)), some (.own (.lst []))] := rfl
  have h3 : ∀ s : MS, opEqv false (.v (.str [110, 111, 110, 101])) (.v (.str [110, 111, 110, 101])) s = .ok (.v (.bl true)) s := fun s => by rw [e_eqS (by decide) (by decide)]; rfl
  refine ⟨hp' ++ [WR FIRST], run_of (n := 6) (b := 0) (e := [some (.v (.lst (ns.map .int))), x1, x2, x3, x4, x5]) ?_⟩
  show b6 ⟨[some (.v (.lst (ns.map .int))), none, none, none, none, none], [], 0⟩ = _
  unfold b6
  simp [e_For, ← hm, hm2]
  rw [e]
  simp [e_mRun, mMakeD, q1', q2]
  simp [hW, h3]

end L_k33
namespace L_k33
open PySem PySem.Spec PyProof.Rows L2 Mi
theorem walk {l : PySem.W.OpenLaw} {q : Program} {loose : List Str} {XP : (Str → Option Value) → Heap → Prop} {YP : World → Heap → Prop} {d : DefRec} {K : Params → PySem.W.Frag} (hn : l.most = some 63) (hdf : d.params.defaults = [])
    (hY : ∀ (w : World) (h : Heap), YP w h → (K w.params).In h)
    (F : ∀ (w : World) (mg mb : Str → Option Value) (fa : Addr) (h : Heap) (lo : List Str) (mean : ExcName → Option Value), Top q lo mean mg mb h → YP w h → (K w.params).In h → h.Ns mainGlobals mg → mg d.name = some (.ref fa) →
      ∃ (fd : FuncData) (cs : List (Addr × Addr)) (sp : Sp), (∀ p ∈ cs, h.get? p.2 = some tabO) ∧ (∀ p ∈ cs, (K w.params).lookup p.2 = none) ∧ (∀ p ∈ cs, PySem.W.CodeHd h p.1 p.2) ∧ (∀ (s : Shared) (u : Value), BindsTo s fd ⟨[u], []⟩ [("_law_script", u)]) ∧
        (∀ (T : Hp) (a : Addr) (ns : List Int), ns.length ≤ 63 → (∀ p ∈ cs, T p.2 = some (.tbl #[])) → SqL (K w.params) T a (ns.map V.int) → sp [.ref a] T (fun v _ => v = .bl true) fun _ _ _ => False) ∧
        ∀ base : Heap, (K w.params).In base → base.Ns mainGlobals mg → (∀ p ∈ cs, LamX.TabB base mg p.1 p.2) → Mi.FnOk l.prog w (K w.params) mg base (L2.CX l.prog w) 6 fa fd ["_law_script"] sp) :
    PySem.W.WalkO q loose XP YP l.row.toRowW d [] (fun f vs => PySem.call f vs) :=
  walk_topT (n := 63) (k := 6) (x := "_law_script") (CX := fun w => L2.CX l.prog w) hn (by decide) hdf ⟨rfl, by decide, by decide⟩ hY F fun w H s e s1 z => no_CX z
end L_k33
open PySem PySem.W PyProof.Rows in
set_option maxRecDepth 100000 in
set_option maxHeartbeats 0 in
theorem PySem.Challenge.cw_roadbundle_k33_rules_looked_at_holds : PySem.Challenge.rw_roadbundle_k33_rules_looked_at.Holds := by
  w_on; o_law; k_head; (case hw => w_witness2)
  k_fill
  refine L_k33.walk (l := PySem.Challenge.rw_roadbundle_k33_rules_looked_at) rfl rfl (fun w h Y => PySem.W.km_in_of Y) ?F
  case F =>
    intro w mg mb fa h lo mean TP Y KX G hmg
    refine' L_k33.all_mk KX G hmg L_k33.law_true ?tn ?th ?tb ?x0 ?l0 ?c0 ?k0 ?i1 ?x1 ?l1 ?c1 ?k1 ?i2 ?x2 ?l2 ?c2 ?k2 ?x3 ?l3 ?c3 ?k3 ?x4 ?l4 ?c4 ?k4 ?x5 ?l5 ?c5 ?k5 ?x6 ?l6 ?c6 ?k6 ?tc ?tl ?tp ?kd1 ?kn1 ?aC0 ?pg0 ?hd0 ?po0 ?sa0 ?mK0 ?kc0 ?na0_0 ?na0_1 ?na0_2 ?na0_3 ?na0_4 ?na0_5 ?na0_6 ?na0_7 ?na0_8 ?na0_9 ?na0_10 ?na0_11 ?xa0 ?xe0 ?xy0 ?xh0 ?xa1 ?xL1 ?xs1 ?xi1 ?xt1 ?xl1 ?xc1 ?xp1 ?xk1 ?xe1 ?xy1 ?xh1 ?xf1 ?xg1 ?xG1 ?xC1 ?xm1 ?kx_0_1 ?kt_ValueError_1 ?xhn ?xht ?vV ?z_ValueError ?z_abs ?z_isinstance ?z_len ?z_max ?z_min ?z_range ?z_sorted ?z_str ?aCg_RULES ?lg_RULES ?ig_RULES
    (case aC0 => k_is)
    (case xa0 => k_is)
    (case xa1 => k_is)
    (case aCg_RULES => k_is)
    (case x0 => k_is)
    (case l0 => k_is)
    (case c0 => k_is)
    (case k0 => k_is)
    (case i1 => k_is)
    (case x1 => k_is)
    (case l1 => k_is)
    (case c1 => k_is)
    (case k1 => k_is)
    (case i2 => k_is)
    (case x2 => k_is)
    (case l2 => k_is)
    (case c2 => k_is)
    (case k2 => k_is)
    (case x3 => k_is)
    (case l3 => k_is)
    (case c3 => k_is)
    (case k3 => k_is)
    (case x4 => k_is)
    (case l4 => k_is)
    (case c4 => k_is)
    (case k4 => k_is)
    (case x5 => k_is)
    (case l5 => k_is)
    (case c5 => k_is)
    (case k5 => k_is)
    (case x6 => k_is)
    (case l6 => k_is)
    (case c6 => k_is)
    (case k6 => k_is)
    (case kd1 => exact rfl)
    (case kn1 => k_is)
    (case pg0 => k_is)
    (case hd0 => k_is)
    (case po0 => k_is)
    (case sa0 => k_is)
    (case mK0 => k_is)
    (case kc0 => k_is)
    (case na0_0 => k_is)
    (case na0_1 => k_is)
    (case na0_2 => k_is)
    (case na0_3 => k_is)
    (case na0_4 => k_is)
    (case na0_5 => k_is)
    (case na0_6 => k_is)
    (case na0_7 => k_is)
    (case na0_8 => k_is)
    (case na0_9 => k_is)
    (case na0_10 => k_is)
    (case na0_11 => k_is)
    (case xe0 => k_is)
    (case xy0 => k_is)
    (case xh0 => k_is)
    (case xL1 => k_is)
    (case xs1 => k_is)
    (case xi1 => k_is)
    (case xt1 => k_is)
    (case xl1 => k_is)
    (case xc1 => k_is)
    (case xp1 => k_is)
    (case xk1 => k_is)
    (case xe1 => k_is)
    (case xy1 => k_is)
    (case xh1 => k_is)
    (case xf1 => first | exact rfl | k_is)
    (case xg1 => k_is)
    (case xG1 => k_is)
    (case xC1 => k_is)
    (case xm1 => k_is)
    (case kx_0_1 => kit_is)
    (case kt_ValueError_1 => kit_is)
    (case xhn => k_is)
    (case xht => k_is)
    (case vV => k_is)
    (case z_ValueError => k_is)
    (case z_abs => k_is)
    (case z_isinstance => k_is)
    (case z_len => k_is)
    (case z_max => k_is)
    (case z_min => k_is)
    (case z_range => k_is)
    (case z_sorted => k_is)
    (case z_str => k_is)
    (case lg_RULES => k_is)
    (case ig_RULES => (repeat' (first | exact trivial | refine ⟨⟨_, _, rfl, rfl, rfl⟩, ?_⟩ | refine ⟨⟨_, _, rfl, rfl⟩, ?_⟩)))
    (case tc => exact rfl)
    (case tl => k_is)
    (case tp => exact rfl)
    (case tn => kernel_rfl)
    (case th => kernel_rfl)
    (case tb => exact PySem.W.km_tabs_of Y _ (by decide))
